import PyProof.Rows.All
import Wide.All
import OpenK.AllK
import Wide.FinOn
import HandS.ForMost
import HandS.ForExc
import HandS.ExcCtx
import HandS.HotCalls
import HandS.IsInst
import HandS.Deep
import HandS.Flow
import HandS.Wide
import HandS.Lambda
import HandS.TupAny
import HandS.TupMul
import HandS.TupLe
import HandS.Conv
import KE.DataEq
import KE.DataMinMax
import KE.SortData
import HandS.Style
import HandS.Zip
import HandS.SortInts
import HandS.SortKw
import PyProof.SumWalkG
import HandS.Ends
import HandS.SetFor
import HandS.Strs
import PyProof.Draws
import PyProof.EnumMake
import HandS.Zip0
import HandS.ExcIs
import HandS.ExcField
import HandS.ExcInit
import KE.KExcIs
import HandS.TupSets
import PyProof.TupleOfSeq
import HandS.Dict
import KE.KDictKeyed
import KE.GoesMore
import KE.GoesEnum
import PyProof.ReprRoads
import PyProof.ReprBulk
import HandS.Iter
import KE.KDictCopyH
import HandS.Call
import HandS.ExcValue
import KE.SortKeyHeap
import HandS.EndTab
import PySem.Challenge.RW_missingsets_k71_rows_and_rings_found
set_option Elab.async false
set_option linter.all false
set_option maxRecDepth 100000
set_option maxHeartbeats 0
/-! part a: values, runs, how data stand in the heap -/
namespace MS
open PySem PySem.Spec PyProof.Rows L2

abbrev D := PyData
/-- what a name of a def holds: data that nobody changes, an own list, an own dict -/
inductive OT where
  /-- an instance of an own class: what its names hold, and the list of its name `past` -/
  | ob (fs : List D) (xs : List D)
  /-- a tuple whose object is known -/
  | kt (ds : List D)
  /-- a list whose items are lists at rest, that nobody else has -/
  | nl (xss : List (List D))
inductive Val where
  | un | fz (d : D) | ol (xs : List D) | od (es : List (D × D)) | ow (t : OT)
def Val.own : Val → Bool
  | .ol _ => true
  | .od _ => true
  | .ow (.ob _ _) => true
  | .ow (.nl _) => true
  | _ => false
inductive Res (α : Type) where
  | ok (a : α) (r : List Val) | exc (c : String) (ds : List D) (r : List Val) | err
abbrev M (α : Type) := List Val → Res α
def M.ret {α : Type} (a : α) : M α := fun r => .ok a r
def M.bind {α β : Type} (m : M α) (k : α → M β) : M β := fun r => match m r with
  | .ok a r' => k a r'
  | .exc c ds r' => .exc c ds r'
  | .err => .err
def LINE : Nat := 16777216
theorem line_eq : sizeLine = LINE := by rw [sizeLine_eq]; rfl

def keyD : Key → D
  | .inl i => .int i
  | .inr x => .str x

/-- the list at a: tracked, or one of the top's own -/
def LiL (K : PySem.W.Frag) (H : Hp) (a : Addr) (xs : List V) : Prop := Rd H a (.lst xs) ∨ ∃ (its : List Value) (n : Nat), K.lookup a = some { cls := .type "list", dict := none, data := .seq its.toArray n, slots := #[] } ∧ its.length ≤ sizeLine ∧ Vals xs its
theorem LiL.sq {K : PySem.W.Frag} {H : Hp} {a : Addr} {xs : List V} (h : LiL K H a xs) : SqL K H a xs := by
  rcases h with h | ⟨its, n, e, l, v⟩
  · exact .inl h
  · exact .inr ⟨_, its.toArray, n, e, rfl, rfl, rfl, by simpa using l, by simpa using v⟩
mutual
/-- v stands for d, by what never changes any more (Z) -/
inductive Rep (K : PySem.W.Frag) (Z : Hp) : V → D → Prop
  | non : Rep K Z .non .none
  | bl (b : Bool) : Rep K Z (.bl b) (.bool b)
  | int (i : Int) : Rep K Z (.int i) (.int i)
  | str (x : Str) : Rep K Z (.str x) (.str x)
  | lst {a : Addr} {xs : List V} {ds : List D} : LiL K Z a xs → xs.length ≤ sizeLine → Reps K Z xs ds → Rep K Z (.ref a) (.list ds)
  | tup {a : Addr} {xs : List V} {ds : List D} : Z a = some (.tup xs) → xs.length ≤ sizeLine → Reps K Z xs ds → Rep K Z (.ref a) (.tuple ds)
  | dct {a : Addr} {kvs : List (List Key × V)} {es : List (D × D)} : Rd Z a (.dT kvs) → RepKs K Z kvs es → Rep K Z (.ref a) (.dict es)
inductive Reps (K : PySem.W.Frag) (Z : Hp) : List V → List D → Prop
  | nil : Reps K Z [] []
  | cons {v : V} {vs : List V} {d : D} {ds : List D} : Rep K Z v d → Reps K Z vs ds → Reps K Z (v :: vs) (d :: ds)
inductive RepKs (K : PySem.W.Frag) (Z : Hp) : List (List Key × V) → List (D × D) → Prop
  | nil : RepKs K Z [] []
  | cons {k : List Key} {v : V} {kvs : List (List Key × V)} {d : D} {es : List (D × D)} : Rep K Z v d → RepKs K Z kvs es → RepKs K Z ((k, v) :: kvs) ((.tuple (k.map keyD), d) :: es)
end

theorem Rd.same {H H' : Hp} {a : Addr} {u : HO} (e : Same H H') (r : Rd H a u) : Rd H' a u := by
  rcases r with r | ⟨o, r⟩
  · exact .inl (e _ _ r)
  · exact .inr ⟨o, e _ _ r⟩
theorem LiL.same {K : PySem.W.Frag} {H H' : Hp} {a : Addr} {xs : List V} (e : Same H H') (h : LiL K H a xs) : LiL K H' a xs := by
  rcases h with h | h
  · exact .inl (Rd.same e h)
  · exact .inr h
theorem SqL.same {K : PySem.W.Frag} {H H' : Hp} {a : Addr} {xs : List V} (e : Same H H') (h : SqL K H a xs) : SqL K H' a xs := by
  rcases h with h | h
  · exact .inl (Rd.same e h)
  · exact .inr h
theorem SqT.at {K : PySem.W.Frag} {Z H : Hp} {a : Addr} {xs : List V} (e : Same Z H) (h : Z a = some (.tup xs)) : SqT K H a xs := .inl (.inl (e _ _ h))
theorem SqT.same {K : PySem.W.Frag} {H H' : Hp} {a : Addr} {xs : List V} (e : Same H H') (h : SqT K H a xs) : SqT K H' a xs := by
  rcases h with h | h
  · exact .inl (Rd.same e h)
  · exact .inr h
section
variable {K : PySem.W.Frag} {Z Z' : Hp}
mutual
theorem Rep.mono (e : Same Z Z') : ∀ (d : D) (v : V), Rep K Z v d → Rep K Z' v d
  | .none, _, h => by cases h; exact .non
  | .bool b, _, h => by cases h; exact .bl b
  | .int i, _, h => by cases h; exact .int i
  | .str x, _, h => by cases h; exact .str x
  | .list ds, _, h => by
    cases h with
    | lst s l r => exact .lst (LiL.same e s) l (Reps.mono e ds _ r)
  | .tuple ds, _, h => by
    cases h with
    | tup s l r => exact .tup (e _ _ s) l (Reps.mono e ds _ r)
  | .dict es, _, h => by
    cases h with
    | dct s r => exact .dct (Rd.same e s) (RepKs.mono e es _ r)
theorem Reps.mono (e : Same Z Z') : ∀ (ds : List D) (vs : List V), Reps K Z vs ds → Reps K Z' vs ds
  | [], _, h => by cases h; exact .nil
  | d :: ds, _, h => by
    cases h with
    | cons r rs => exact .cons (Rep.mono e d _ r) (Reps.mono e ds _ rs)
theorem RepKs.mono (e : Same Z Z') : ∀ (es : List (D × D)) (kvs : List (List Key × V)), RepKs K Z kvs es → RepKs K Z' kvs es
  | [], _, h => by cases h; exact .nil
  | (_, d) :: es, _, h => by
    cases h with
    | cons r rs => exact .cons (Rep.mono e d _ r) (RepKs.mono e es _ rs)
end
theorem Rep.up (h : Rep K Z v d) (e : Same Z Z') : Rep K Z' v d := Rep.mono e _ _ h
theorem Reps.up (h : Reps K Z vs ds) (e : Same Z Z') : Reps K Z' vs ds := Reps.mono e _ _ h
theorem RepKs.up (h : RepKs K Z kvs es) (e : Same Z Z') : RepKs K Z' kvs es := RepKs.mono e _ _ h
theorem Reps.length {vs : List V} : ∀ {ds : List D}, Reps K Z vs ds → vs.length = ds.length := by
  induction vs with
  | nil => intro ds h; cases h; rfl
  | cons v vs ih =>
    intro ds h
    cases h with
    | cons r rs => rw [List.length_cons, List.length_cons, ih rs]
theorem Reps.get {vs : List V} : ∀ {ds : List D} {i : Nat} {d : D}, Reps K Z vs ds → ds[i]? = some d → ∃ v, vs[i]? = some v ∧ Rep K Z v d := by
  induction vs with
  | nil => intro ds i d h e; cases h; simp at e
  | cons v vs ih =>
    intro ds i d h e
    cases h with
    | cons r rs =>
      cases i with
      | zero => simp at e; subst e; exact ⟨v, by simp, r⟩
      | succ i =>
        obtain ⟨u, h1, h2⟩ := ih rs (i := i) (d := d) (by simpa using e)
        exact ⟨u, by simpa using h1, h2⟩
theorem Reps.getV {vs : List V} : ∀ {ds : List D} {i : Nat} {v : V}, Reps K Z vs ds → vs[i]? = some v → ∃ d, ds[i]? = some d ∧ Rep K Z v d := by
  induction vs with
  | nil => intro ds i d h e; simp at e
  | cons v vs ih =>
    intro ds i d h e
    cases h with
    | cons r rs =>
      cases i with
      | zero => simp at e; subst e; exact ⟨_, by simp, r⟩
      | succ i =>
        obtain ⟨u, h1, h2⟩ := ih rs (i := i) (v := d) (by simpa using e)
        exact ⟨u, by simpa using h1, h2⟩
theorem Reps.append {vs ws : List V} : ∀ {ds es : List D}, Reps K Z vs ds → Reps K Z ws es → Reps K Z (vs ++ ws) (ds ++ es) := by
  induction vs with
  | nil => intro ds es h g; cases h; exact g
  | cons v vs ih =>
    intro ds es h g
    cases h with
    | cons r rs => exact .cons r (ih rs g)
theorem Reps.take {vs : List V} : ∀ {ds : List D} (n : Nat), Reps K Z vs ds → Reps K Z (vs.take n) (ds.take n) := by
  induction vs with
  | nil => intro ds n h; cases h; simp; exact .nil
  | cons v vs ih =>
    intro ds n h
    cases h with
    | cons r rs =>
      cases n with
      | zero => simp; exact .nil
      | succ n => exact .cons r (ih n rs)
theorem Reps.drop {vs : List V} : ∀ {ds : List D} (n : Nat), Reps K Z vs ds → Reps K Z (vs.drop n) (ds.drop n) := by
  induction vs with
  | nil => intro ds n h; cases h; simp; exact .nil
  | cons v vs ih =>
    intro ds n h
    cases h with
    | cons r rs =>
      cases n with
      | zero => exact .cons r rs
      | succ n => exact ih n rs
theorem Reps.set {vs : List V} : ∀ {ds : List D} (n : Nat) {v : V} {d : D}, Reps K Z vs ds → Rep K Z v d → Reps K Z (vs.set n v) (ds.set n d) := by
  induction vs with
  | nil => intro ds n v d h g; cases h; simp; exact .nil
  | cons v vs ih =>
    intro ds n w d h g
    cases h with
    | cons r rs =>
      cases n with
      | zero => exact .cons g rs
      | succ n => exact .cons r (ih n rs g)
theorem Reps.erase {vs : List V} : ∀ {ds : List D} (n : Nat), Reps K Z vs ds → Reps K Z (vs.eraseIdx n) (ds.eraseIdx n) := by
  induction vs with
  | nil => intro ds n h; cases h; simp; exact .nil
  | cons v vs ih =>
    intro ds n h
    cases h with
    | cons r rs =>
      cases n with
      | zero => exact rs
      | succ n => exact .cons r (ih n rs)
theorem Reps.dropLast {vs : List V} {ds : List D} (h : Reps K Z vs ds) : Reps K Z vs.dropLast ds.dropLast := by
  rw [List.dropLast_eq_take, List.dropLast_eq_take, h.length]
  exact h.take _
theorem Reps.reverse {vs : List V} : ∀ {ds : List D}, Reps K Z vs ds → Reps K Z vs.reverse ds.reverse := by
  induction vs with
  | nil => intro ds h; cases h; exact .nil
  | cons v vs ih =>
    intro ds h
    cases h with
    | cons r rs =>
      rw [List.reverse_cons, List.reverse_cons]
      exact (ih rs).append (.cons r .nil)
theorem Reps.one {v : V} {d : D} (h : Rep K Z v d) : Reps K Z [v] [d] := .cons h .nil
/-- all items ints -/
def intsD : List D → Option (List Int)
  | [] => some []
  | .int i :: ds => (intsD ds).map (i :: ·)
  | _ :: _ => none
theorem Reps.ints {vs : List V} : ∀ {ds : List D} {ns : List Int}, Reps K Z vs ds → intsD ds = some ns → vs = ns.map V.int := by
  induction vs with
  | nil => intro ds ns h e; cases h; simp [intsD] at e; subst e; rfl
  | cons v vs ih =>
    intro ds ns h e
    cases h with
    | cons r rs =>
      rename_i d ds'
      cases d <;> simp [intsD] at e
      obtain ⟨ms, e1, rfl⟩ := e
      cases r
      rw [ih rs e1]; rfl
theorem intsD_map (ns : List Int) : intsD (ns.map PyData.int) = some ns := by
  induction ns with
  | nil => rfl
  | cons n ns ih => simp [intsD, ih]
theorem intsD_eq : ∀ {ds : List D} {ns : List Int}, intsD ds = some ns → ds = ns.map PyData.int := by
  intro ds
  induction ds with
  | nil => intro ns e; simp [intsD] at e; subst e; rfl
  | cons d ds ih =>
    intro ns e
    cases d <;> simp [intsD] at e
    obtain ⟨ms, e1, rfl⟩ := e
    rw [ih e1]; rfl
/-- all items truths -/
def blsD : List D → Option (List Bool)
  | [] => some []
  | .bool i :: ds => (blsD ds).map (i :: ·)
  | _ :: _ => none
theorem Reps.bls {vs : List V} : ∀ {ds : List D} {ns : List Bool}, Reps K Z vs ds → blsD ds = some ns → vs = ns.map V.bl := by
  induction vs with
  | nil => intro ds ns h e; cases h; simp [blsD] at e; subst e; rfl
  | cons v vs ih =>
    intro ds ns h e
    cases h with
    | cons r rs =>
      rename_i d ds'
      cases d <;> simp [blsD] at e
      obtain ⟨ms, e1, rfl⟩ := e
      cases r
      rw [ih rs e1]; rfl
theorem blsD_map (ns : List Bool) : blsD (ns.map PyData.bool) = some ns := by
  induction ns with
  | nil => rfl
  | cons n ns ih => simp [blsD, ih]
/-! no dict within: L2's data -/
mutual
theorem Rep.dp : ∀ (d : D) (v : V), d.canLay0 = true → Rep K Z v d → Dp K Z v d
  | .none, _, _, h => by cases h; exact .non
  | .bool b, _, _, h => by cases h; exact .bl b
  | .int i, _, _, h => by cases h; exact .int i
  | .str x, _, _, h => by cases h; exact .str x
  | .list ds, _, c, h => by
    cases h with
    | lst s l r => exact .lst (LiL.sq s) (Reps.dp ds _ (by simpa [PyData.canLay0] using c) r)
  | .tuple ds, _, c, h => by
    cases h with
    | tup s l r => exact .tup (.inl (.inl s)) (Reps.dp ds _ (by simpa [PyData.canLay0] using c) r)
  | .dict es, _, c, _ => by simp [PyData.canLay0] at c
theorem Reps.dp : ∀ (ds : List D) (vs : List V), PyData.canLayAll0 ds = true → Reps K Z vs ds → DpAll K Z vs ds
  | [], _, _, h => by cases h; exact .nil
  | d :: ds, _, c, h => by
    cases h with
    | cons r rs =>
      have c' : d.canLay0 = true ∧ PyData.canLayAll0 ds = true := by simpa [PyData.canLayAll0] using c
      exact .cons (Rep.dp d _ c'.1 r) (Reps.dp ds _ c'.2 rs)
end
end

/-! ### the state of a def -/
/-- the names of the own class, and its list -/
def obN : List Str := ["n", "k", "lot"]
def obL : Str := "past"
def obF (vf : List V) (p : Addr) : List (Str × V) := obN.zip vf ++ [(obL, .ref p)]
/-- the list within -/
def hidA (H : Hp) (a : Addr) : List Addr := match H a with
  | some (.ins _ _ fl) => match fl.lookup obL with
    | some (.ref p) => [p]
    | _ => []
  | _ => []
/-- the objects that belong to it -/
def ft (H : Hp) (a : Addr) : OT → List Addr
  | .ob _ _ => a :: hidA H a
  | .kt _ => []
  | .nl _ => [a]
def foot (H : Hp) (y : Option (Option V)) (v : Val) : List Addr := match y with
  | some (some (.ref a)) => match v with
    | .ol _ => [a]
    | .od _ => [a]
    | .ow t => ft H a t
    | _ => []
  | _ => []
/-- no tuple (a tuple never changes: it may come to rest at any time) -/
def NT : HO → Prop
  | .tup _ => False
  | _ => True
/-- what can belong to a name -/
def OwnO : HO → Prop
  | .lst _ => True
  | .dT _ => True
  | .ins _ _ _ => True
  | _ => False
theorem OwnO.nt {o : HO} (h : OwnO o) : NT o := by
  cases o with
  | tup xs => exact h.elim
  | _ => exact True.intro
/-- plain lists at rest -/
inductive Pln (K : PySem.W.Frag) (Z : Hp) : List V → List (List D) → Prop
  | nil : Pln K Z [] []
  | cons {b : Addr} {us vs : List V} {xs : List D} {xss : List (List D)} : Z b = some (.lst us) → us.length ≤ sizeLine → Reps K Z us xs → Pln K Z vs xss → Pln K Z (.ref b :: vs) (xs :: xss)
theorem Pln.mono {K : PySem.W.Frag} {Z Z' : Hp} (e : Same Z Z') : ∀ {vs : List V} {xss : List (List D)}, Pln K Z vs xss → Pln K Z' vs xss := by
  intro vs xss h
  induction h with
  | nil => exact .nil
  | cons h1 l q _ ih => exact .cons (e _ _ h1) l (q.up e) ih
theorem Pln.length {K : PySem.W.Frag} {Z : Hp} {vs : List V} {xss : List (List D)} (h : Pln K Z vs xss) : vs.length = xss.length := by
  induction h with
  | nil => rfl
  | cons _ _ _ _ ih => rw [List.length_cons, List.length_cons, ih]
theorem Pln.snoc {K : PySem.W.Frag} {Z : Hp} {b : Addr} {us : List V} {xs : List D} {vs : List V} {xss : List (List D)} (h : Pln K Z vs xss) (h1 : Z b = some (.lst us)) (l : us.length ≤ sizeLine) (q : Reps K Z us xs) : Pln K Z (vs ++ [.ref b]) (xss ++ [xs]) := by
  induction h with
  | nil => exact .cons h1 l q .nil
  | cons k1 k2 k3 _ ih => exact .cons k1 k2 k3 ih
theorem Pln.reps {K : PySem.W.Frag} {Z : Hp} {vs : List V} {xss : List (List D)} (h : Pln K Z vs xss) : Reps K Z vs (xss.map PyData.list) := by
  induction h with
  | nil => exact .nil
  | cons h1 l q _ ih => exact .cons (.lst (.inl (.inl h1)) l q) ih
/-- no table of code objects is held -/
def NoT (T : List (Addr × Str)) (Z : Hp) : Prop := ∀ b ∈ T.map Prod.fst, Z b = none
/-- all but the tables -/
def noT (T : List (Addr × Str)) (H : Hp) : Hp := fun b => if b ∈ T.map Prod.fst then none else H b
theorem noT_same {T : List (Addr × Str)} {H : Hp} : Same (noT T H) H := fun b o e => by
  unfold noT at e
  split at e
  · cases e
  · exact e
theorem tab_ne {T : List (Addr × Str)} {H : Hp} (t : LamX.Tabs T H) {b : Addr} {o : HO} (h : H b = some o) (n : ∀ ps, o ≠ .tbl ps) : b ∉ T.map Prod.fst := fun m => by
  obtain ⟨p, hp, rfl⟩ := List.mem_map.mp m
  obtain ⟨ps, h1, _⟩ := t p hp
  rw [h] at h1
  exact n ps (Option.some.inj h1)
theorem tab_new {T : List (Addr × Str)} {H : Hp} (t : LamX.Tabs T H) {b : Addr} (h : H b = none) : b ∉ T.map Prod.fst := fun m => by
  obtain ⟨p, hp, rfl⟩ := List.mem_map.mp m
  obtain ⟨ps, h1, _⟩ := t p hp
  rw [h] at h1
  cases h1
theorem noT_at {T : List (Addr × Str)} {H : Hp} {b : Addr} {o : HO} (h : H b = some o) (t : LamX.Tabs T H) (n : ∀ ps, o ≠ .tbl ps) : noT T H b = some o := by
  unfold noT
  rw [if_neg (tab_ne t h n)]
  exact h
theorem noT_no {T : List (Addr × Str)} {H : Hp} : NoT T (noT T H) := fun b hb => if_pos hb
theorem NoT.same {T : List (Addr × Str)} {Z H : Hp} (n : NoT T Z) (s : Same Z H) : Same Z (noT T H) := fun b o e => by
  unfold noT
  rw [if_neg fun m => by rw [n b m] at e; cases e]
  exact s b o e
theorem NoT.upd {T : List (Addr × Str)} {Z : Hp} (n : NoT T Z) {p : Addr} {o : HO} (h : p ∉ T.map Prod.fst) : NoT T (upd Z p o) := fun b hb => by
  have q : b ≠ p := fun e => h (by rw [← e]; exact hb)
  rw [upd_ne q]
  exact n b hb
theorem OwnO.not {o : HO} (h : OwnO o) : ∀ ps, o ≠ .tbl ps := fun ps e => by rw [e] at h; exact h
/-- tables stay where what no name owns stays -/
theorem tabs_keep {T : List (Addr × Str)} {H H' : Hp} (t : LamX.Tabs T H) (e : ∀ b o, H b = some o → ¬ OwnO o → H' b = some o) : LamX.Tabs T H' := fun p hp => by
  obtain ⟨ps, h1, h2, h3⟩ := t p hp
  refine ⟨ps, e _ _ h1 (fun h => h), h2, fun pos cv hc => ?_⟩
  obtain ⟨c, e1, e2⟩ := h3 pos cv hc
  exact ⟨c, e1, e _ _ e2 (fun h => h)⟩
theorem tabs_upd {T : List (Addr × Str)} {H : Hp} {a : Addr} {o o0 : HO} (t : LamX.Tabs T H) (h : H a = some o0) (n : OwnO o0) : LamX.Tabs T (upd H a o) := tabs_keep t fun b u e q => by
  rw [upd_ne fun z => q (by rw [z, h] at e; cases e; exact n)]
  exact e
/-- how it stands -/
def OwAt (K : PySem.W.Frag) (dk : Addr → Prop) (Z H : Hp) (a : Addr) : OT → Prop
  | .ob fs xs => ∃ C dx p vf vs, dk C ∧ H a = some (.ins C dx (obF vf p)) ∧ vf.length = 3 ∧ Reps K Z vf fs ∧ H p = some (.lst vs) ∧ vs.length ≤ sizeLine ∧ Reps K Z vs xs
  | .kt ds => ∃ xs o, Z a = some (.frz o (.tup xs)) ∧ o.dict = none ∧ xs.length ≤ sizeLine ∧ Reps K Z xs ds
  | .nl xss => ∃ vs, H a = some (.lst vs) ∧ vs.length ≤ sizeLine ∧ Pln K Z vs xss
theorem obF_past {vf : List V} {p : Addr} (h : vf.length = 3) : (obF vf p).lookup obL = some (.ref p) := by
  match vf, h with
  | [a, b, c], _ => rfl
section
variable {K : PySem.W.Frag} {dk : Addr → Prop} {Z Z' H H' : Hp} {a : Addr} {t : OT}
theorem ob_ft {fs xs : List D} {C dx p : Addr} {vf : List V} (h1 : H a = some (.ins C dx (obF vf p))) (l : vf.length = 3) : ft H a (.ob fs xs) = [a, p] := by
  show a :: hidA H a = _
  unfold hidA
  rw [h1]
  simp only
  rw [obF_past l]
theorem OwAt.at (h : OwAt K dk Z H a t) : ∀ b ∈ ft H a t, ∃ o, H b = some o ∧ OwnO o := by
  cases t with
  | ob fs xs =>
    obtain ⟨C, dx, p, vf, vs, _, h1, l, _, h2, _⟩ := h
    rw [ob_ft h1 l]
    intro b hb
    rcases List.mem_cons.mp hb with rfl | hb
    · exact ⟨_, h1, trivial⟩
    · rw [List.mem_singleton.mp hb]
      exact ⟨_, h2, trivial⟩
  | kt ds => exact fun b hb => nomatch hb
  | nl xss =>
    obtain ⟨vs, h1, _⟩ := h
    intro b hb
    rw [List.mem_singleton.mp (show b ∈ [a] from hb)]
    exact ⟨_, h1, trivial⟩
theorem OwAt.congr (h : OwAt K dk Z H a t) (e : ∀ b ∈ ft H a t, H' b = H b) (z : Same Z Z') : OwAt K dk Z' H' a t ∧ ft H' a t = ft H a t := by
  cases t with
  | ob fs xs =>
    obtain ⟨C, dx, p, vf, vs, dc, h1, l, q1, h2, l2, q2⟩ := h
    rw [ob_ft h1 l] at e ⊢
    have e1 := (e a List.mem_cons_self).trans h1
    have e2 := (e p (by simp)).trans h2
    exact ⟨⟨C, dx, p, vf, vs, dc, e1, l, q1.up z, e2, l2, q2.up z⟩, ob_ft e1 l⟩
  | kt ds =>
    obtain ⟨xs, o, h1, d, l, q⟩ := h
    exact ⟨⟨xs, o, z _ _ h1, d, l, q.up z⟩, rfl⟩
  | nl xss =>
    obtain ⟨vs, h1, l, q⟩ := h
    exact ⟨⟨vs, (e a (List.mem_singleton.mpr rfl)).trans h1, l, q.mono z⟩, rfl⟩
theorem OwAt.grow (h : OwAt K dk Z H a t) (s : Same H H') (z : Same Z Z') : OwAt K dk Z' H' a t ∧ ft H' a t = ft H a t :=
  h.congr (fun b hb => by obtain ⟨o, e, _⟩ := h.at b hb; rw [s _ _ e, e]) z
end
theorem foot_un {H : Hp} {y : Option (Option V)} : foot H y .un = [] := by unfold foot; split <;> rfl
theorem foot_fz {H : Hp} {y : Option (Option V)} {d : D} : foot H y (.fz d) = [] := by unfold foot; split <;> rfl
theorem foot_no {H : Hp} {y : Option (Option V)} {v : Val} (h : v.own = false) : foot H y v = [] := by
  cases v with
  | un => exact foot_un
  | fz d => exact foot_fz
  | ow t =>
    cases t with
    | ob fs xs => cases h
    | kt ds => unfold foot; split <;> rfl
    | nl xss => cases h
  | _ => cases h
theorem foot_own {H : Hp} {y : Option (Option V)} {v : Val} {b : Addr} (h : b ∈ foot H y v) : v.own = true := by
  cases e : v.own with
  | true => rfl
  | false => rw [foot_no e] at h; cases h
/-- a slot -/
def SlotR (K : PySem.W.Frag) (dk : Addr → Prop) (Z F H : Hp) (y : Option (Option V)) : Val → Prop
  | .un => True
  | .fz d => ∃ x, y = some (some x) ∧ Rep K Z x d
  | .ol xs => ∃ a vs, y = some (some (.ref a)) ∧ H a = some (.lst vs) ∧ vs.length ≤ sizeLine ∧ Reps K Z vs xs ∧ Z a = none ∧ F a = none
  | .od es => ∃ a kvs, y = some (some (.ref a)) ∧ H a = some (.dT kvs) ∧ RepKs K Z kvs es ∧ Z a = none ∧ F a = none
  | .ow t => ∃ a, y = some (some (.ref a)) ∧ OwAt K dk Z H a t ∧ ∀ b ∈ ft H a t, Z b = none ∧ F b = none
structure Ex where
  x : String → List D → Value → Option Addr → Hp → Prop
  dk : Addr → Prop := fun _ => False
  /-- the tables of code objects, and the name that each code object in them bears -/
  tb : List (Addr × Str) := []
instance : CoeFun Ex fun _ => String → List D → Value → Option Addr → Hp → Prop := ⟨Ex.x⟩
/-- what is fixed through a def's run: the written part, the slots that stay (the parameters that are changed for the caller) -/
structure Fx where
  K : PySem.W.Frag
  B : List Nat
  t : L2.St
  ex : Ex
  /-- what stands framed all the time -/
  hx : Hp := fun _ => none
structure G (X : Fx) (Z F : Hp) (r : List Val) (σ : L2.St) (H : Hp) : Prop where
  zh : Same Z H
  fh : Same F H
  len : r.length = σ.length
  sl : ∀ (i : Nat) (v : Val), r[i]? = some v → SlotR X.K X.ex.dk Z F H σ[i]? v
  di : ∀ (i j : Nat) (v w : Val) (a : Addr), r[i]? = some v → r[j]? = some w → a ∈ foot H σ[i]? v → a ∈ foot H σ[j]? w → i = j
  kp : ∀ i ∈ X.B, σ[i]? = X.t[i]?
  hh : Same X.hx F
  nz : NoT X.ex.tb Z
  nf : NoT X.ex.tb F
  tb : LamX.Tabs X.ex.tb H
/-- the held part has grown, away from what is framed -/
def Ext (Z Z' F : Hp) : Prop := Same Z Z' ∧ ∀ b o, F b = some o → NT o → Z b = none → Z' b = none
theorem Ext.refl (Z F : Hp) : Ext Z Z F := ⟨Same.refl Z, fun _ _ _ _ h => h⟩
theorem Ext.trans {Z Z1 Z2 F : Hp} (a : Ext Z Z1 F) (b : Ext Z1 Z2 F) : Ext Z Z2 F := ⟨a.1.trans b.1, fun c o h t n => b.2 c o h t (a.2 c o h t n)⟩
/-- the held part has grown by new objects -/
def Grown (Z Z' H : Hp) : Prop := Same Z Z' ∧ ∀ b o, H b = some o → NT o → Z b = none → Z' b = none
theorem Grown.refl (Z H : Hp) : Grown Z Z H := ⟨Same.refl Z, fun _ _ _ _ h => h⟩
theorem Grown.ext {Z Z' F H : Hp} (g : Grown Z Z' H) (h : Same F H) : Ext Z Z' F := ⟨g.1, fun b o e t n => g.2 b o (h b o e) t n⟩
/-- it belongs to no slot -/
def Out (H : Hp) (r : List Val) (σ : L2.St) (b : Addr) : Prop := ∀ (i : Nat) (v : Val), r[i]? = some v → b ∉ foot H σ[i]? v
/-- the place of a result -/
def RV (X : Fx) (Z F H : Hp) (r : List Val) (σ : L2.St) (x : V) : Val → Prop
  | .un => False
  | .fz d => Rep X.K Z x d
  | .ol xs => ∃ a vs, x = .ref a ∧ H a = some (.lst vs) ∧ vs.length ≤ sizeLine ∧ Reps X.K Z vs xs ∧ Z a = none ∧ F a = none ∧ Out H r σ a
  | .od es => ∃ a kvs, x = .ref a ∧ H a = some (.dT kvs) ∧ RepKs X.K Z kvs es ∧ Z a = none ∧ F a = none ∧ Out H r σ a
  | .ow t => ∃ a, x = .ref a ∧ OwAt X.K X.ex.dk Z H a t ∧ ∀ b ∈ ft H a t, Z b = none ∧ F b = none ∧ Out H r σ b
section
variable {X : Fx} {Z Z' F F' H H' : Hp} {r r' : List Val} {σ σ' : L2.St} {x : V} {v : Val} {K : PySem.W.Frag} {dk : Addr → Prop} {y : Option (Option V)}
/-- what belongs to a slot stands -/
theorem SlotR.at (h : SlotR K dk Z F H y v) : ∀ b ∈ foot H y v, (∃ o, H b = some o ∧ OwnO o) ∧ Z b = none ∧ F b = none := by
  cases v with
  | un => rw [foot_un]; exact fun b hb => nomatch hb
  | fz d => rw [foot_fz]; exact fun b hb => nomatch hb
  | ol xs =>
    obtain ⟨a, vs, rfl, h1, _, _, z, f⟩ := h
    intro b hb
    rw [List.mem_singleton.mp (show b ∈ [a] from hb)]
    exact ⟨⟨_, h1, trivial⟩, z, f⟩
  | od xs =>
    obtain ⟨a, vs, rfl, h1, _, z, f⟩ := h
    intro b hb
    rw [List.mem_singleton.mp (show b ∈ [a] from hb)]
    exact ⟨⟨_, h1, trivial⟩, z, f⟩
  | ow t =>
    obtain ⟨a, rfl, h1, zf⟩ := h
    exact fun b hb => ⟨h1.at b hb, zf b hb⟩
/-- a slot stays, where its own objects stay -/
theorem SlotR.congr (h : SlotR K dk Z F H y v) (e : ∀ b ∈ foot H y v, H' b = H b) (z : Same Z Z') (zf : ∀ b ∈ foot H y v, Z' b = none ∧ F' b = none) : SlotR K dk Z' F' H' y v ∧ foot H' y v = foot H y v := by
  cases v with
  | un => exact ⟨trivial, by rw [foot_un, foot_un]⟩
  | fz d => obtain ⟨x, ey, q⟩ := h; exact ⟨⟨x, ey, q.up z⟩, by rw [foot_fz, foot_fz]⟩
  | ol xs =>
    obtain ⟨a, vs, rfl, h1, l, q, _, _⟩ := h
    have m : a ∈ foot H (some (some (.ref a))) (.ol xs) := List.mem_singleton.mpr rfl
    exact ⟨⟨a, vs, rfl, (e a m).trans h1, l, q.up z, zf a m⟩, rfl⟩
  | od xs =>
    obtain ⟨a, vs, rfl, h1, q, _, _⟩ := h
    have m : a ∈ foot H (some (some (.ref a))) (.od xs) := List.mem_singleton.mpr rfl
    exact ⟨⟨a, vs, rfl, (e a m).trans h1, q.up z, zf a m⟩, rfl⟩
  | ow t =>
    obtain ⟨a, rfl, h1, _⟩ := h
    obtain ⟨h2, e2⟩ := h1.congr (H' := H') e z
    exact ⟨⟨a, rfl, h2, fun b hb => zf b (by rw [e2] at hb; exact hb)⟩, e2⟩
/-- the heap has grown, the held part too -/
theorem SlotR.grow2 (h : SlotR K dk Z F H y v) (s : Same H H') (g : Grown Z Z' H) : SlotR K dk Z' F H' y v ∧ foot H' y v = foot H y v :=
  h.congr (fun b hb => by obtain ⟨⟨o, e, _⟩, _⟩ := h.at b hb; rw [s _ _ e, e]) g.1 fun b hb => by
    obtain ⟨⟨o, e, n⟩, z, f⟩ := h.at b hb
    exact ⟨g.2 b o e (OwnO.nt n) z, f⟩
theorem SlotR.grow (h : SlotR K dk Z F H y v) (s : Same H H') (g : Grown Z Z' H) : SlotR K dk Z' F H' y v := (h.grow2 s g).1
theorem G.grow (g : G X Z F r σ H) (s : Same H H') (e : Grown Z Z' H) (z : Same Z' H') : G X Z' F r σ H' :=
  ⟨z, g.fh.trans s, g.len, fun i v h => (g.sl i v h).grow s e, fun i j v w b h1 h2 e1 e2 => by
    rw [((g.sl i v h1).grow2 s e).2] at e1
    rw [((g.sl j w h2).grow2 s e).2] at e2
    exact g.di i j v w b h1 h2 e1 e2, g.kp, g.hh, fun b hb => by
      obtain ⟨p, hp, rfl⟩ := List.mem_map.mp hb
      obtain ⟨ps, h1, _⟩ := g.tb p hp
      exact e.2 _ _ h1 True.intro (g.nz _ hb), g.nf, g.tb.ext s⟩
/-- all but the tables stays -/
theorem G.growT (g : G X Z F r σ H) (s : Same (noT X.ex.tb H) H') (tb : LamX.Tabs X.ex.tb H') : G X Z F r σ H' := by
  have c : ∀ (i : Nat) (v : Val), r[i]? = some v → SlotR X.K X.ex.dk Z F H' σ[i]? v ∧ foot H' σ[i]? v = foot H σ[i]? v := fun i v h =>
    (g.sl i v h).congr (fun b hb => by
      obtain ⟨⟨o, e, n⟩, _, _⟩ := (g.sl i v h).at b hb
      rw [s _ _ (noT_at e g.tb n.not), e]) (Same.refl Z) fun b hb => ((g.sl i v h).at b hb).2
  exact ⟨(g.nz.same g.zh).trans s, (g.nf.same g.fh).trans s, g.len, fun i v h => (c i v h).1, fun i j v w b h1 h2 e1 e2 => by
    rw [(c i v h1).2] at e1
    rw [(c j w h2).2] at e2
    exact g.di i j v w b h1 h2 e1 e2, g.kp, g.hh, g.nz, g.nf, tb⟩
theorem Out.grow {b : Addr} (o : Out H r σ b) (g : G X Z F r σ H) (s : Same H H') (e : Grown Z Z' H) : Out H' r σ b := fun i v h m => by
  rw [((g.sl i v h).grow2 s e).2] at m
  exact o i v h m
theorem Same.upd {p : Addr} {o : HO} (n : H p = none) : Same H (upd H p o) := fun b u e => by rw [upd_ne (ne_of_none e n)]; exact e
/-- an address that no object of a slot has -/
theorem G.out (g : G X Z F r σ H) {b : Addr} (h : H b = none ∨ Z b ≠ none ∨ F b ≠ none) : Out H r σ b := fun i v e m => by
  obtain ⟨⟨o, h1, _⟩, z, f⟩ := (g.sl i v e).at b m
  rcases h with h | h | h
  · rw [h] at h1; cases h1
  · exact h z
  · exact h f
/-- .. is held fast -/
theorem G.hold (g : G X Z F r σ H) {a : Addr} {o : HO} (h1 : H a = some o) (z : Z a = none) (f : F a = none) (dj : Out H r σ a) (hn : ∀ ps, o ≠ .tbl ps := by exact fun _ h => nomatch h) : Ext Z (upd Z a o) F ∧ G X (upd Z a o) F r σ H := by
  have s : Same Z (upd Z a o) := Same.upd z
  refine ⟨⟨s, fun b u e _ n => ?_⟩, ⟨fun b u e => ?_, g.fh, g.len, fun i v hv => ?_, g.di, g.kp, g.hh, g.nz.upd (tab_ne g.tb h1 hn), g.nf, g.tb⟩⟩
  · rw [upd_ne (ne_of_none e f)]; exact n
  · by_cases hb : b = a
    · subst hb; rw [upd_same] at e; cases e; exact h1
    · rw [upd_ne hb] at e; exact g.zh b u e
  · refine ((g.sl i v hv).congr (H' := H) (fun _ _ => rfl) s fun b hb => ?_).1
    obtain ⟨_, z2, f2⟩ := (g.sl i v hv).at b hb
    exact ⟨by rw [upd_ne fun q => dj i v hv (by rw [← q]; exact hb)]; exact z2, f2⟩
/-- an own list (dict) comes to rest -/
theorem RV.rest (g : G X Z F r σ H) (h : RV X Z F H r σ x v) (hw : ∀ t, v ≠ .ow t) : ∃ Z' d, Ext Z Z' F ∧ G X Z' F r σ H ∧ Rep X.K Z' x d ∧ (match v with | .fz e => d = e | .ol xs => d = .list xs | .od es => d = .dict es | .un => False | .ow _ => False) := by
  cases v with
  | un => exact h.elim
  | ow t => exact absurd rfl (hw t)
  | fz d => exact ⟨Z, d, Ext.refl _ _, g, h, rfl⟩
  | ol xs =>
    obtain ⟨a, vs, rfl, h1, l, q, z, f, dj⟩ := h
    obtain ⟨e, g'⟩ := g.hold h1 z f dj
    exact ⟨_, _, e, g', .lst (.inl (.inl upd_same)) l (q.up e.1), rfl⟩
  | od es =>
    obtain ⟨a, kvs, rfl, h1, q, z, f, dj⟩ := h
    obtain ⟨e, g'⟩ := g.hold h1 z f dj
    exact ⟨_, _, e, g', .dct (.inl upd_same) (q.up e.1), rfl⟩
end
end MS

/-! part b: operands, operators -/
namespace MS
open PySem PySem.Spec PyProof.Rows L2

/-- v stands for d at this moment: its own object as H has it, what lies within held -/
def RepH (K : PySem.W.Frag) (Z H : Hp) (x : V) : D → Prop
  | .list ds => ∃ a vs, x = .ref a ∧ LiL K H a vs ∧ vs.length ≤ sizeLine ∧ Reps K Z vs ds
  | .dict es => ∃ a kvs, x = .ref a ∧ Rd H a (.dT kvs) ∧ RepKs K Z kvs es
  | d => Rep K Z x d
section
variable {K : PySem.W.Frag} {Z Z' H H' : Hp} {x : V} {d : D}
theorem Rep.here (h : Rep K Z x d) (s : Same Z H) : RepH K Z H x d := by
  cases h with
  | lst r l q => exact ⟨_, _, rfl, LiL.same s r, l, q⟩
  | dct r q => exact ⟨_, _, rfl, Rd.same s r, q⟩
  | non => exact .non
  | bl b => exact .bl b
  | int i => exact .int i
  | str i => exact .str i
  | tup a b c => exact .tup a b c
theorem RepH.all (h : RepH K Z H x d) (s : Same Z H) : Rep K H x d := by
  cases d with
  | list ds => obtain ⟨a, vs, rfl, r, l, q⟩ := h; exact .lst r l (q.up s)
  | dict es => obtain ⟨a, kvs, rfl, r, q⟩ := h; exact .dct r (q.up s)
  | _ => exact Rep.up h s
/-- what is left to show of a fresh result -/
def NewV (K : PySem.W.Frag) (Z' H H' : Hp) (x : V) : Val → Prop
  | .un => False
  | .fz d => Rep K Z' x d
  | .ol xs => ∃ a vs, x = .ref a ∧ H a = none ∧ H' a = some (.lst vs) ∧ vs.length ≤ sizeLine ∧ Reps K Z' vs xs ∧ Z' a = none
  | .od es => ∃ a kvs, x = .ref a ∧ H a = none ∧ H' a = some (.dT kvs) ∧ RepKs K Z' kvs es ∧ Z' a = none
  | .ow _ => False
def Fresh (K : PySem.W.Frag) (Z H : Hp) (v : Val) (Q : VK) : Prop := ∀ x Z' H', Same H H' → Grown Z Z' H → Same Z' H' → NewV K Z' H H' x v → Q x H'
theorem Fresh.sc {Q : VK} (h : Fresh K Z H (.fz d) Q) (z : Same Z H) (r : Rep K Z x d) : Q x H := h x Z H (Same.refl H) (Grown.refl Z H) z r
theorem none_of (s : Same Z H) {p : Addr} (n : H p = none) : Z p = none := by
  cases e : Z p with
  | none => rfl
  | some o => rw [s _ _ e] at n; cases n
theorem same_both (z : Same Z H) {p : Addr} {o : HO} (n : H p = none) : Same (upd Z p o) (upd H p o) := fun b u e => by
  by_cases hb : b = p
  · subst hb; rw [upd_same] at e ⊢; exact e
  · rw [upd_ne hb] at e ⊢; exact z _ _ e
theorem grown_new (z : Same Z H) {p : Addr} {o : HO} (n : H p = none) : Grown Z (upd Z p o) H := ⟨Same.upd (none_of z n), fun b u e _ m => by rw [upd_ne (ne_of_none e n)]; exact m⟩
theorem same_up (z : Same Z H) {p : Addr} {o : HO} (n : H p = none) : Same Z (upd H p o) := z.trans (Same.upd n)
theorem Fresh.tup {ds : List D} {vs : List V} {Q : VK} (h : Fresh K Z H (.fz (.tuple ds)) Q) (z : Same Z H) (r : Reps K Z vs ds) (l : vs.length ≤ sizeLine) : ∀ p, H p = none → Q (.ref p) (upd H p (.tup vs)) := fun p n =>
  h (.ref p) (upd Z p (.tup vs)) _ (Same.upd n) (grown_new z n) (same_both z n) (.tup upd_same l (r.up (Same.upd (none_of z n))))
theorem Fresh.lst {ds : List D} {vs : List V} {Q : VK} (h : Fresh K Z H (.ol ds) Q) (z : Same Z H) (r : Reps K Z vs ds) (l : vs.length ≤ sizeLine) : ∀ p, H p = none → Q (.ref p) (upd H p (.lst vs)) := fun p n =>
  h (.ref p) Z _ (Same.upd n) (Grown.refl Z H) (same_up z n) ⟨p, vs, rfl, n, upd_same, l, r, none_of z n⟩
theorem Fresh.dct {es : List (D × D)} {kvs : List (List Key × V)} {Q : VK} (h : Fresh K Z H (.od es) Q) (z : Same Z H) (r : RepKs K Z kvs es) : ∀ p, H p = none → Q (.ref p) (upd H p (.dT kvs)) := fun p n =>
  h (.ref p) Z _ (Same.upd n) (Grown.refl Z H) (same_up z n) ⟨p, kvs, rfl, n, upd_same, r, none_of z n⟩
end

/-! ### runs -/
def slotD (r : List Val) (i : Nat) : Option D := match r[i]? with
  | some (.fz d) => some d
  | some (.ol xs) => some (.list xs)
  | some (.od es) => some (.dict es)
  | some (.ow (.nl xss)) => some (.list (xss.map PyData.list))
  | _ => none
/-- a result comes to rest -/
def frz (m : M Val) : M D := fun r => match m r with
  | .ok (.fz d) r' => .ok d r'
  | .ok (.ol xs) r' => .ok (.list xs) r'
  | .ok (.od es) r' => .ok (.dict es) r'
  | .ok .un _ => .err
  | .ok (.ow _) _ => .err
  | .exc c ds r' => .exc c ds r'
  | .err => .err
/-- an operand: a name that is looked at, or a run -/
inductive Opd where
  | sl (i : Nat) | v (m : M Val)
def Opd.pre : Opd → M D
  | .sl i => fun r => match slotD r i with
    | some d => .ok d r
    | none => .err
  | .v m => frz m
def Opd.look : Opd → D → List Val → Option D
  | .sl i, _, r => slotD r i
  | .v _, d, _ => some d
def ev1 (o : Opd) : M D := o.pre
def ev2 (a b : Opd) : M (D × D) := fun r => match a.pre r with
  | .ok d r1 => match b.pre r1 with
    | .ok e r2 => match a.look d r2 with
      | some d' => .ok (d', e) r2
      | none => .err
    | .exc c ds r' => .exc c ds r'
    | .err => .err
  | .exc c ds r' => .exc c ds r'
  | .err => .err
def pres : List Opd → M (List D)
  | [] => M.ret []
  | o :: os => M.bind o.pre fun d => M.bind (pres os) fun ds => M.ret (d :: ds)
def looks : List Opd → List D → List Val → Option (List D)
  | [], [], _ => some []
  | o :: os, d :: ds, r => match o.look d r with
    | some e => (looks os ds r).map (e :: ·)
    | none => none
  | _, _, _ => none
def evs (os : List Opd) : M (List D) := fun r => match pres os r with
  | .ok ds r' => match looks os ds r' with
    | some es => .ok es r'
    | none => .err
  | .exc c ds r' => .exc c ds r'
  | .err => .err
def bin (f : D → D → Option Val) (a b : Opd) : M Val := fun r => match ev2 a b r with
  | .ok (d, e) r' => match f d e with
    | some v => .ok v r'
    | none => .err
  | .exc c ds r' => .exc c ds r'
  | .err => .err
def una (f : D → Option Val) (a : Opd) : M Val := fun r => match ev1 a r with
  | .ok d r' => match f d with
    | some v => .ok v r'
    | none => .err
  | .exc c ds r' => .exc c ds r'
  | .err => .err
def app (f : List D → Option Val) (os : List Opd) : M Val := fun r => match evs os r with
  | .ok ds r' => match f ds with
    | some v => .ok v r'
    | none => .err
  | .exc c ds r' => .exc c ds r'
  | .err => .err
/-- as data, standing (no name is only looked at) -/
def vals : List (M Val) → M (List D)
  | [] => M.ret []
  | m :: ms => M.bind (frz m) fun d => M.bind (vals ms) fun ds => M.ret (d :: ds)

/-! ### readings -/
section
variable (X : Fx) (W : WX)
/-- what is left behind a run -/
def After {α : Type} (m : Res α) (Z F : Hp) (σ : L2.St) (ok : α → List Val → Hp → Hp → Prop) : Prop := match m with
  | .ok a r' => ∀ Z' H', Ext Z Z' F → G X Z' F r' σ H' → ok a r' Z' H'
  | .exc c ds r' => ∀ cls d Z' H', X.ex c ds cls d H' → Ext Z Z' F → G X Z' F r' σ H' → W cls d σ H'
  | .err => False
def rdE (m : M Val) : TE := fun σ H Q => ∃ Z F r, G X Z F r σ H ∧ After X W (m r) Z F σ fun v r' Z' H' => ∀ x, RV X Z' F H' r' σ x v → Q x H'
def rdO (o : Opd) : TE := match o with
  | .sl i => tVar i
  | .v m => rdE X W m
/-- an operand that has been run -/
def Held (o : Opd) (x : V) (d : D) (Z : Hp) (σ : L2.St) : Prop := match o with
  | .sl i => σ[i]? = some (some x)
  | .v _ => Rep X.K Z x d
end
section
variable {X : Fx} {W : WX} {Z F H : Hp} {r : List Val} {σ : L2.St}
theorem After.imp {α : Type} {m : Res α} {ok ok' : α → List Val → Hp → Hp → Prop} (h : After X W m Z F σ ok) (i : ∀ a r' Z' H', Ext Z Z' F → G X Z' F r' σ H' → ok a r' Z' H' → ok' a r' Z' H') : After X W m Z F σ ok' := by
  cases m with
  | ok a r' => exact fun Z' H' e g => i a r' Z' H' e g (h Z' H' e g)
  | exc c ds r' => exact h
  | err => exact h
theorem After.ext {α : Type} {m : Res α} {Z1 : Hp} {ok : α → List Val → Hp → Hp → Prop} (h : After X W m Z F σ ok) (e : Ext Z Z1 F) : After X W m Z1 F σ ok := by
  cases m with
  | ok a r' => exact fun Z' H' e' g => h Z' H' (e.trans e') g
  | exc c ds r' => exact fun cls d Z' H' x e' g => h cls d Z' H' x (e.trans e') g
  | err => exact h
theorem Held.up {o : Opd} {x : V} {d : D} {Z' : Hp} (h : Held X o x d Z σ) (s : Same Z Z') : Held X o x d Z' σ := by
  cases o with
  | sl i => exact h
  | v m => exact Rep.up h s
theorem slot_at (g : G X Z F r σ H) {i : Nat} {d : D} (h : slotD r i = some d) : ∃ x, σ[i]? = some (some x) ∧ RepH X.K Z H x d := by
  unfold slotD at h
  split at h
  · rename_i e q
    cases h
    obtain ⟨x, e1, r1⟩ := g.sl i _ q
    exact ⟨x, e1, r1.here g.zh⟩
  · rename_i xs q
    cases h
    obtain ⟨a, vs, e1, h1, l, r1, _⟩ := g.sl i _ q
    exact ⟨_, e1, a, vs, rfl, .inl (.inl h1), l, r1⟩
  · rename_i es q
    cases h
    obtain ⟨a, kvs, e1, h1, r1, _⟩ := g.sl i _ q
    exact ⟨_, e1, a, kvs, rfl, .inl h1, r1⟩
  · rename_i xss q
    cases h
    obtain ⟨a, e1, ⟨vs, h1, l, r1⟩, _⟩ := g.sl i _ q
    exact ⟨_, e1, a, vs, rfl, .inl (.inl h1), l, r1.reps⟩
  · cases h
theorem Held.look {o : Opd} {x : V} {d e : D} (g : G X Z F r σ H) (h : Held X o x d Z σ) (l : o.look d r = some e) : RepH X.K Z H x e := by
  cases o with
  | sl i =>
    obtain ⟨y, h1, h2⟩ := slot_at g l
    rw [show σ[i]? = some (some x) from h] at h1
    cases h1
    exact h2
  | v m =>
    cases l
    exact Rep.here h g.zh
/-- a run comes to rest -/
theorem frz_run {m : M Val} {Q : VK} (g : G X Z F r σ H) (h : After X W (frz m r) Z F σ fun d r' Z' H' => ∀ x, Rep X.K Z' x d → Q x H') : rdE X W m σ H Q := by
  refine ⟨Z, F, r, g, ?_⟩
  unfold frz at h
  revert h
  cases e : m r with
  | ok v r' =>
    cases v with
    | un => exact fun h => h.elim
    | ow t => exact fun h => h.elim
    | fz d => exact fun h Z' H' ex g' x rv => h Z' H' ex g' x rv
    | ol xs =>
      intro h Z' H' ex g' x rv
      obtain ⟨Z2, d, e2, g2, rp, eq⟩ := RV.rest g' rv (fun _ q => nomatch q)
      obtain rfl := eq
      exact h Z2 H' (ex.trans e2) g2 x rp
    | od es =>
      intro h Z' H' ex g' x rv
      obtain ⟨Z2, d, e2, g2, rp, eq⟩ := RV.rest g' rv (fun _ q => nomatch q)
      obtain rfl := eq
      exact h Z2 H' (ex.trans e2) g2 x rp
  | exc c ds r' => exact fun h => h
  | err => exact fun h => h
theorem opd_run {o : Opd} {Q : VK} (g : G X Z F r σ H) (h : After X W (o.pre r) Z F σ fun d r' Z' H' => ∀ x, Held X o x d Z' σ → Q x H') : rdO X W o σ H Q := by
  cases o with
  | sl i =>
    revert h
    show After X W (match slotD r i with | some d => .ok d r | none => .err) Z F σ _ → _
    cases e : slotD r i with
    | none => exact fun h => h.elim
    | some d =>
      intro h
      obtain ⟨x, h1, h2⟩ := slot_at g e
      exact ⟨x, h1, h Z H (Ext.refl Z F) g x h1⟩
  | v m => exact frz_run g h
theorem opd1_run {o : Opd} {Q : VK} (g : G X Z F r σ H) (h : After X W (ev1 o r) Z F σ fun d r' Z' H' => ∀ x, RepH X.K Z' H' x d → Q x H') : rdO X W o σ H Q := by
  refine opd_run g ?_
  cases o with
  | sl i =>
    revert h
    show After X W (match slotD r i with | some d => .ok d r | none => .err) Z F σ _ → After X W (match slotD r i with | some d => .ok d r | none => .err) Z F σ _
    cases e : slotD r i with
    | none => exact fun h => h
    | some d => exact fun h Z' H' ex g' x hx => h Z' H' ex g' x (Held.look (o := .sl i) g' hx e)
  | v m => exact h.imp fun d r' Z' H' ex g' q x hx => q x (Rep.here hx g'.zh)
theorem opd2_run {a b : Opd} {R : V → V → Hp → Prop} (g : G X Z F r σ H) (h : After X W (ev2 a b r) Z F σ fun p r' Z' H' => ∀ x y, RepH X.K Z' H' x p.1 → RepH X.K Z' H' y p.2 → R x y H') : rdO X W a σ H fun x H1 => rdO X W b σ H1 fun y H2 => R x y H2 := by
  refine opd_run g ?_
  unfold ev2 at h
  revert h
  cases e : a.pre r with
  | exc c ds r' => exact fun h => h
  | err => exact fun h => h
  | ok d r1 =>
    intro h Z1 H1 ex1 g1 x hx
    refine opd1_run g1 ?_
    revert h
    show After X W (match b.pre r1 with | .ok e r2 => (match a.look d r2 with | some d' => .ok (d', e) r2 | none => .err) | .exc c ds r' => .exc c ds r' | .err => .err) Z F σ _ → After X W (b.pre r1) Z1 F σ _
    cases e2 : b.pre r1 with
    | exc c ds r' => exact fun h => h.ext ex1
    | err => exact fun h => h
    | ok e r2 =>
      show After X W (match a.look d r2 with | some d' => .ok (d', e) r2 | none => .err) Z F σ _ → _
      cases e3 : a.look d r2 with
      | none => exact fun h => h.elim
      | some d' =>
        intro h Z2 H2 ex2 g2 y hy
        exact h Z2 H2 (ex1.trans ex2) g2 x y (Held.look g2 (hx.up ex2.1) e3) hy
end

/-! ### operators by data -/
def rF (K : PySem.W.Frag) (f : D → D → Option Val) : R2 := fun x y H Q => ∃ Z d e v, Same Z H ∧ RepH K Z H x d ∧ RepH K Z H y e ∧ f d e = some v ∧ Fresh K Z H v Q
def rF1 (K : PySem.W.Frag) (f : D → Option Val) : V → Hp → VK → Prop := fun x H Q => ∃ Z d v, Same Z H ∧ RepH K Z H x d ∧ f d = some v ∧ Fresh K Z H v Q
section
variable {C : Cx} {X : Fx} {W : WX} {Z F H : Hp} {r : List Val} {σ : L2.St}
/-- a fresh result is a result -/
theorem Fresh.of {v : Val} {Q : VK} (g : G X Z F r σ H) (h : ∀ Z' H', Ext Z Z' F → G X Z' F r σ H' → ∀ x, RV X Z' F H' r σ x v → Q x H') : Fresh X.K Z H v Q := fun x Z' H' s gr z n => by
  have g' := g.grow s gr z
  refine h Z' H' (gr.ext g.fh) g' x ?_
  have fr : ∀ {a : Addr}, H a = none → F a = none ∧ Out H' r σ a := fun {a} na => ⟨none_of g.fh na, (g.out (.inl na)).grow g s gr⟩
  cases v with
  | un => exact n
  | ow t => exact n.elim
  | fz d => exact n
  | ol xs =>
    obtain ⟨a, vs, rfl, na, h1, l, q, za⟩ := n
    exact ⟨a, vs, rfl, h1, l, q, za, (fr na).1, (fr na).2⟩
  | od xs =>
    obtain ⟨a, vs, rfl, na, h1, q, za⟩ := n
    exact ⟨a, vs, rfl, h1, q, za, (fr na).1, (fr na).2⟩
theorem tOp_of {f : D → D → Option Val} {a b : Opd} {Q : VK} (h : rdE X W (bin f a b) σ H Q) : tOp (rF X.K f) (rdO X W a) (rdO X W b) σ H Q := by
  obtain ⟨Z, F, r, g, h⟩ := h
  refine opd2_run (R := fun x y H2 => rF X.K f x y H2 Q) g ?_
  unfold bin at h
  revert h
  cases e : ev2 a b r with
  | exc c ds r' => exact fun h => h
  | err => exact fun h => h
  | ok p r' =>
    obtain ⟨d, d2⟩ := p
    show After X W (match f d d2 with | some v => .ok v r' | none => .err) Z F σ _ → _
    cases e2 : f d d2 with
    | none => exact fun h => h.elim
    | some v => exact fun h Z' H' ex g' x y hx hy => ⟨Z', d, d2, v, g'.zh, hx, hy, e2, Fresh.of g' fun Z2 H2 ex2 g2 x rv => h Z2 H2 (ex.trans ex2) g2 x rv⟩
theorem tUn_of {f : D → Option Val} {a : Opd} {Q : VK} (h : rdE X W (una f a) σ H Q) : tUn (rF1 X.K f) (rdO X W a) σ H Q := by
  obtain ⟨Z, F, r, g, h⟩ := h
  refine opd1_run (Q := fun x H2 => rF1 X.K f x H2 Q) g ?_
  unfold una at h
  revert h
  cases e : ev1 a r with
  | exc c ds r' => exact fun h => h
  | err => exact fun h => h
  | ok d r' =>
    show After X W (match f d with | some v => .ok v r' | none => .err) Z F σ _ → _
    cases e2 : f d with
    | none => exact fun h => h.elim
    | some v => exact fun h Z' H' ex g' x hx => ⟨Z', d, v, g'.zh, hx, e2, Fresh.of g' fun Z2 H2 ex2 g2 x rv => h Z2 H2 (ex.trans ex2) g2 x rv⟩
end
theorem PE.imp {C : Cx} {e : Expr} {t t' : TE} (h : PE C e t) (i : ∀ σ H Q, t' σ H Q → t σ H Q) : PE C e t' := ⟨fun pins s σ H Q I q => h.run pins s σ H Q I (i σ H Q q)⟩
theorem PT.imp {C : Cx} {e : Expr} {t t' : TT} (h : PT C e t) (i : ∀ σ H Q, t' σ H Q → t σ H Q) : PT C e t' := ⟨fun pins s σ H Q I q => h.run pins s σ H Q I (i σ H Q q)⟩
theorem PS.imp {C : Cx} {e : Stmt} {t t' : TS} (h : PS C e t) (i : ∀ D σ H, t' D σ H → t D σ H) : PS C e t' := ⟨fun pins s σ H D I q => h.run pins s σ H D I (i D σ H q)⟩
theorem PSs.imp {C : Cx} {e : List Stmt} {t t' : TS} (h : PSs C e t) (i : ∀ D σ H, t' D σ H → t D σ H) : PSs C e t' := ⟨fun pins s σ H D I q => h.run pins s σ H D I (i D σ H q)⟩
end MS

/-! part c: the operators' rules -/
namespace MS
open PySem PySem.Spec PyProof.Rows L2
section
variable {C : Cx} {pins : List (Addr × Obj)} {σ : L2.St} {H Z : Hp} {s : Shared}
theorem inv_rdL {a : Addr} {xs : List V} (I : Inv C pins σ H s) (h : LiL C.K H a xs) : ∃ (its : List Value) (n : Nat), Vals xs its ∧ xs.length = its.length ∧ s.heap.get? a = some { cls := .type "list", data := .seq its.toArray n } := by
  rcases h with h | ⟨its, n, e, _, r⟩
  · obtain ⟨z, its, n, r, e⟩ := h.ok I.hok
    exact ⟨its, n, r, r.length, e⟩
  · exact ⟨its, n, r, r.length, I.kIn _ _ e⟩
mutual
theorem Rep.reads (I : Inv C pins σ H s) : ∀ (d : D) (v : V) (u : Value), Rep C.K H v d → RelV v u → d.plain = true → ∃ as, Reads s.heap u d as
  | .none, _, _, h, r, _ => by cases h; cases r; exact ⟨_, Reads.none⟩
  | .bool b, _, _, h, r, _ => by cases h; cases r; exact ⟨_, Reads.bool b⟩
  | .int i, _, _, h, r, _ => by cases h; obtain ⟨t, rfl⟩ := r; exact ⟨_, Reads.int i t⟩
  | .str x, _, _, h, r, _ => by cases h; obtain ⟨t, rfl⟩ := r; exact ⟨_, Reads.str x t⟩
  | .list ds, _, _, h, r, p => by
    cases h with
    | lst hs l ha =>
      cases r
      obtain ⟨its, n, rv, _, ho⟩ := inv_rdL I hs
      obtain ⟨as, hr⟩ := Reps.reads I ds _ its ha rv (by simpa [PyData.plain] using p)
      exact ⟨_, Reads.list ho rfl rfl hr⟩
  | .tuple ds, _, _, h, r, p => by
    cases h with
    | tup hs l ha =>
      cases r
      obtain ⟨its, rv, ⟨o, ho, hc, n, hd⟩, _⟩ := I.tuple (.inl (.inl hs))
      obtain ⟨as, hr⟩ := Reps.reads I ds _ its ha rv (by simpa [PyData.plain] using p)
      exact ⟨_, Reads.tuple ho hc hd hr⟩
  | .dict _, _, _, h, _, p => by simp [PyData.plain] at p
theorem Reps.reads (I : Inv C pins σ H s) : ∀ (ds : List D) (vs : List V) (us : List Value), Reps C.K H vs ds → Vals vs us → PyData.plainAll ds = true → ∃ as, ReadsAll s.heap us ds as
  | [], _, _, h, r, _ => by cases h; cases r; exact ⟨_, ReadsAll.nil⟩
  | d :: ds, _, _, h, r, p => by
    have p' : d.plain = true ∧ PyData.plainAll ds = true := by simpa [PyData.plainAll] using p
    cases h with
    | cons h1 h2 =>
      cases r with
      | cons r1 r2 =>
        obtain ⟨as, q1⟩ := Rep.reads I d _ _ h1 r1 p'.1
        obtain ⟨bs, q2⟩ := Reps.reads I ds _ _ h2 r2 p'.2
        exact ⟨_, ReadsAll.cons q1 q2⟩
end
end
section
variable {C : Cx}
/-- a rule by the operands' data -/
theorem op_by {f' : Value → Value → Sem Value} {f : D → D → Option Val} (h : ∀ (d e : D) (v : Val) (x y : V) (H Z : Hp) (Q : VK), f d e = some v → Same Z H → RepH C.K Z H x d → RepH C.K Z H y e → Fresh C.K Z H v Q → ∃ r, OpR C f' r ∧ r x y H Q) : OpR C f' (rF C.K f) := by
  intro pins s σ H x y v u Q I rx ry ⟨Z, d, e, z, hz, hx, hy, hf, fr⟩
  obtain ⟨r, ho, hr⟩ := h d e z x y H Z Q hf hz hx hy fr
  exact ho pins s σ H x y v u Q I rx ry hr
theorem un_by {f' : Value → Sem Value} {f : D → Option Val} (h : ∀ (d : D) (v : Val) (x : V) (H Z : Hp) (Q : VK), f d = some v → Same Z H → RepH C.K Z H x d → Fresh C.K Z H v Q → ∃ r, UnR C f' r ∧ r x H Q) : UnR C f' (rF1 C.K f) := by
  intro pins s σ H x v Q I rx ⟨Z, d, z, hz, hx, hf, fr⟩
  obtain ⟨r, ho, hr⟩ := h d z x H Z Q hf hz hx fr
  exact ho pins s σ H x v Q I rx hr

/-! ### arithmetic -/
theorem op_catR : OpR C (binaryOp .Add) (fun x y H Q => ∃ l b xs zs, x = .ref l ∧ y = .ref b ∧ LiL C.K H l xs ∧ LiL C.K H b zs ∧ xs.length + zs.length ≤ sizeLine ∧ ∀ p, H p = none → Q (.ref p) (upd H p (.lst (xs ++ zs)))) := by
  intro pins s σ H x y v u Q I rx ry h
  obtain ⟨l, b, xs, zs, rfl, rfl, hH, hB, hz, q⟩ := h
  cases rx
  cases ry
  obtain ⟨its, n, r, hl, e⟩ := inv_rdL I hH
  obtain ⟨its2, n2, r2, hl2, e2⟩ := inv_rdL I hB
  refine PySem.P.add_list e e2 ?_ (by rw [List.size_toArray, List.size_toArray]; omega)
  have ea : its.toArray ++ its2.toArray = (its ++ its2).toArray := by simp
  rw [ea]
  exact ⟨.ref _, _, I.lnew (t' := s.toks) (r.append r2) (by rw [List.length_append]; omega), rfl, q _ I.fresh⟩
def addD : D → D → Option Val
  | .int i, .int j => some (.fz (.int (i + j)))
  | .str a, .str b => if a.length + b.length ≤ LINE then some (.fz (.str (a ++ b))) else none
  | .list a, .list b => if a.length + b.length ≤ LINE then some (.ol (a ++ b)) else none
  | .tuple a, .tuple b => if a.length + b.length ≤ LINE then some (.fz (.tuple (a ++ b))) else none
  | _, _ => none
theorem op_addD : OpR C (binaryOp .Add) (rF C.K addD) := op_by fun d e v x y H Z Q hf hz hx hy fr => by
  unfold addD at hf
  split at hf
  · cases hf; cases hx; cases hy
    exact ⟨_, op_add, _, _, rfl, rfl, fr.sc hz (.int _)⟩
  · split at hf
    · rename_i hl
      cases hf; cases hx; cases hy
      exact ⟨_, op_add_str, _, _, rfl, rfl, by rw [line_eq]; exact hl, fr.sc hz (.str _)⟩
    · cases hf
  · split at hf
    · rename_i hl
      cases hf
      obtain ⟨a, vs, rfl, r1, l1, q1⟩ := hx
      obtain ⟨b, ws, rfl, r2, l2, q2⟩ := hy
      have hz' : vs.length + ws.length ≤ sizeLine := by rw [q1.length, q2.length, line_eq]; exact hl
      exact ⟨_, op_catR, a, b, vs, ws, rfl, rfl, r1, r2, hz', fr.lst hz (q1.append q2) (by rw [List.length_append]; exact hz')⟩
    · cases hf
  · split at hf
    · rename_i hl
      cases hf
      cases hx with
      | tup s1 l1 q1 =>
        cases hy with
        | tup s2 l2 q2 =>
          rename_i a vs b ws
          have hz' : vs.length + ws.length ≤ sizeLine := by rw [q1.length, q2.length, line_eq]; exact hl
          refine ⟨_, op_catA, a, b, vs, ws, rfl, rfl, SqT.at hz s1, SqT.at hz s2, hz', fun e => ?_, fun _ e => ?_, fun _ _ => fr.tup hz (q1.append q2) (by rw [List.length_append]; exact hz')⟩
          · subst e
            cases q1
            exact fr.sc hz (.tup s2 l2 q2)
          · subst e
            cases q2
            rw [List.append_nil] at fr
            exact fr.sc hz (.tup s1 l1 q1)
    · cases hf
  · cases hf
def subD : D → D → Option Val
  | .int i, .int j => some (.fz (.int (i - j)))
  | _, _ => none
theorem op_subD : OpR C (binaryOp .Sub) (rF C.K subD) := op_by fun d e v x y H Z Q hf hz hx hy fr => by
  unfold subD at hf
  split at hf
  · cases hf; cases hx; cases hy
    exact ⟨_, op_sub, _, _, rfl, rfl, fr.sc hz (.int _)⟩
  · cases hf
theorem op_repR : OpR C (binaryOp .Mult) (fun x y H Q => ∃ l k xs, x = .ref l ∧ y = .int k ∧ H l = some (.lst xs) ∧ -(2 ^ 63) ≤ k ∧ k < 2 ^ 63 ∧ xs.length * k.toNat ≤ sizeLine ∧ ∀ p, H p = none → Q (.ref p) (upd H p (.lst (List.replicate k.toNat xs).flatten))) := op_rep
def mulD : D → D → Option Val
  | .int i, .int j => if i.natAbs.log2 + j.natAbs.log2 < 1000000 then some (.fz (.int (i * j))) else none
  | _, _ => none
theorem op_mulD : OpR C (binaryOp .Mult) (rF C.K mulD) := op_by fun d e v x y H Z Q hf hz hx hy fr => by
  unfold mulD at hf
  split at hf
  · split at hf
    · rename_i hc
      cases hf; cases hx; cases hy
      exact ⟨_, op_mulW, _, _, rfl, rfl, hc, fr.sc hz (.int _)⟩
    · cases hf
  · cases hf
def fdivD : D → D → Option Val
  | .int i, .int j => if 0 < j ∧ j.natAbs.log2 < 9000 then some (.fz (.int (i / j))) else none
  | _, _ => none
theorem op_fdivD : OpR C (binaryOp .FloorDiv) (rF C.K fdivD) := op_by fun d e v x y H Z Q hf hz hx hy fr => by
  unfold fdivD at hf
  split at hf
  · split at hf
    · rename_i hc
      cases hf; cases hx; cases hy
      exact ⟨_, op_fdivW, _, _, rfl, rfl, hc, fr.sc hz (.int _)⟩
    · cases hf
  · cases hf
def modD : D → D → Option Val
  | .int i, .int j => if 0 < j then some (.fz (.int (i % j))) else none
  | _, _ => none
theorem op_modD : OpR C (binaryOp .Mod) (rF C.K modD) := op_by fun d e v x y H Z Q hf hz hx hy fr => by
  unfold modD at hf
  split at hf
  · split at hf
    · rename_i hc
      cases hf; cases hx; cases hy
      exact ⟨_, op_mod, _, _, rfl, rfl, hc, fr.sc hz (.int _)⟩
    · cases hf
  · cases hf
def powD : D → D → Option Val
  | .int i, .int j => if 0 ≤ j ∧ j ≤ 1000 ∧ i.natAbs < 2 ^ 64 then some (.fz (.int (i ^ j.toNat))) else none
  | _, _ => none
theorem op_powD : OpR C (binaryOp .Pow) (rF C.K powD) := op_by fun d e v x y H Z Q hf hz hx hy fr => by
  unfold powD at hf
  split at hf
  · split at hf
    · rename_i hc
      cases hf; cases hx; cases hy
      exact ⟨_, op_pow, _, _, rfl, rfl, ⟨hc.1, by omega, hc.2.2⟩, fr.sc hz (.int _)⟩
    · cases hf
  · cases hf
def shlD : D → D → Option Val
  | .int i, .int j => if 0 ≤ j ∧ j ≤ 1000 ∧ i.natAbs < 2 ^ 64 then some (.fz (.int (i * 2 ^ j.toNat))) else none
  | _, _ => none
theorem op_shlD : OpR C (binaryOp .LShift) (rF C.K shlD) := op_by fun d e v x y H Z Q hf hz hx hy fr => by
  unfold shlD at hf
  split at hf
  · split at hf
    · rename_i hc
      cases hf; cases hx; cases hy
      exact ⟨_, op_shl, _, _, rfl, rfl, ⟨hc.1, by omega, hc.2.2⟩, fr.sc hz (.int _)⟩
    · cases hf
  · cases hf
def shrD : D → D → Option Val
  | .int i, .int j => if 0 ≤ j then some (.fz (.int (i / 2 ^ j.toNat))) else none
  | _, _ => none
theorem op_shrD : OpR C (binaryOp .RShift) (rF C.K shrD) := op_by fun d e v x y H Z Q hf hz hx hy fr => by
  unfold shrD at hf
  split at hf
  · split at hf
    · rename_i hc
      cases hf; cases hx; cases hy
      exact ⟨_, op_shr, _, _, rfl, rfl, hc, fr.sc hz (.int _)⟩
    · cases hf
  · cases hf
def negD : D → Option Val
  | .int i => some (.fz (.int (-i)))
  | _ => none
theorem un_negD : UnR C (unaryOp .USub) (rF1 C.K negD) := un_by fun d v x H Z Q hf hz hx fr => by
  unfold negD at hf
  split at hf
  · cases hf; cases hx
    exact ⟨_, un_neg, _, rfl, fr.sc hz (.int _)⟩
  · cases hf

/-! ### comparisons -/
def cmpI (p : Int → Int → Bool) : D → D → Option Val
  | .int i, .int j => some (.fz (.bool (p i j)))
  | _, _ => none
theorem cmpI_by {op : CmpOp} {p : Int → Int → Bool} (h : OpR C (compareOp op) (rI0 fun i j => .bl (p i j))) : OpR C (compareOp op) (rF C.K (cmpI p)) := op_by fun d e v x y H Z Q hf hz hx hy fr => by
  unfold cmpI at hf
  split at hf
  · cases hf; cases hx; cases hy
    exact ⟨_, h, _, _, rfl, rfl, fr.sc hz (.bl _)⟩
  · cases hf
abbrev ltD := cmpI fun i j => decide (i < j)
abbrev gtD := cmpI fun i j => decide (j < i)
abbrev geD := cmpI fun i j => decide (j ≤ i)
theorem op_ltD : OpR C (compareOp .Lt) (rF C.K ltD) := cmpI_by op_lt
theorem op_gtD : OpR C (compareOp .Gt) (rF C.K gtD) := cmpI_by op_gt
theorem op_geD : OpR C (compareOp .GtE) (rF C.K geD) := cmpI_by op_ge
/-- tuples of ints, as they compare -/
def leT (ns ms : List Int) : Bool := Ob.lexAt (fun j => decide (ns.getD j 0 = ms.getD j 0)) (fun j => decide (ns.getD j 0 ≤ ms.getD j 0)) (decide (ns.length ≤ ms.length)) 0 (min ns.length ms.length)
def leD : D → D → Option Val
  | .int i, .int j => some (.fz (.bool (decide (i ≤ j))))
  | .tuple a, .tuple b => match intsD a, intsD b with
    | some ns, some ms => some (.fz (.bool (leT ns ms)))
    | _, _ => none
  | _, _ => none
theorem op_leD (hu : C.A.units < cLine) : OpR C (compareOp .LtE) (rF C.K leD) := op_by fun d e v x y H Z Q hf hz hx hy fr => by
  unfold leD at hf
  split at hf
  · cases hf; cases hx; cases hy
    exact ⟨_, op_le, _, _, rfl, rfl, fr.sc hz (.bl _)⟩
  · split at hf
    · rename_i ns ms h1 h2
      cases hf
      cases hx with
      | tup s1 l1 q1 =>
        cases hy with
        | tup s2 l2 q2 =>
          have e1 := q1.ints h1
          have e2 := q2.ints h2
          subst e1 e2
          exact ⟨_, op_leT hu, _, _, ns, ms, rfl, rfl, SqT.at hz s1, SqT.at hz s2, fr.sc hz (.bl _)⟩
    · cases hf
  · cases hf
def eqOk (d e : D) : Bool := d.plain && e.plain && decide (min d.depth e.depth ≤ 60)
def eqD (d e : D) : Option Val := if eqOk d e = true then some (.fz (.bool (PyData.eqv d e))) else none
def neD (d e : D) : Option Val := if eqOk d e = true then some (.fz (.bool (!PyData.eqv d e))) else none
theorem op_eqP (hu : C.A.units + 64 < cLine) : OpR C (compareOp .Eq) (rF C.K eqD) := by
  intro pins s σ H x y v u Q I rx ry ⟨Z, d, e, z, hz, hx, hy, hf, fr⟩
  unfold eqD at hf
  split at hf
  · rename_i hc
    cases hf
    simp only [eqOk, Bool.and_eq_true, decide_eq_true_eq] at hc
    obtain ⟨as, r1⟩ := Rep.reads I d x v (hx.all hz) rx hc.1.1
    obtain ⟨bs, r2⟩ := Rep.reads I e y u (hy.all hz) ry hc.1.2
    exact SeqAt.eq_plain r1 r2 hc.1.1 hc.1.2 (by omega) ⟨.bl _, H, I, rfl, fr.sc hz (.bl _)⟩
  · cases hf
theorem op_neP (hu : C.A.units + 64 < cLine) : OpR C (compareOp .NotEq) (rF C.K neD) := by
  intro pins s σ H x y v u Q I rx ry ⟨Z, d, e, z, hz, hx, hy, hf, fr⟩
  unfold neD at hf
  split at hf
  · rename_i hc
    cases hf
    simp only [eqOk, Bool.and_eq_true, decide_eq_true_eq] at hc
    obtain ⟨as, r1⟩ := Rep.reads I d x v (hx.all hz) rx hc.1.1
    obtain ⟨bs, r2⟩ := Rep.reads I e y u (hy.all hz) ry hc.1.2
    exact SeqAt.ne_plain r1 r2 hc.1.1 hc.1.2 (by omega) ⟨.bl _, H, I, rfl, fr.sc hz (.bl _)⟩
  · cases hf
/-- x in c: items, keys (tuples of ints), a text in a text -/
def lookD (k : D) : List (D × D) → Option D
  | [] => none
  | (q, v) :: es => if PyData.eqv q k = true then some v else lookD k es
def inB (d c : D) : Option Bool := match c with
  | .list xs | .tuple xs => if PyData.plainAll xs = true ∧ d.plain = true ∧ min (PyData.depthAll xs) d.depth ≤ 60 then some (xs.any fun y => PyData.eqv y d) else none
  | _ => none
def inD (d c : D) : Option Val := (inB d c).map fun b => .fz (.bool b)
def ninD (d c : D) : Option Val := (inB d c).map fun b => .fz (.bool !b)
theorem in_run (hu : C.A.units + 64 < cLine) {pins : List (Addr × Obj)} {s : Shared} {σ : L2.St} {H Z : Hp} {x y : V} {v u : Value} {d c : D} {b : Bool} (I : Inv C pins σ H s) (rx : RelV x v) (ry : RelV y u) (hz : Same Z H) (hx : RepH C.K Z H x d) (hy : RepH C.K Z H y c) (hb : inB d c = some b) :
    (∀ (E Q : Value → Shared → Prop), Q (.bool b) s → wpAny (model C.prog C.w) C.A (compareOp .In v u) Q E s) ∧ (∀ (E Q : Value → Shared → Prop), Q (.bool !b) s → wpAny (model C.prog C.w) C.A (compareOp .NotIn v u) Q E s) := by
  unfold inB at hb
  split at hb
  · split at hb
    · rename_i xs hc
      cases hb
      obtain ⟨as, r1⟩ := Rep.reads I d x v (hx.all hz) rx hc.2.1
      obtain ⟨bs, r2⟩ := Rep.reads I (.list xs) y u (hy.all hz) ry (by simpa [PyData.plain] using hc.1)
      exact ⟨fun E Q q => SeqAt.in_list_data r2 r1 hc.1 hc.2.1 (by omega) q, fun E Q q => SeqAt.notIn_list_data r2 r1 hc.1 hc.2.1 (by omega) q⟩
    · cases hb
  · split at hb
    · rename_i xs hc
      cases hb
      obtain ⟨as, r1⟩ := Rep.reads I d x v (hx.all hz) rx hc.2.1
      obtain ⟨bs, r2⟩ := Rep.reads I (.tuple xs) y u (hy.all hz) ry (by simpa [PyData.plain] using hc.1)
      exact ⟨fun E Q q => SeqAt.in_tuple_data r2 r1 hc.1 hc.2.1 (by omega) q, fun E Q q => SeqAt.notIn_tuple_data r2 r1 hc.1 hc.2.1 (by omega) q⟩
    · cases hb
  · cases hb
theorem op_inP (hu : C.A.units + 64 < cLine) : OpR C (compareOp .In) (rF C.K inD) := by
  intro pins s σ H x y v u Q I rx ry ⟨Z, d, e, z, hz, hx, hy, hf, fr⟩
  unfold inD at hf
  cases hb : inB d e with
  | none => rw [hb] at hf; cases hf
  | some b =>
    rw [hb] at hf; cases hf
    exact (in_run hu I rx ry hz hx hy hb).1 _ _ ⟨.bl _, H, I, rfl, fr.sc hz (.bl _)⟩
theorem op_ninP (hu : C.A.units + 64 < cLine) : OpR C (compareOp .NotIn) (rF C.K ninD) := by
  intro pins s σ H x y v u Q I rx ry ⟨Z, d, e, z, hz, hx, hy, hf, fr⟩
  unfold ninD at hf
  cases hb : inB d e with
  | none => rw [hb] at hf; cases hf
  | some b =>
    rw [hb] at hf; cases hf
    exact (in_run hu I rx ry hz hx hy hb).2 _ _ ⟨.bl _, H, I, rfl, fr.sc hz (.bl _)⟩
def isNone : D → Bool
  | .none => true
  | _ => false
theorem Rep.isNone {K : PySem.W.Frag} {Z H : Hp} {x : V} {d : D} (h : RepH K Z H x d) : decide (x = .non) = isNone d := by
  cases d with
  | list ds => obtain ⟨a, vs, rfl, _⟩ := h; rfl
  | dict ds => obtain ⟨a, vs, rfl, _⟩ := h; rfl
  | tuple ds => cases h; rfl
  | none => cases h; rfl
  | bool b => cases h; rfl
  | int b => cases h; rfl
  | str b => cases h; rfl
def isD (d e : D) : Option Val := if isNone e = true then some (.fz (.bool (isNone d))) else none
def isnD (d e : D) : Option Val := if isNone e = true then some (.fz (.bool (!isNone d))) else none
theorem op_isP : OpR C (compareOp .Is) (rF C.K isD) := op_by fun d e v x y H Z Q hf hz hx hy fr => by
  unfold isD at hf
  split at hf
  · rename_i he
    cases hf
    have h1 := Rep.isNone hx
    have h2 := Rep.isNone hy
    rw [he] at h2
    exact ⟨_, op_isN, of_decide_eq_true h2, by rw [h1]; exact fr.sc hz (.bl _)⟩
  · cases hf
theorem op_isnP : OpR C (compareOp .IsNot) (rF C.K isnD) := op_by fun d e v x y H Z Q hf hz hx hy fr => by
  unfold isnD at hf
  split at hf
  · rename_i he
    cases hf
    have h1 := Rep.isNone hx
    have h2 := Rep.isNone hy
    rw [he] at h2
    exact ⟨_, op_notN, of_decide_eq_true h2, by rw [h1]; exact fr.sc hz (.bl _)⟩
  · cases hf
end
end MS

/-! part d: expressions -/
namespace MS
open PySem PySem.Spec PyProof.Rows L2

/-! ### runs of expressions -/
def eK (d : D) : M Val := M.ret (.fz d)
/-- a name's value; an own list comes to rest by that -/
def eRd (i : Nat) : M Val := fun r => match r[i]? with
  | some (.fz d) => .ok (.fz d) r
  | some (.ol xs) => .ok (.fz (.list xs)) (r.set i (.fz (.list xs)))
  | some (.od es) => .ok (.fz (.dict es)) (r.set i (.fz (.dict es)))
  | _ => .err
/-- a name's value, handed on: the name is not asked any more -/
def eMv (i : Nat) : M Val := fun r => match r[i]? with
  | some (.fz d) => .ok (.fz d) r
  | some (.ol xs) => .ok (.ol xs) (r.set i .un)
  | some (.od es) => .ok (.od es) (r.set i .un)
  | some (.ow t) => .ok (.ow t) (r.set i .un)
  | _ => .err
def eTup (ms : List (M Val)) : M Val := M.bind (vals ms) fun ds => M.ret (.fz (.tuple ds))
def eLst (ms : List (M Val)) : M Val := M.bind (vals ms) fun ds => M.ret (.ol ds)
def asB (m : M Val) : M Bool := fun r => match m r with
  | .ok (.fz (.bool b)) r' => .ok b r'
  | .ok _ _ => .err
  | .exc c ds r' => .exc c ds r'
  | .err => .err
def eAnd (a b : M Val) : M Val := M.bind (asB a) fun c => if c = true then b else M.ret (.fz (.bool false))
def eOr (a b : M Val) : M Val := M.bind (asB a) fun c => if c = true then M.ret (.fz (.bool true)) else b
def eNot (a : M Val) : M Val := M.bind (asB a) fun c => M.ret (.fz (.bool !c))
def tAndM (a b : M Bool) : M Bool := M.bind a fun c => if c = true then b else M.ret false
def tOrM (a b : M Bool) : M Bool := M.bind a fun c => if c = true then M.ret true else b
def tNotM (a : M Bool) : M Bool := M.bind a fun c => M.ret !c
def eIf (c : M Bool) (a b : M Val) : M Val := M.bind c fun k => if k = true then a else b
/-- a op b op' c -/
def eChain (f g : D → D → Option Val) (a b c : Opd) : M Val := fun r => match ev2 a b r with
  | .ok (d, e) r1 => match f d e with
    | some (.fz (.bool true)) => match c.pre r1 with
      | .ok k r2 => match b.look e r2 with
        | some e' => match g e' k with
          | some v => .ok v r2
          | none => .err
        | none => .err
      | .exc c ds r' => .exc c ds r'
      | .err => .err
    | some (.fz (.bool false)) => .ok (.fz (.bool false)) r1
    | _ => .err
  | .exc c ds r' => .exc c ds r'
  | .err => .err
/-- a part of a slice -/
def pt1 : Option (M Val) → M (Option Int)
  | none => M.ret none
  | some m => fun r => match frz m r with
    | .ok (.int i) r' => .ok (some i) r'
    | .ok _ _ => .err
    | .exc c ds r' => .exc c ds r'
    | .err => .err
def eSl (f : D → Option Int → Option Int → Option Val) (o : Opd) (lo hi : Option (M Val)) : M Val := fun r => match o.pre r with
  | .ok d r1 => match pt1 lo r1 with
    | .ok l r2 => match pt1 hi r2 with
      | .ok h r3 => match o.look d r3 with
        | some e => match f e l h with
          | some v => .ok v r3
          | none => .err
        | none => .err
      | .exc c ds r' => .exc c ds r'
      | .err => .err
    | .exc c ds r' => .exc c ds r'
    | .err => .err
  | .exc c ds r' => .exc c ds r'
  | .err => .err

section
variable (C : Cx) (X : Fx) (W : WX)
abbrev DE (e : Expr) (m : M Val) : Prop := PE C e (rdE X W m)
abbrev DO (e : Expr) (o : Opd) : Prop := PE C e (rdO X W o)
def rdT (m : M Bool) : TT := fun σ H Q => ∃ Z F r, G X Z F r σ H ∧ After X W (m r) Z F σ fun b r' Z' H' => Q b H'
abbrev DT (e : Expr) (m : M Bool) : Prop := PT C e (rdT X W m)
abbrev DW (e : Expr) (m : M Bool) : Prop := PW C e (rdT X W m)
def rdVs (ms : List (M Val)) : TA := fun σ H Q => ∃ Z F r, G X Z F r σ H ∧ After X W (vals ms r) Z F σ fun ds r' Z' H' => ∀ xs, Reps X.K Z' xs ds → Q xs H'
abbrev DVs (es : List Expr) (ms : List (M Val)) : Prop := PA C es (rdVs X W ms)
def Helds (Z : Hp) (σ : L2.St) : List Opd → List V → List D → Prop
  | [], [], [] => True
  | o :: os, x :: xs, d :: ds => Held X o x d Z σ ∧ Helds Z σ os xs ds
  | _, _, _ => False
def rdPs (os : List Opd) : TA := fun σ H Q => ∃ Z F r, G X Z F r σ H ∧ After X W (pres os r) Z F σ fun ds r' Z' H' => ∀ xs, Helds X Z' σ os xs ds → Q xs H'
abbrev DOs (es : List Expr) (os : List Opd) : Prop := PA C es (rdPs X W os)
end
def RepHs (K : PySem.W.Frag) (Z H : Hp) : List V → List D → Prop
  | [], [] => True
  | x :: xs, d :: ds => RepH K Z H x d ∧ RepHs K Z H xs ds
  | _, _ => False
def rApp (K : PySem.W.Frag) (f : List D → Option Val) : List V → Hp → VK → Prop := fun xs H Q => ∃ Z ds v, Same Z H ∧ RepHs K Z H xs ds ∧ f ds = some v ∧ Fresh K Z H v Q

/-! ### their rules -/
section
variable {C : Cx} {X : Fx} {W : WX} {Z F H : Hp} {r : List Val} {σ : L2.St} {e a b c : Expr} {pos : Pos}
theorem bind_run {α β : Type} {m : M α} {k : α → M β} {ok : β → List Val → Hp → Hp → Prop} (h : After X W (M.bind m k r) Z F σ ok) : After X W (m r) Z F σ fun v r' Z' H' => After X W (k v r') Z' F σ ok := by
  revert h
  unfold M.bind
  cases m r with
  | ok v r' => exact fun h Z' H' ex g => h.ext ex
  | exc c ds r' => exact fun h => h
  | err => exact fun h => h
theorem ret_run {α : Type} {v : α} {ok : α → List Val → Hp → Hp → Prop} (g : G X Z F r σ H) (h : After X W (M.ret v r) Z F σ ok) : ok v r Z H := h Z H (Ext.refl Z F) g
/-- a slot's ghost is put otherwise -/
theorem set_get {α : Type} {r : List α} {i j : Nat} {w v : α} (h : (r.set i w)[j]? = some v) : (i = j ∧ i < r.length ∧ v = w) ∨ (i ≠ j ∧ r[j]? = some v) := by
  by_cases hj : i = j
  · subst hj
    by_cases hl : i < r.length
    · rw [List.getElem?_set_self hl] at h; cases h; exact .inl ⟨rfl, hl, rfl⟩
    · rw [List.getElem?_eq_none (by rw [List.length_set]; omega)] at h; cases h
  · rw [List.getElem?_set_ne hj] at h; exact .inr ⟨hj, h⟩
theorem G.put (g : G X Z F r σ H) {i : Nat} {w : Val} (hs : SlotR X.K X.ex.dk Z F H σ[i]? w) (ho : w.own = false) : G X Z F (r.set i w) σ H := by
  refine ⟨g.zh, g.fh, by rw [List.length_set]; exact g.len, fun j v h => ?_, fun j k v u p h1 h2 e1 e2 => ?_, g.kp, g.hh, g.nz, g.nf, g.tb⟩
  · rcases set_get h with ⟨rfl, _, rfl⟩ | ⟨_, h⟩
    · exact hs
    · exact g.sl j v h
  · rcases set_get h1 with ⟨rfl, _, rfl⟩ | ⟨_, h1⟩
    · rw [foot_no ho] at e1; cases e1
    · rcases set_get h2 with ⟨rfl, _, rfl⟩ | ⟨_, h2⟩
      · rw [foot_no ho] at e2; cases e2
      · exact g.di j k v u p h1 h2 e1 e2
/-- what a name gave away belongs to no other -/
theorem own_out (g : G X Z F r σ H) {i : Nat} {v : Val} {a : Addr} (h : r[i]? = some v) (e : a ∈ foot H σ[i]? v) : Out H (r.set i .un) σ a := fun j u hj ej => by
  rcases set_get hj with ⟨rfl, _, rfl⟩ | ⟨hji, hj⟩
  · rw [foot_un] at ej; cases ej
  · exact hji (g.di i j v u a h hj e ej)
theorem mv_run {i : Nat} {Q : VK} (h : rdE X W (eMv i) σ H Q) : tVar i σ H Q := by
  obtain ⟨Z, F, r, g, h⟩ := h
  revert h
  unfold eMv
  cases e : r[i]? with
  | none => exact fun h => h.elim
  | some v =>
    cases v with
    | un => exact fun h => h.elim
    | fz d =>
      intro h
      obtain ⟨x, e1, q⟩ := g.sl i _ e
      exact ⟨x, e1, h Z H (Ext.refl Z F) g x q⟩
    | ol xs =>
      intro h
      obtain ⟨a, vs, e1, h1, l, q, z, f⟩ := g.sl i _ e
      exact ⟨_, e1, h Z H (Ext.refl Z F) (g.put (w := .un) True.intro rfl) _ ⟨a, vs, rfl, h1, l, q, z, f, own_out g e (by rw [e1]; exact List.mem_singleton.mpr rfl)⟩⟩
    | od xs =>
      intro h
      obtain ⟨a, vs, e1, h1, q, z, f⟩ := g.sl i _ e
      exact ⟨_, e1, h Z H (Ext.refl Z F) (g.put (w := .un) True.intro rfl) _ ⟨a, vs, rfl, h1, q, z, f, own_out g e (by rw [e1]; exact List.mem_singleton.mpr rfl)⟩⟩
    | ow t =>
      intro h
      obtain ⟨a, e1, h1, zf⟩ := g.sl i _ e
      exact ⟨_, e1, h Z H (Ext.refl Z F) (g.put (w := .un) True.intro rfl) _ ⟨a, rfl, h1, fun b hb => ⟨(zf b hb).1, (zf b hb).2, own_out g e (by rw [e1]; exact hb)⟩⟩⟩
theorem rd_run {i : Nat} {Q : VK} (h : rdE X W (eRd i) σ H Q) : tVar i σ H Q := by
  obtain ⟨Z, F, r, g, h⟩ := h
  revert h
  unfold eRd
  cases e : r[i]? with
  | none => exact fun h => h.elim
  | some v =>
    cases v with
    | un => exact fun h => h.elim
    | ow t => exact fun h => h.elim
    | fz d =>
      intro h
      obtain ⟨x, e1, q⟩ := g.sl i _ e
      exact ⟨x, e1, h Z H (Ext.refl Z F) g x q⟩
    | ol xs =>
      intro h
      obtain ⟨a, vs, e1, h1, l, q, z, f⟩ := g.sl i _ e
      have rv : RV X Z F H (r.set i .un) σ (.ref a) (.ol xs) := ⟨a, vs, rfl, h1, l, q, z, f, own_out g e (by rw [e1]; exact List.mem_singleton.mpr rfl)⟩
      obtain ⟨Z', d, ex, g', rp, eq⟩ := RV.rest (g.put (i := i) (w := .un) True.intro rfl) rv (fun _ q => nomatch q)
      obtain rfl := eq
      have g2 := g'.put (i := i) (w := .fz (.list xs)) ⟨_, e1, rp⟩ rfl
      rw [List.set_set] at g2
      exact ⟨_, e1, h Z' H ex g2 _ rp⟩
    | od xs =>
      intro h
      obtain ⟨a, vs, e1, h1, q, z, f⟩ := g.sl i _ e
      have rv : RV X Z F H (r.set i .un) σ (.ref a) (.od xs) := ⟨a, vs, rfl, h1, q, z, f, own_out g e (by rw [e1]; exact List.mem_singleton.mpr rfl)⟩
      obtain ⟨Z', d, ex, g', rp, eq⟩ := RV.rest (g.put (i := i) (w := .un) True.intro rfl) rv (fun _ q => nomatch q)
      obtain rfl := eq
      have g2 := g'.put (i := i) (w := .fz (.dict xs)) ⟨_, e1, rp⟩ rfl
      rw [List.set_set] at g2
      exact ⟨_, e1, h Z' H ex g2 _ rp⟩
theorem de_rd {i : Nat} {x : Str} (hN : C.N[i]? = some x) (hv : Vis C.env.scope x) (hd : (x == ("__debug__" : Str)) = false := by decide) (hcd : (x == ("__classdict__" : Str)) = false := by decide) : DE C X W (.Name x pos) (eRd i) :=
  PE.imp (pe_var hN hv hd hcd) fun _ _ _ h => rd_run h
theorem de_mv {i : Nat} {x : Str} (hN : C.N[i]? = some x) (hv : Vis C.env.scope x) (hd : (x == ("__debug__" : Str)) = false := by decide) (hcd : (x == ("__classdict__" : Str)) = false := by decide) : DE C X W (.Name x pos) (eMv i) :=
  PE.imp (pe_var hN hv hd hcd) fun _ _ _ h => mv_run h
theorem do_sl {i : Nat} {x : Str} (hN : C.N[i]? = some x) (hv : Vis C.env.scope x) (hd : (x == ("__debug__" : Str)) = false := by decide) (hcd : (x == ("__classdict__" : Str)) = false := by decide) : DO C X W (.Name x pos) (.sl i) := pe_var hN hv hd hcd
theorem do_v {m : M Val} (h : DE C X W e m) : DO C X W e (.v m) := h
theorem k_run {d : D} {x : V} {Q : VK} (hr : ∀ Z, Rep X.K Z x d) (h : rdE X W (eK d) σ H Q) : tC x σ H Q := by
  obtain ⟨Z, F, r, g, h⟩ := h
  exact ret_run g h x (hr Z)
theorem de_int {i : Int} {j : Nat} : DE C X W (.Constant (.int i) j pos) (eK (.int i)) := PE.imp pe_int fun _ _ _ h => k_run (fun _ => .int i) h
theorem de_bl {i : Bool} {j : Nat} : DE C X W (.Constant (.bool i) j pos) (eK (.bool i)) := PE.imp pe_bl fun _ _ _ h => k_run (fun _ => .bl i) h
theorem de_non {j : Nat} : DE C X W (.Constant .none j pos) (eK .none) := PE.imp pe_non fun _ _ _ h => k_run (fun _ => .non) h
theorem de_str {i : Str} {j : Nat} : DE C X W (.Constant (.str i) j pos) (eK (.str i)) := PE.imp pe_str fun _ _ _ h => k_run (fun _ => .str i) h
/-- a module's number -/
theorem de_gint {x : Str} {i : Int} {t : Tok} (hg : Gl C x) (hm : C.mg x = some (.int i t)) (hd : (x == ("__debug__" : Str)) = false := by decide) : DE C X W (.Name x pos) (eK (.int i)) := PE.imp (pe_glob (v := .int i) hg hm ⟨t, rfl⟩ hd) fun _ _ _ h => k_run (fun _ => .int i) h
theorem de_gstr {x : Str} {i : Str} {t : Tok} (hg : Gl C x) (hm : C.mg x = some (.str i t)) (hd : (x == ("__debug__" : Str)) = false := by decide) : DE C X W (.Name x pos) (eK (.str i)) := PE.imp (pe_glob (v := .str i) hg hm ⟨t, rfl⟩ hd) fun _ _ _ h => k_run (fun _ => .str i) h
theorem de_bin {op : Operator} {f : D → D → Option Val} {oa ob : Opd} (ho : OpR C (binaryOp op) (rF C.K f)) (ha : DO C X W a oa) (hb : DO C X W b ob) (hK : X.K = C.K := by rfl) : DE C X W (.BinOp a op b pos) (bin f oa ob) :=
  PE.imp (pe_op ho ha hb) fun _ _ _ h => by rw [← hK]; exact tOp_of h
theorem de_cmp {op : CmpOp} {f : D → D → Option Val} {oa ob : Opd} (ho : OpR C (compareOp op) (rF C.K f)) (ha : DO C X W a oa) (hb : DO C X W b ob) (hm : behindInMarks op b = false := by first | exact nomark _ | rfl) (hK : X.K = C.K := by rfl) : DE C X W (.Compare a [op] [b] pos) (bin f oa ob) :=
  PE.imp (pe_cmpR ho ha hb hm) fun _ _ _ h => by rw [← hK]; exact tOp_of h
theorem de_un {op : UnaryOp} {f : D → Option Val} {oa : Opd} (ho : UnR C (unaryOp op) (rF1 C.K f)) (ha : DO C X W a oa) (hK : X.K = C.K := by rfl) : DE C X W (.UnaryOp op a pos) (una f oa) :=
  PE.imp (pe_un ho ha) fun _ _ _ h => by rw [← hK]; exact tUn_of h
/-! tests -/
theorem b_run {m : M Val} {Q : Bool → Hp → Prop} (h : rdT X W (asB m) σ H Q) : rdE X W m σ H fun x H1 => ∃ k, x = .bl k ∧ Q k H1 := by
  obtain ⟨Z, F, r, g, h⟩ := h
  refine ⟨Z, F, r, g, ?_⟩
  revert h
  unfold asB
  cases m r with
  | exc c ds r' => exact fun h => h
  | err => exact fun h => h
  | ok v r' =>
    cases v with
    | un => exact fun h => h.elim
    | ol xs => exact fun h => h.elim
    | od xs => exact fun h => h.elim
    | ow t => exact fun h => h.elim
    | fz d =>
      cases d with
      | bool b =>
        intro h Z' H' ex g' x rv
        cases rv
        exact ⟨b, rfl, h Z' H' ex g'⟩
      | _ => exact fun h => h.elim
theorem dt_val {m : M Val} (h : DE C X W e m) (he : ∀ whole, isTrue e C.env whole = (do let v ← whole; standAt e.pos; holding [v] (truthy v)) := by intro _; rfl) : DT C X W e (asB m) := PT.imp (pt_val h he) fun _ _ _ h => b_run h
theorem dt_cmp {op : CmpOp} {f : D → D → Option Val} {oa ob : Opd} (ho : OpR C (compareOp op) (rF C.K f)) (ha : DO C X W a oa) (hb : DO C X W b ob) (hm : behindInMarks op b = false := by first | exact nomark _ | rfl) (hK : X.K = C.K := by rfl) : DT C X W (.Compare a [op] [b] pos) (asB (bin f oa ob)) :=
  PT.imp (pt_cmpR ho ha hb hm) fun _ _ _ h => by
    show tOp (rF C.K f) (rdO X W oa) (rdO X W ob) _ _ _
    rw [← hK]; exact tOp_of (b_run h)
theorem tb_run {m : M Bool} {k : Bool → M Bool} {t : Bool → TT} {Q : Bool → Hp → Prop} (hk : ∀ c σ H, rdT X W (k c) σ H Q → t c σ H Q) (h : rdT X W (M.bind m k) σ H Q) : rdT X W m σ H fun c H1 => t c σ H1 Q := by
  obtain ⟨Z, F, r, g, h⟩ := h
  exact ⟨Z, F, r, g, (bind_run h).imp fun c r' Z' H' ex g' h' => hk c σ H' ⟨Z', F, r', g', h'⟩⟩
theorem retT_run {c : Bool} {Q : Bool → Hp → Prop} (h : rdT X W (M.ret c) σ H Q) : Q c H := by
  obtain ⟨Z, F, r, g, h⟩ := h
  exact ret_run g h
theorem dw_and1 {m : M Bool} (ha : DT C X W a m) : DW C X W (.BoolOp .And [a] pos) m := pw_and1 ha
theorem dw_or1 {m : M Bool} (ha : DT C X W a m) : DW C X W (.BoolOp .Or [a] pos) m := pw_or1 ha
theorem PW.imp {t t' : TT} (h : PW C e t) (i : ∀ σ H Q, t' σ H Q → t σ H Q) : PW C e t' := ⟨fun wh pins s σ H Q I q => h.run wh pins s σ H Q I (i σ H Q q)⟩
theorem dw_and {m n : M Bool} {rest : List Expr} (ha : DT C X W a m) (hb : DW C X W (.BoolOp .And (b :: rest) pos) n) : DW C X W (.BoolOp .And (a :: b :: rest) pos) (tAndM m n) :=
  PW.imp (pw_and ha hb) fun σ H Q h => tb_run (t := fun c σ H1 Q => if c = true then rdT X W n σ H1 Q else Q false H1) (fun c σ H h => by
    cases c with
    | true => exact h
    | false => exact retT_run h) h
theorem dw_or {m n : M Bool} {rest : List Expr} (ha : DT C X W a m) (hb : DW C X W (.BoolOp .Or (b :: rest) pos) n) : DW C X W (.BoolOp .Or (a :: b :: rest) pos) (tOrM m n) :=
  PW.imp (pw_or ha hb) fun σ H Q h => tb_run (t := fun c σ H1 Q => if c = true then Q true H1 else rdT X W n σ H1 Q) (fun c σ H h => by
    cases c with
    | false => exact h
    | true => exact retT_run h) h
theorem dt_w {m : M Bool} (h : DW C X W e m) : DT C X W e m := h.pt
theorem dt_not {m : M Bool} (h : DT C X W a m) : DT C X W (.UnaryOp .Not a pos) (tNotM m) :=
  PT.imp (pt_not h) fun σ H Q h => tb_run (t := fun c σ H1 Q => Q (!c) H1) (fun c σ H h => retT_run h) h
theorem de_ifExp {m : M Bool} {ma mb : M Val} (hc : DT C X W c m) (ha : DE C X W a ma) (hb : DE C X W b mb) : DE C X W (.IfExp c a b pos) (eIf m ma mb) :=
  PE.imp (pe_ifExp hc ha hb) fun σ H Q h => by
    obtain ⟨Z, F, r, g, h⟩ := h
    refine ⟨Z, F, r, g, (bind_run h).imp fun k r' Z' H' ex g' h' => ?_⟩
    cases k with
    | true => exact ⟨Z', F, r', g', h'⟩
    | false => exact ⟨Z', F, r', g', h'⟩
theorem de_one {op} {m : M Val} (h : DE C X W a m) : DE C X W (.BoolOp op [a] pos) m := pe_one h
theorem be_run {m : M Val} {k : Bool → M Val} {t : Bool → TE} {Q : VK} (hk : ∀ c σ H, rdE X W (k c) σ H Q → t c σ H Q) (h : rdE X W (M.bind (asB m) k) σ H Q) : rdE X W m σ H fun x H1 => ∃ c, x = .bl c ∧ t c σ H1 Q := by
  obtain ⟨Z, F, r, g, h⟩ := h
  exact b_run ⟨Z, F, r, g, (bind_run h).imp fun c r' Z' H' ex g' h' => hk c σ H' ⟨Z', F, r', g', h'⟩⟩
theorem retE_run {c : Bool} {Q : VK} (h : rdE X W (M.ret (.fz (.bool c))) σ H Q) : Q (.bl c) H := by
  obtain ⟨Z, F, r, g, h⟩ := h
  exact ret_run g h (.bl c) (.bl c)
theorem de_and {m n : M Val} {rest : List Expr} (ha : DE C X W a m) (hb : DE C X W (.BoolOp .And (b :: rest) pos) n) : DE C X W (.BoolOp .And (a :: b :: rest) pos) (eAnd m n) :=
  PE.imp (pe_and ha hb) fun σ H Q h => be_run (t := fun c σ H1 Q => if c = true then rdE X W n σ H1 Q else Q (.bl false) H1) (fun c σ H h => by
    cases c with
    | true => exact h
    | false => exact retE_run h) h
theorem de_or {m n : M Val} {rest : List Expr} (ha : DE C X W a m) (hb : DE C X W (.BoolOp .Or (b :: rest) pos) n) : DE C X W (.BoolOp .Or (a :: b :: rest) pos) (eOr m n) :=
  PE.imp (pe_or ha hb) fun σ H Q h => be_run (t := fun c σ H1 Q => if c = true then Q (.bl true) H1 else rdE X W n σ H1 Q) (fun c σ H h => by
    cases c with
    | false => exact h
    | true => exact retE_run h) h
theorem de_not {m : M Val} (h : DE C X W a m) : DE C X W (.UnaryOp .Not a pos) (eNot m) :=
  PE.imp (pe_not h) fun σ H Q h => be_run (t := fun c σ H1 Q => Q (.bl (!c)) H1) (fun c σ H h => retE_run h) h
/-! a chain -/
theorem chain_run {f g : D → D → Option Val} {oa ob oc : Opd} {Q : VK} (h : rdE X W (eChain f g oa ob oc) σ H Q) : tChain (rF X.K f) (rF X.K g) (rdO X W oa) (rdO X W ob) (rdO X W oc) σ H Q := by
  obtain ⟨Z, F, r, gg, h⟩ := h
  refine opd_run gg ?_
  revert h
  unfold eChain ev2
  cases e : oa.pre r with
  | exc c ds r' => exact fun h => h
  | err => exact fun h => h
  | ok d r1 =>
    intro h Z1 H1 ex1 g1 x hx
    refine opd_run g1 ?_
    simp only at h
    revert h
    cases e2 : ob.pre r1 with
    | exc c ds r' => exact fun h => h.ext ex1
    | err => exact fun h => h
    | ok k r2 =>
      simp only
      cases e3 : oa.look d r2 with
      | none => exact fun h => h.elim
      | some d' =>
        simp only
        intro h Z2 H2 ex2 g2 y hy
        have ey : ∃ k', ob.look k r2 = some k' := by
          cases ob with
          | v m => exact ⟨k, rfl⟩
          | sl i =>
            have e2' : (match slotD r1 i with | some d => (Res.ok d r1 : Res D) | none => .err) = .ok k r2 := e2
            cases e4 : slotD r1 i with
            | none => rw [e4] at e2'; cases e2'
            | some z => rw [e4] at e2'; cases e2'; exact ⟨k, e4⟩
        have hy0 : RepH X.K Z2 H2 y k := by
          cases ob with
          | v m => exact Rep.here hy g2.zh
          | sl i =>
            have e2' : (match slotD r1 i with | some d => (Res.ok d r1 : Res D) | none => .err) = .ok k r2 := e2
            cases e4 : slotD r1 i with
            | none => rw [e4] at e2'; cases e2'
            | some z => rw [e4] at e2'; cases e2'; exact Held.look (o := .sl i) g2 hy e4
        have hx2 := Held.look g2 (hx.up ex2.1) e3
        revert h
        cases e5 : f d' k with
        | none => exact fun h => h.elim
        | some v =>
          cases v with
          | un => exact fun h => h.elim
          | ol xs => exact fun h => h.elim
          | od xs => exact fun h => h.elim
          | ow t => exact fun h => h.elim
          | fz q =>
            cases q with
            | bool bb =>
              cases bb with
              | false =>
                intro h
                exact ⟨Z2, d', k, _, g2.zh, hx2, hy0, e5, Fresh.of g2 fun Z3 H3 ex3 g3 z rz => by
                  cases rz
                  exact ⟨false, rfl, h Z3 H3 (ex1.trans (ex2.trans ex3)) g3 _ (.bl false)⟩⟩
              | true =>
                intro h
                refine ⟨Z2, d', k, _, g2.zh, hx2, hy0, e5, Fresh.of g2 fun Z3 H3 ex3 g3 z rz => ?_⟩
                cases rz
                refine ⟨true, rfl, ?_⟩
                rw [if_pos rfl]
                refine opd_run g3 ?_
                revert h
                simp only
                cases e6 : oc.pre r2 with
                | exc c ds r' => exact fun h => h.ext (ex1.trans (ex2.trans ex3))
                | err => exact fun h => h
                | ok k2 r4 =>
                  simp only
                  cases e7 : ob.look k r4 with
                  | none => exact fun h => h.elim
                  | some k' =>
                    simp only
                    cases e8 : g k' k2 with
                    | none => exact fun h => h.elim
                    | some v =>
                      intro h Z4 H4 ex4 g4 z2 hz2
                      have hz3 : RepH X.K Z4 H4 z2 k2 := by
                        cases oc with
                        | v m => exact Rep.here hz2 g4.zh
                        | sl i =>
                          have e6' : (match slotD r2 i with | some d => (Res.ok d r2 : Res D) | none => .err) = .ok k2 r4 := e6
                          cases e9 : slotD r2 i with
                          | none => rw [e9] at e6'; cases e6'
                          | some z => rw [e9] at e6'; cases e6'; exact Held.look (o := .sl i) g4 hz2 e9
                      exact ⟨Z4, k', k2, v, g4.zh, Held.look g4 ((hy.up ex3.1).up ex4.1) e7, hz3, e8, Fresh.of g4 fun Z5 H5 ex5 g5 x5 rv => h Z5 H5 (ex1.trans (ex2.trans (ex3.trans (ex4.trans ex5)))) g5 x5 rv⟩
            | _ => exact fun h => h.elim
theorem de_chain {op op' : CmpOp} {f g : D → D → Option Val} {oa ob oc : Opd} (ho : OpR C (compareOp op) (rF C.K f)) (ho' : OpR C (compareOp op') (rF C.K g)) (ha : DO C X W a oa) (hb : DO C X W b ob) (hc : DO C X W c oc)
    (hm : lastMarks [op, op'] [b, c] = false := by with_unfolding_all rfl) (hK : X.K = C.K := by rfl) : DE C X W (.Compare a [op, op'] [b, c] pos) (eChain f g oa ob oc) := PE.imp (pe_chain ho ho' ha hb hc hm) fun _ _ _ h => by rw [← hK]; exact chain_run h
theorem dt_chain {op op' : CmpOp} {f g : D → D → Option Val} {oa ob oc : Opd} (ho : OpR C (compareOp op) (rF C.K f)) (ho' : OpR C (compareOp op') (rF C.K g)) (ha : DO C X W a oa) (hb : DO C X W b ob) (hc : DO C X W c oc)
    (hm : lastMarks [op, op'] [b, c] = false := by with_unfolding_all rfl) (hK : X.K = C.K := by rfl) : DT C X W (.Compare a [op, op'] [b, c] pos) (asB (eChain f g oa ob oc)) := PT.imp (pt_chain ho ho' ha hb hc hm) fun _ _ _ h => by
    show tChain (rF C.K f) (rF C.K g) (rdO X W oa) (rdO X W ob) (rdO X W oc) _ _ _
    rw [← hK]; exact chain_run (b_run h)
/-! several -/
theorem dvs_nil : DVs C X W [] [] := PA.mk fun po pins s σ H Q I h => pa_nil.run po pins s σ H Q I (by
  obtain ⟨Z, F, r, g, h⟩ := h
  exact ret_run g h [] .nil)
theorem dvs_cons {es : List Expr} {m : M Val} {ms : List (M Val)} (h1 : DE C X W e m) (h2 : DVs C X W es ms) (hs : starEach (e :: es) C.env = (false, eval e C.env) :: starEach es C.env := by rfl) : DVs C X W (e :: es) (m :: ms) := PA.mk fun po pins s σ H Q I h => (pa_cons h1 h2 hs).run po pins s σ H Q I (by
  obtain ⟨Z, F, r, g, h⟩ := h
  refine frz_run g ((bind_run h).imp fun d r1 Z1 H1 ex1 g1 h1 x rx => ⟨Z1, F, r1, g1, (bind_run h1).imp fun ds r2 Z2 H2 ex2 g2 h2 xs rs => ret_run g2 h2 (x :: xs) (.cons (Rep.up rx ex2.1) rs)⟩))
theorem dos_nil : DOs C X W [] [] := PA.mk fun po pins s σ H Q I h => pa_nil.run po pins s σ H Q I (by
  obtain ⟨Z, F, r, g, h⟩ := h
  exact ret_run g h [] True.intro)
theorem Helds.up {os : List Opd} : ∀ {xs : List V} {ds : List D} {Z Z' : Hp}, Helds X Z σ os xs ds → Same Z Z' → Helds X Z' σ os xs ds := by
  induction os with
  | nil =>
    intro xs ds Z Z' h s
    cases xs with
    | nil =>
      cases ds with
      | nil => exact True.intro
      | cons d ds => exact h.elim
    | cons x xs => exact h.elim
  | cons o os ih =>
    intro xs ds Z Z' h s
    cases xs with
    | nil => exact h.elim
    | cons x xs =>
      cases ds with
      | nil => exact h.elim
      | cons d ds => exact ⟨h.1.up s, ih h.2 s⟩
theorem dos_cons {es : List Expr} {o : Opd} {os : List Opd} (h1 : DO C X W e o) (h2 : DOs C X W es os) (hs : starEach (e :: es) C.env = (false, eval e C.env) :: starEach es C.env := by rfl) : DOs C X W (e :: es) (o :: os) := PA.mk fun po pins s σ H Q I h => (pa_cons h1 h2 hs).run po pins s σ H Q I (by
  obtain ⟨Z, F, r, g, h⟩ := h
  refine opd_run g ((bind_run h).imp fun d r1 Z1 H1 ex1 g1 h1 x rx => ⟨Z1, F, r1, g1, (bind_run h1).imp fun ds r2 Z2 H2 ex2 g2 h2 xs rs => ret_run g2 h2 (x :: xs) ⟨rx.up ex2.1, rs⟩⟩))
theorem Helds.look {os : List Opd} : ∀ {xs : List V} {ds es : List D} {Z H : Hp}, G X Z F r σ H → Helds X Z σ os xs ds → looks os ds r = some es → RepHs X.K Z H xs es := by
  induction os with
  | nil =>
    intro xs ds es Z H g h e
    cases xs with
    | cons x xs => exact h.elim
    | nil =>
      cases ds with
      | cons d ds => exact h.elim
      | nil => cases e; exact True.intro
  | cons o os ih =>
    intro xs ds es Z H g h e
    cases xs with
    | nil => exact h.elim
    | cons x xs =>
      cases ds with
      | nil => exact h.elim
      | cons d ds =>
        simp only [looks] at e
        cases e1 : o.look d r with
        | none => rw [e1] at e; cases e
        | some d' =>
          rw [e1] at e
          simp only [Option.map_eq_some_iff] at e
          obtain ⟨es', e2, rfl⟩ := e
          exact ⟨Held.look g h.1 e1, ih g h.2 e2⟩
theorem app_run {f : List D → Option Val} {os : List Opd} {Q : VK} (h : rdE X W (app f os) σ H Q) : tCB (rApp X.K f) (rdPs X W os) σ H Q := by
  obtain ⟨Z, F, r, g, h⟩ := h
  refine ⟨Z, F, r, g, ?_⟩
  revert h
  unfold app evs
  cases pres os r with
  | exc c ds r' => exact fun h => h
  | err => exact fun h => h
  | ok ds r' =>
    simp only
    cases e : looks os ds r' with
    | none => exact fun h => h.elim
    | some es =>
      simp only
      cases e2 : f es with
      | none => exact fun h => h.elim
      | some v => exact fun h Z' H' ex g' xs hx => ⟨Z', es, v, g'.zh, Helds.look g' hx e, e2, Fresh.of g' fun Z2 H2 ex2 g2 x rv => h Z2 H2 (ex.trans ex2) g2 x rv⟩
theorem de_callB {id : String} {x : Str} {p : Pos} {es : List Expr} {os : List Opd} {f : List D → Option Val} (hc : CallR C (.builtin id) (rApp C.K f)) (hg : Gl C x) (hm : C.mg x = none) (hv : bootBuiltins x = some (.builtin id)) (ha : DOs C X W (e :: es) os) (hn : x ≠ "__name__" := by decide) (hdb : (x == ("__debug__" : Str)) = false := by decide)
    (he : starEach (e :: es) C.env = (false, eval e C.env) :: starEach es C.env := by rfl) (hpl : (backTo pos (starEach es C.env)).any (·.1) = false := by rfl) (hK : X.K = C.K := by rfl) : DE C X W (.Call (.Name x p) (e :: es) [] pos) (app f os) :=
  PE.imp (pe_callB hc hg hm hv ha hn hdb he hpl) fun _ _ _ h => by rw [← hK]; exact app_run h
theorem de_callTy {T : String} {x : Str} {p : Pos} {es : List Expr} {os : List Opd} {f : List D → Option Val} (hc : CallR C (.type T) (rApp C.K f)) (hg : Gl C x) (hm : C.mg x = none) (hv : bootBuiltins x = some (.type T)) (ha : DOs C X W (e :: es) os) (hn : x ≠ "__name__" := by decide) (hdb : (x == ("__debug__" : Str)) = false := by decide)
    (he : starEach (e :: es) C.env = (false, eval e C.env) :: starEach es C.env := by rfl) (hpl : (backTo pos (starEach es C.env)).any (·.1) = false := by rfl) (hK : X.K = C.K := by rfl) : DE C X W (.Call (.Name x p) (e :: es) [] pos) (app f os) :=
  PE.imp (pe_callTy hc hg hm hv ha hn hdb he hpl) fun _ _ _ h => by rw [← hK]; exact app_run h
theorem After.imp2 {α : Type} {m : Res α} {ok ok' : α → List Val → Hp → Hp → Prop} (h : After X W m Z F σ ok) (i : ∀ a r' Z' H', m = .ok a r' → Ext Z Z' F → G X Z' F r' σ H' → ok a r' Z' H' → ok' a r' Z' H') : After X W m Z F σ ok' := by
  cases m with
  | ok a r' => exact fun Z' H' e g => i a r' Z' H' rfl e g (h Z' H' e g)
  | exc c ds r' => exact h
  | err => exact h
theorem vals_len : ∀ {ms : List (M Val)} {r r' : List Val} {ds : List D}, vals ms r = .ok ds r' → ds.length = ms.length
  | [], _, _, _, h => by cases h; rfl
  | m :: ms, r, r', ds, h => by
    simp only [vals, M.bind] at h
    cases e : frz m r with
    | exc c ds r' => rw [e] at h; cases h
    | err => rw [e] at h; cases h
    | ok d r1 =>
      rw [e] at h
      simp only at h
      cases e2 : vals ms r1 with
      | exc c ds r' => rw [e2] at h; cases h
      | err => rw [e2] at h; cases h
      | ok es r2 =>
        rw [e2] at h
        simp only [M.ret, Res.ok.injEq] at h
        obtain ⟨rfl, _⟩ := h
        rw [List.length_cons, List.length_cons, vals_len e2]
theorem vs_run {ms : List (M Val)} {k : List D → M Val} {Q : VK} {t : List V → Hp → Prop} (h : rdE X W (M.bind (vals ms) k) σ H Q) (hk : ∀ (ds : List D) (Z F H : Hp) (r : List Val) (xs : List V), ds.length = ms.length → G X Z F r σ H → Reps X.K Z xs ds → After X W (k ds r) Z F σ (fun v r' Z' H' => ∀ x, RV X Z' F H' r' σ x v → Q x H') → t xs H) : rdVs X W ms σ H t := by
  obtain ⟨Z, F, r, g, h⟩ := h
  exact ⟨Z, F, r, g, (bind_run h).imp2 fun ds r' Z' H' eq ex g' h' xs rs => hk ds Z' F H' r' xs (vals_len eq) g' rs h'⟩
theorem small_len {n : Nat} (h : n ≤ 1000) : n ≤ sizeLine := by rw [sizeLine_eq]; omega
theorem de_tup {es : List Expr} {ms : List (M Val)} {x1 : Nat} (ha : DVs C X W es ms) (hl : ms.length ≤ 1000 := by decide) : DE C X W (.Tuple es x1 pos) (eTup ms) := PE.imp (pe_tup ha) fun σ H Q h => vs_run h fun ds Z F H r xs ln g rs h' =>
  have l : xs.length ≤ sizeLine := by rw [rs.length, ln]; exact small_len hl
  ⟨l, fun p np => Fresh.tup (Fresh.of (v := .fz (.tuple ds)) g fun Z2 H2 ex2 g2 x rv => h' Z2 H2 ex2 g2 x rv) g.zh rs l p np⟩
theorem de_lst {es : List Expr} {ms : List (M Val)} (ha : DVs C X W es ms) (hl : ms.length ≤ 1000 := by decide) : DE C X W (.List es pos) (eLst ms) := PE.imp (pe_lst ha) fun σ H Q h => vs_run h fun ds Z F H r xs ln g rs h' =>
  have l : xs.length ≤ sizeLine := by rw [rs.length, ln]; exact small_len hl
  ⟨l, fun p np => Fresh.lst (Fresh.of (v := .ol ds) g fun Z2 H2 ex2 g2 x rv => h' Z2 H2 ex2 g2 x rv) g.zh rs l p np⟩
end

/-! ### items, slices -/
section
variable {C : Cx} {X : Fx} {W : WX}
def ixD : D → D → Option Val
  | .list xs, .int i => (atI xs i).map .fz
  | .tuple xs, .int i => (atI xs i).map .fz
  | .str z, .int i => if z.length ≤ LINE then (atI z.cps.toList i).map fun c => .fz (.str ⟨#[c]⟩) else none
  | _, _ => none
theorem Reps.atI {K : PySem.W.Frag} {Z : Hp} {vs : List V} {ds : List D} {i : Int} {d : D} (h : Reps K Z vs ds) (e : atI ds i = some d) : ∃ v, L2.atI vs i = some v ∧ Rep K Z v d := by
  unfold L2.atI at e ⊢
  rw [h.length]
  cases e1 : ixN ds.length i with
  | none => rw [e1] at e; cases e
  | some j =>
    rw [e1] at e
    exact h.get e
theorem ix_D : IxR C (rF C.K ixD) := by
  intro value slice pins s σ H x y v u Q I rx ry ⟨Z, d, e, z, hz, hx, hy, hf, fr⟩ hs
  unfold ixD at hf
  split at hf
  · rename_i xs i
    cases hy
    obtain ⟨d', e1, rfl⟩ := Option.map_eq_some_iff.mp hf
    obtain ⟨a, vs, rfl, r1, l, q⟩ := hx
    obtain ⟨w, e2, rw'⟩ := q.atI e1
    exact ix_list value slice pins s σ H _ _ v u Q I rx ry ⟨a, vs, i, w, rfl, rfl, LiL.sq r1, e2, fr.sc hz rw'⟩ hs
  · rename_i xs i
    cases hy
    obtain ⟨d', e1, rfl⟩ := Option.map_eq_some_iff.mp hf
    cases hx with
    | tup s1 l q =>
      obtain ⟨w, e2, rw'⟩ := q.atI e1
      exact ix_tup value slice pins s σ H _ _ v u Q I rx ry ⟨_, _, i, w, rfl, rfl, SqT.at hz s1, e2, fr.sc hz rw'⟩ hs
  · split at hf
    · rename_i z0 i hl
      cases hy
      cases hx
      obtain ⟨c, e1, rfl⟩ := Option.map_eq_some_iff.mp hf
      exact ix_str value slice pins s σ H _ _ v u Q I rx ry ⟨_, i, c, rfl, rfl, by rw [line_eq]; exact hl, e1, fr.sc hz (.str _)⟩ hs
    · cases hf
  · cases hf
theorem de_ix {a b : Expr} {pos : Pos} {oa ob : Opd} (ha : DO C X W a oa) (hb : DO C X W b ob) (hs : PlainIx b := by exact fun _ _ => rfl) (hK : X.K = C.K := by rfl) : DE C X W (.Subscript a b pos) (bin ixD oa ob) :=
  PE.imp (pe_ix ix_D ha hb hs) fun _ _ _ h => by rw [← hK]; exact tOp_of h
/-- xs[lo:hi], the items -/
def cutD {α : Type} (xs : List α) (lo hi : Option Int) : List α := (xs.drop (HT.sIx xs.length 0 lo)).take (HT.sIx xs.length xs.length hi - HT.sIx xs.length 0 lo)
def slD : D → Option Int → Option Int → Option Val
  | .list xs, lo, hi => some (.ol (cutD xs lo hi))
  | .tuple xs, lo, hi => some (.fz (.tuple (cutD xs lo hi)))
  | _, _, _ => none
def rSlD (K : PySem.W.Frag) (f : D → Option Int → Option Int → Option Val) : V → Option Int → Option Int → Hp → VK → Prop := fun x lo hi H Q => ∃ Z d v, Same Z H ∧ RepH K Z H x d ∧ f d lo hi = some v ∧ Fresh K Z H v Q
theorem Reps.cut {K : PySem.W.Frag} {Z : Hp} {vs : List V} {ds : List D} (h : Reps K Z vs ds) (lo hi : Option Int) : Reps K Z (cutV vs lo hi) (cutD ds lo hi) := by
  unfold cutV cutD
  rw [h.length]
  exact (h.drop _).take _
theorem cut_whole {α : Type} {xs : List α} {lo hi : Option Int} (h : HT.sIx xs.length 0 lo = 0 ∧ HT.sIx xs.length xs.length hi = xs.length) : cutD xs lo hi = xs := by
  unfold cutD
  rw [h.1, h.2]
  simp
theorem sl_D : SlR C (rSlD C.K slD) := by
  intro pins s σ H x v vl vu lo hi sl Q I rx hs pl pu ⟨Z, d, z, hz, hx, hf, fr⟩
  unfold slD at hf
  split at hf
  · cases hf
    obtain ⟨a, vs, rfl, r1, l, q⟩ := hx
    exact sl_list pins s σ H _ v vl vu _ _ sl Q I rx hs pl pu ⟨a, vs, rfl, LiL.sq r1, fr.lst hz (q.cut _ _) (Nat.le_trans (cutV_length _ _ _) l)⟩
  · cases hf
    cases hx with
    | tup s1 l q =>
      rename_i a vs
      refine sl_tupA pins s σ H _ v vl vu _ _ sl Q I rx hs pl pu ⟨a, vs, rfl, SqT.at hz s1, fun hw => ?_, fun _ => fr.tup hz (q.cut _ _) (Nat.le_trans (cutV_length _ _ _) l)⟩
      rw [q.length] at hw
      rw [cut_whole hw] at fr
      exact fr.sc hz (.tup s1 l q)
  · cases hf
def rdPt (X : Fx) (W : WX) (m : Option (M Val)) : TO := fun σ H Q => ∃ Z F r, G X Z F r σ H ∧ After X W (pt1 m r) Z F σ fun i r' Z' H' => Q i H'
theorem po_N : PO C none (rdPt X W none) := PO.mk fun pins s σ H Q I h => po_none.run pins s σ H Q I (by
  obtain ⟨Z, F, r, g, h⟩ := h
  exact ret_run g h)
theorem po_S {e : Expr} {m : M Val} (he : DE C X W e m) : PO C (some e) (rdPt X W (some m)) := PO.mk fun pins s σ H Q I h => (po_some he).run pins s σ H Q I (by
  obtain ⟨Z, F, r, g, h⟩ := h
  refine frz_run g ?_
  revert h
  unfold pt1
  simp only
  cases frz m r with
  | exc c ds r' => exact fun h => h
  | err => exact fun h => h
  | ok d r' =>
    cases d with
    | int i =>
      intro h Z' H' ex g' x rx
      cases rx
      exact ⟨i, rfl, h Z' H' ex g'⟩
    | _ => exact fun h => h.elim)
theorem sl_run {σ : L2.St} {H : Hp} {f : D → Option Int → Option Int → Option Val} {o : Opd} {lo hi : Option (M Val)} {Q : VK} (h : rdE X W (eSl f o lo hi) σ H Q) : tSl (rSlD X.K f) (rdO X W o) (rdPt X W lo) (rdPt X W hi) σ H Q := by
  obtain ⟨Z, F, r, g, h⟩ := h
  refine opd_run g ?_
  revert h
  unfold eSl
  cases o.pre r with
  | exc c ds r' => exact fun h => h
  | err => exact fun h => h
  | ok d r1 =>
    simp only
    intro h Z1 H1 ex1 g1 x hx
    refine ⟨Z1, F, r1, g1, ?_⟩
    revert h
    cases pt1 lo r1 with
    | exc c ds r' => exact fun h => h.ext ex1
    | err => exact fun h => h
    | ok l r2 =>
      simp only
      intro h Z2 H2 ex2 g2
      refine ⟨Z2, F, r2, g2, ?_⟩
      revert h
      cases pt1 hi r2 with
      | exc c ds r' => exact fun h => h.ext (ex1.trans ex2)
      | err => exact fun h => h
      | ok u r3 =>
        simp only
        cases e : o.look d r3 with
        | none => exact fun h => h.elim
        | some d' =>
          simp only
          cases e2 : f d' l u with
          | none => exact fun h => h.elim
          | some v =>
            intro h Z3 H3 ex3 g3
            exact ⟨Z3, d', v, g3.zh, Held.look g3 ((hx.up ex2.1).up ex3.1) e, e2, Fresh.of g3 fun Z4 H4 ex4 g4 x4 rv => h Z4 H4 (ex1.trans (ex2.trans (ex3.trans ex4))) g4 x4 rv⟩
theorem de_sl {e : Expr} {lo hi : Option Expr} {o : Opd} {l u : Option (M Val)} {p2 pos : Pos} (he : DO C X W e o) (hl : PO C lo (rdPt X W l)) (hu : PO C hi (rdPt X W u)) (hK : X.K = C.K := by rfl) : DE C X W (.Subscript e (.Slice lo hi none p2) pos) (eSl slD o l u) :=
  PE.imp (pe_slice sl_D he hl hu) fun _ _ _ h => by rw [← hK]; exact sl_run h
end

/-! ### built-ins -/
section
variable {C : Cx} {X : Fx} {W : WX}
def lenD : List D → Option Val
  | [.list xs] => some (.fz (.int xs.length))
  | [.tuple xs] => some (.fz (.int xs.length))
  | [.str z] => if z.length ≤ LINE then some (.fz (.int z.length)) else none
  | _ => none
theorem RepHs.one {K : PySem.W.Frag} {Z H : Hp} {xs : List V} {d : D} (h : RepHs K Z H xs [d]) : ∃ x, xs = [x] ∧ RepH K Z H x d := by
  cases xs with
  | nil => exact h.elim
  | cons x xs =>
    cases xs with
    | nil => exact ⟨x, rfl, h.1⟩
    | cons y ys => exact h.2.elim
theorem RepHs.two {K : PySem.W.Frag} {Z H : Hp} {xs : List V} {d e : D} (h : RepHs K Z H xs [d, e]) : ∃ x y, xs = [x, y] ∧ RepH K Z H x d ∧ RepH K Z H y e := by
  cases xs with
  | nil => exact h.elim
  | cons x xs =>
    obtain ⟨y, rfl, q⟩ := RepHs.one h.2
    exact ⟨x, y, rfl, h.1, q⟩
theorem call_by {f' : Value} {f : List D → Option Val} (h : ∀ (ds : List D) (v : Val) (xs : List V) (H Z : Hp) (Q : VK), f ds = some v → Same Z H → RepHs C.K Z H xs ds → Fresh C.K Z H v Q → ∃ r, CallR C f' r ∧ r xs H Q) : CallR C f' (rApp C.K f) := by
  intro pins s σ H xs us Q I rx ⟨Z, ds, z, hz, hx, hf, fr⟩
  obtain ⟨r, ho, hr⟩ := h ds z xs H Z Q hf hz hx fr
  exact ho pins s σ H xs us Q I rx hr
theorem call_lenD : CallR C (.builtin "len") (rApp C.K lenD) := call_by fun ds v xs H Z Q hf hz hx fr => by
  unfold lenD at hf
  split at hf
  · cases hf
    obtain ⟨x, rfl, a, vs, rfl, r1, l, q⟩ := RepHs.one hx
    refine ⟨_, call_len_seq, a, vs, rfl, .inl (LiL.sq r1), ?_⟩
    rw [q.length]
    exact fr.sc hz (.int _)
  · cases hf
    obtain ⟨x, ex, hx1⟩ := RepHs.one hx
    subst ex
    cases hx1 with
    | tup s1 l q =>
      refine ⟨_, call_len_seq, _, _, rfl, .inr (SqT.at hz s1), ?_⟩
      rw [q.length]
      exact fr.sc hz (.int _)
  · split at hf
    · rename_i hl
      cases hf
      obtain ⟨x, ex, hx1⟩ := RepHs.one hx
      subst ex
      cases hx1
      exact ⟨_, call_len_str, _, rfl, by rw [line_eq]; exact hl, fr.sc hz (.int _)⟩
    · cases hf
  · cases hf
def tyD : D → String
  | .none => "NoneType"
  | .bool _ => "bool"
  | .int _ => "int"
  | .str _ => "str"
  | .list _ => "list"
  | .tuple _ => "tuple"
  | .dict _ => "dict"
/-- the type of a thing: as the kit tells it, or a dict that is held fast -/
def TyY (K : PySem.W.Frag) (H : Hp) (x : V) (t : Value) : Prop := TyX K H x t ∨ ∃ a o kvs, x = .ref a ∧ t = .type "dict" ∧ H a = some (.frz o (.dT kvs))
theorem call_isiY {X : Cx} : CallR X (.builtin "isinstance") (fun xs H Q => ∃ (x : V) (T : String) (t : Value) (b : Bool), xs = [x, .ty T] ∧ TyY X.K H x t ∧ PySem.W.kitOne X.K t (.type T) = some b ∧ Q (.bl b) H) := by
  intro pins s σ H xs us Q I r h
  obtain ⟨x, T, t, b, rfl, ty, e, q⟩ := h
  rcases ty with ty | ⟨a, o, kvs, rfl, rfl, ea⟩
  · exact call_isi pins s σ H _ us Q I r ⟨x, .ty T, t, _, b, rfl, .ty T, ty, e, q⟩
  · obtain ⟨u1, u2, rfl, r1, r2⟩ := vals2 r
    cases (show u2 = Value.type T from r2)
    cases (show u1 = Value.ref a from r1)
    obtain ⟨_, _, _, vs, _, o', es, ep, h1, h2, _⟩ := (show ObjOk X.prog X.w H s.heap a (.frz o (.dT kvs)) from I.hok a _ ea)
    exact PySem.W.kia_one PySem.W.kitx_dict I.kIn ⟨o', h1, h2.1⟩ e (fun z => nomatch z) fun tk => ⟨.bl b, H, I.tok tk, rfl, q⟩
theorem ty_of {H Z : Hp} {K : PySem.W.Frag} {x : V} {d : D} (hz : Same Z H) (hx : RepH K Z H x d) : TyY K H x (.type (tyD d)) := by
  cases d with
  | none => cases hx; exact .inl (.base .non)
  | bool b => cases hx; exact .inl (.base (.bl _))
  | int b => cases hx; exact .inl (.base (.int _))
  | str b => cases hx; exact .inl (.base (.str _))
  | list ds =>
    obtain ⟨a, vs, rfl, r, _⟩ := hx
    rcases r with (r | ⟨o, r⟩) | ⟨its, n, e, _⟩
    · exact .inl (.base (.lst r))
    · exact .inl (.base (.frz r))
    · exact .inl (.kList e rfl)
  | dict ds =>
    obtain ⟨a, vs, rfl, r, _⟩ := hx
    rcases r with r | ⟨o, r⟩
    · exact .inl (.base (.dT r))
    · exact .inr ⟨_, _, _, rfl, rfl, r⟩
  | tuple ds =>
    cases hx with
    | tup s1 l q =>
      rcases SqT.at hz s1 with (r | ⟨o, r⟩) | ⟨o, its, n, h1, h2, _⟩
      · exact .inl (.base (.tup r))
      · exact .inl (.fTuple r)
      · exact .inl (.kTuple h1 h2)
/-- isinstance(x, T), T a built-in type -/
def isiD (T : String) (d : D) : Option Val := (kitB (tyD d) T).map fun b => .fz (.bool b)
def eIsi (T : String) (o : Opd) : M Val := una (isiD T) o
theorem de_isi {e : Expr} {o : Opd} {T : String} {x : Str} {p p2 pos : Pos} (ha : DO C X W e o) (hg : Gl C "isinstance") (hm : C.mg "isinstance" = none) (hgT : Gl C x) (hmT : C.mg x = none) (hvT : bootBuiltins x = some (.type T)) (hv : bootBuiltins "isinstance" = some (.builtin "isinstance") := by decide +kernel)
    (hn : x ≠ "__name__" := by decide) (hd : (x == ("__debug__" : Str)) = false := by decide) (hs1 : starEach [e, .Name x p2] C.env = (false, eval e C.env) :: starEach [.Name x p2] C.env := by rfl) (hs2 : starEach [.Name x p2] C.env = (false, eval (.Name x p2) C.env) :: starEach [] C.env := by rfl)
    (hpl : (backTo pos (starEach [.Name x p2] C.env)).any (·.1) = false := by rfl) (hK : X.K = C.K := by rfl) : DE C X W (.Call (.Name "isinstance" p) [e, .Name x p2] [] pos) (eIsi T o) := by
  refine PE.imp (pe_callB call_isiY hg hm hv (pa_cons ha (pa_cons (pe_bltn hgT hmT hvT (show RelV (.ty T) (.type T) from rfl) hn hd) pa_nil hs2) hs1) (by decide) (by decide) hs1 hpl) fun σ H Q h => ?_
  obtain ⟨Z, F, r, g, h⟩ := h
  refine opd1_run g ?_
  revert h
  unfold eIsi una
  cases ev1 o r with
  | exc c ds r' => exact fun h => h
  | err => exact fun h => h
  | ok d r' =>
    simp only
    cases e : isiD T d with
    | none => exact fun h => h.elim
    | some v =>
      intro h Z' H' ex g' y hy
      obtain ⟨b, e1, rfl⟩ := Option.map_eq_some_iff.mp e
      exact ⟨y, T, _, b, rfl, by rw [← hK]; exact ty_of g'.zh hy, kit_ty e1, h Z' H' ex g' (.bl b) (.bl b)⟩
end
end MS

/-! part e: statements, loops -/
namespace MS
open PySem PySem.Spec PyProof.Rows L2

inductive Fl where
  | nx | bk | ct | rt (v : Val)
section
variable (C : Cx) (X : Fx) (W : WX)
/-- what a statement's end asks -/
def EndF (Z F : Hp) (D : Ends) (r' : List Val) (σ' : L2.St) (H' : Hp) : Fl → Prop
  | .nx => D.nx σ' H'
  | .bk => D.bk σ' H'
  | .ct => D.ct σ' H'
  | .rt v => ∀ x, RV X Z F H' r' σ' x v → D.rt x H'
def AfterS (m : Res Fl) (Z F : Hp) (D : Ends) : Prop := match m with
  | .ok f r' => ∀ σ' Z' H', Ext Z Z' F → G X Z' F r' σ' H' → EndF X Z' F D r' σ' H' f
  | .exc c ds r' => ∀ cls d σ' Z' H', X.ex c ds cls d H' → Ext Z Z' F → G X Z' F r' σ' H' → W cls d σ' H'
  | .err => False
def rdS (m : M Fl) : TS := fun D σ H => ∃ Z F r, G X Z F r σ H ∧ AfterS X W (m r) Z F D
abbrev DS (s : Stmt) (m : M Fl) : Prop := PS C s (rdS X W m)
abbrev DSs (s : List Stmt) (m : M Fl) : Prop := PSs C s (rdS X W m)
/-- a target -/
def Off (ts : List Nat) (σ σ' : L2.St) : Prop := σ'.length = σ.length ∧ ∀ i, i ∉ ts → σ'[i]? = σ[i]?
def rdG (ts : List Nat) (t : D → M Unit) : TG := fun x σ H Q => ∃ Z F r d, G X Z F r σ H ∧ Rep X.K Z x d ∧ (match t d r with
  | .ok _ r' => ∀ σ', Off ts σ σ' → G X Z F r' σ' H → Q σ' H
  | _ => False)
abbrev DG (tg : Expr) (ts : List Nat) (t : D → M Unit) : Prop := PG C tg (rdG X ts t)
def IterOk (Z : Hp) (J : It) (items : List D) : Prop := ∀ Z1 H1, Same Z Z1 → Same Z1 H1 → ∀ i, (i < items.length → J.go i H1) ∧ (items.length ≤ i → J.stop i H1) ∧
  ∀ d, items[i]? = some d → ∀ x H2, J.yld i H1 x H2 → Same H1 H2 ∧ ∃ Z2, Grown Z1 Z2 H1 ∧ Same Z2 H2 ∧ Rep X.K Z2 x d
def rdI (im : M (List D)) : TI := fun σ H R => ∃ Z F r, G X Z F r σ H ∧ After X W (im r) Z F σ fun items r' Z' H' => ∀ J, IterOk X Z' J items → R J H'
abbrev DI (tg iter : Expr) (im : M (List D)) : Prop := PI C tg iter (rdI X W im)
end

/-! ### runs of statements -/
def sSeq (a b : M Fl) : M Fl := M.bind a fun f => match f with
  | .nx => b
  | f => M.ret f
def sNil : M Fl := M.ret .nx
def sSet (i : Nat) (m : M Val) : M Fl := M.bind m fun v => fun r => .ok .nx (r.set i v)
def sDrop (m : M Val) : M Fl := M.bind m fun _ => M.ret .nx
def sRet (m : M Val) : M Fl := M.bind m fun v => M.ret (.rt v)
def sIf (c : M Bool) (a b : M Fl) : M Fl := M.bind c fun k => if k = true then a else b
def tgN (i : Nat) (d : D) : M Unit := fun r => .ok () (r.set i (.fz d))
def tgs : List (D → M Unit) → List D → M Unit
  | [], [] => M.ret ()
  | t :: ts, d :: ds => M.bind (t d) fun _ => tgs ts ds
  | _, _ => fun _ => .err
def tgT (ts : List (D → M Unit)) : D → M Unit
  | .tuple ds => tgs ts ds
  | _ => fun _ => .err
def sAsg (t : D → M Unit) (m : M Val) : M Fl := M.bind (frz m) fun d => fun r => match t d r with
  | .ok _ r' => .ok .nx r'
  | _ => .err
def forL (t : D → M Unit) (body : M Fl) : List D → M Fl
  | [] => M.ret .nx
  | d :: ds => fun r => match t d r with
    | .ok _ r1 => match body r1 with
      | .ok .nx r2 => forL t body ds r2
      | .ok .ct r2 => forL t body ds r2
      | .ok .bk r2 => .ok .nx r2
      | .ok (.rt v) r2 => .ok (.rt v) r2
      | .exc c es r2 => .exc c es r2
      | .err => .err
    | _ => .err
def sFor (t : D → M Unit) (im : M (List D)) (body : M Fl) : M Fl := M.bind im fun items => forL t body items
def whileL (c : M Bool) (body : M Fl) : Nat → M Fl
  | 0 => fun _ => .err
  | n + 1 => M.bind c fun k => if k = true then fun r1 => match body r1 with
      | .ok .nx r2 => whileL c body n r2
      | .ok .ct r2 => whileL c body n r2
      | .ok .bk r2 => .ok .nx r2
      | .ok (.rt v) r2 => .ok (.rt v) r2
      | .exc c es r2 => .exc c es r2
      | .err => .err
    else M.ret .nx
/-- items of a list or a tuple -/
def iSeq (m : M Val) : M (List D) := fun r => match frz m r with
  | .ok (.list xs) r' => .ok xs r'
  | .ok (.tuple xs) r' => .ok xs r'
  | .ok _ _ => .err
  | .exc c ds r' => .exc c ds r'
  | .err => .err
def rangeD (lo hi : Int) : List D := (List.range (hi - lo).toNat).map fun i => PyData.int (lo + (i : Nat))
/-- small, told without a reckoning -/
def smI : Int → Bool
  | .ofNat n => Nat.ble n 4611686018427387000
  | .negSucc n => Nat.ble n 4611686018427387000
theorem smI_of {i : Int} (h : smI i = true) : -(2 ^ 62) ≤ i ∧ i < 2 ^ 62 := by
  cases i with
  | ofNat n =>
    have := Nat.le_of_ble_eq_true h
    constructor
    · exact Int.le_trans (by decide) (Int.ofNat_nonneg n)
    · exact Int.lt_of_le_of_lt (Int.ofNat_le.mpr this) (by decide)
  | negSucc n =>
    have := Nat.le_of_ble_eq_true h
    constructor
    · omega
    · omega
def iR1 (o : Opd) : M (List D) := fun r => match ev1 o r with
  | .ok (.int j) r' => if smI j = true then .ok (rangeD 0 j) r' else .err
  | .ok _ _ => .err
  | .exc c ds r' => .exc c ds r'
  | .err => .err
def iR2 (a b : Opd) : M (List D) := fun r => match ev2 a b r with
  | .ok (.int i, .int j) r' => if (smI i && smI j) = true then .ok (rangeD i j) r' else .err
  | .ok _ _ => .err
  | .exc c ds r' => .exc c ds r'
  | .err => .err

section
variable {C : Cx} {X : Fx} {W : WX} {Z F H : Hp} {r : List Val} {σ : L2.St} {e : Expr} {pos : Pos} {x : V} {v : Val}
theorem bindS_run {α : Type} {m : M α} {k : α → M Fl} {D : Ends} (h : AfterS X W (M.bind m k r) Z F D) : After X W (m r) Z F σ fun v r' Z' H' => AfterS X W (k v r') Z' F D := by
  revert h
  unfold M.bind
  cases m r with
  | ok v r' =>
    intro h Z' H' ex g
    revert h
    simp only
    cases k v r' with
    | ok f r'' => exact fun h σ' Z'' H'' e' g' => h σ' Z'' H'' (ex.trans e') g'
    | exc c ds r' => exact fun h cls d σ' Z'' H'' x e' g' => h cls d σ' Z'' H'' x (ex.trans e') g'
    | err => exact fun h => h
  | exc c ds r' => exact fun h cls d Z' H' x ex g => h cls d σ Z' H' x ex g
  | err => exact fun h => h
theorem retS_run {f : Fl} {D : Ends} (g : G X Z F r σ H) (h : AfterS X W (M.ret f r) Z F D) : EndF X Z F D r σ H f := h σ Z H (Ext.refl Z F) g
theorem AfterS.ext {m : Res Fl} {Z1 : Hp} {D : Ends} (h : AfterS X W m Z F D) (e : Ext Z Z1 F) : AfterS X W m Z1 F D := by
  cases m with
  | ok a r' => exact fun σ' Z' H' e' g => h σ' Z' H' (e.trans e') g
  | exc c ds r' => exact fun cls d σ' Z' H' x e' g => h cls d σ' Z' H' x (e.trans e') g
  | err => exact h
theorem dss_nil : DSs C X W [] sNil := PSs.imp pss_nil fun D σ H h => by
  obtain ⟨Z, F, r, g, h⟩ := h
  exact retS_run g h
theorem dss_cons {s : Stmt} {rest : List Stmt} {a b : M Fl} (h1 : DS C X W s a) (h2 : DSs C X W rest b) : DSs C X W (s :: rest) (sSeq a b) := PSs.imp (pss_cons h1 h2) fun D σ H h => by
  obtain ⟨Z, F, r, g, h⟩ := h
  refine ⟨Z, F, r, g, ?_⟩
  revert h
  unfold sSeq M.bind
  cases a r with
  | exc c ds r' => exact fun h => h
  | err => exact fun h => h
  | ok f r' =>
    cases f with
    | nx => exact fun h σ' Z' H' ex g' => ⟨Z', F, r', g', h.ext ex⟩
    | bk => exact fun h => h
    | ct => exact fun h => h
    | rt v => exact fun h => h
theorem dss_one {s : Stmt} {a : M Fl} (h1 : DS C X W s a) : DSs C X W [s] a := pss_one h1

/-- all is kept, where the slots' own objects are kept -/
theorem G.moved {Z' F' H' : Hp} (g : G X Z F r σ H) (zh : Same Z' H') (fh : Same F' H') (z : Same Z Z') (hh : Same X.hx F') (e : ∀ (i : Nat) (v : Val), r[i]? = some v → ∀ b ∈ foot H σ[i]? v, H' b = H b ∧ Z' b = none ∧ F' b = none) (nz : NoT X.ex.tb Z') (nf : NoT X.ex.tb F') (tb : LamX.Tabs X.ex.tb H') : G X Z' F' r σ H' ∧ ∀ b, Out H r σ b → Out H' r σ b := by
  have c : ∀ (i : Nat) (v : Val), r[i]? = some v → SlotR X.K X.ex.dk Z' F' H' σ[i]? v ∧ foot H' σ[i]? v = foot H σ[i]? v := fun i v h =>
    (g.sl i v h).congr (fun b hb => (e i v h b hb).1) z fun b hb => (e i v h b hb).2
  refine ⟨⟨zh, fh, g.len, fun i v h => (c i v h).1, fun i j v w b h1 h2 e1 e2 => ?_, g.kp, hh, nz, nf, tb⟩, fun b o i v h m => ?_⟩
  · rw [(c i v h1).2] at e1
    rw [(c j w h2).2] at e2
    exact g.di i j v w b h1 h2 e1 e2
  · rw [(c i v h).2] at m
    exact o i v h m
/-- less is framed -/
theorem G.less {F' : Hp} (g : G X Z F' r σ H) (s : Same F F') (hh : Same X.hx F) : G X Z F r σ H :=
  (g.moved g.zh (s.trans g.fh) (Same.refl Z) hh (fun i v h b hb => ⟨rfl, ((g.sl i v h).at b hb).2.1, none_of s ((g.sl i v h).at b hb).2.2⟩) g.nz (fun b hb => none_of s (g.nf b hb)) g.tb).1
/-- one thing more is framed -/
theorem G.frame {D0 : Addr} {o : HO} (g : G X Z F r σ H) (h : H D0 = some o) (hF : F D0 = none) (out : Out H r σ D0) (hn : ∀ ps, o ≠ .tbl ps := by exact fun _ h => nomatch h) : G X Z (upd F D0 o) r σ H := by
  refine (g.moved g.zh (fun b u e => ?_) (Same.refl Z) (g.hh.trans (Same.upd hF)) (fun i v hv b hb => ⟨rfl, ((g.sl i v hv).at b hb).2.1, ?_⟩) g.nz (g.nf.upd (tab_ne g.tb h hn)) g.tb).1
  · by_cases hb : b = D0
    · subst hb; rw [upd_same] at e; cases e; exact h
    · rw [upd_ne hb] at e; exact g.fh b u e
  · rw [upd_ne fun q => out i v hv (by rw [← q]; exact hb)]
    exact ((g.sl i v hv).at b hb).2.2
/-- a thing that belongs to no name is put otherwise -/
theorem G.chg {D0 : Addr} {o o0 : HO} (g : G X Z F r σ H) (z : Z D0 = none) (f : F D0 = none) (out : Out H r σ D0) (h0 : H D0 = some o0) (w0 : OwnO o0) : G X Z F r σ (upd H D0 o) ∧ ∀ b, Out H r σ b → Out (upd H D0 o) r σ b := by
  have far : ∀ {Y : Hp}, Same Y H → Y D0 = none → Same Y (upd H D0 o) := fun {Y} s n b u e => by
    rw [upd_ne (fun q => by rw [q, n] at e; cases e)]
    exact s b u e
  exact g.moved (far g.zh z) (far g.fh f) (Same.refl Z) g.hh (fun i v hv b hb => ⟨upd_ne fun q => out i v hv (by rw [← q]; exact hb), ((g.sl i v hv).at b hb).2.1, ((g.sl i v hv).at b hb).2.2⟩) g.nz g.nf (tabs_upd g.tb h0 w0)
/-- a name that was put aside is filled -/
theorem G.fill {i : Nat} {w : Val} (g : G X Z F (r.set i .un) σ H) (hs : SlotR X.K X.ex.dk Z F H σ[i]? w) (o : ∀ b ∈ foot H σ[i]? w, Out H (r.set i .un) σ b) : G X Z F (r.set i w) σ H := by
  have un : ∀ {j : Nat} {u : Val}, i ≠ j → r[j]? = some u → (r.set i Val.un)[j]? = some u := fun hj e => by rw [List.getElem?_set_ne hj]; exact e
  have gl : r.length = σ.length := by have := g.len; rw [List.length_set] at this; exact this
  refine ⟨g.zh, g.fh, by rw [List.length_set]; exact gl, fun j v ej => ?_, fun j l v u p e2 e3 f2 f3 => ?_, g.kp, g.hh, g.nz, g.nf, g.tb⟩
  · rcases set_get ej with ⟨z1, _, z2⟩ | ⟨hj, ej⟩
    · subst z1 z2; exact hs
    · exact g.sl j v (un hj ej)
  · rcases set_get e2 with ⟨z1, _, z2⟩ | ⟨hj, q2⟩
    · rcases set_get e3 with ⟨y1, _, y2⟩ | ⟨hl, q3⟩
      · exact z1.symm.trans y1
      · subst z1 z2
        exact absurd f3 (o p f2 l u (un hl q3))
    · rcases set_get e3 with ⟨y1, _, y2⟩ | ⟨hl, q3⟩
      · subst y1 y2
        exact absurd f2 (o p f3 j v (un hj q2))
      · exact g.di j l v u p (un hj q2) (un hl q3) f2 f3
theorem RV.slot (rv : RV X Z F H r σ x v) : SlotR X.K X.ex.dk Z F H (some (some x)) v ∧ ∀ b ∈ foot H (some (some x)) v, Out H r σ b := by
  cases v with
  | un => exact rv.elim
  | fz d => exact ⟨⟨x, rfl, rv⟩, by rw [foot_fz]; exact fun b hb => nomatch hb⟩
  | ol xs =>
    obtain ⟨a, vs, rfl, h1, l, q, z, f, o⟩ := rv
    exact ⟨⟨a, vs, rfl, h1, l, q, z, f⟩, fun b hb => by rw [List.mem_singleton.mp (show b ∈ [a] from hb)]; exact o⟩
  | od xs =>
    obtain ⟨a, vs, rfl, h1, q, z, f, o⟩ := rv
    exact ⟨⟨a, vs, rfl, h1, q, z, f⟩, fun b hb => by rw [List.mem_singleton.mp (show b ∈ [a] from hb)]; exact o⟩
  | ow t =>
    obtain ⟨a, rfl, h1, q⟩ := rv
    exact ⟨⟨a, rfl, h1, fun b hb => ⟨(q b hb).1, (q b hb).2.1⟩⟩, fun b hb => (q b hb).2.2⟩
theorem RV.of_slot (h : SlotR X.K X.ex.dk Z F H (some (some x)) v) (hn : v ≠ .un) (o : ∀ b ∈ foot H (some (some x)) v, Out H r σ b) : RV X Z F H r σ x v := by
  cases v with
  | un => exact absurd rfl hn
  | fz d => obtain ⟨y, e, q⟩ := h; cases e; exact q
  | ol xs =>
    obtain ⟨a, vs, e, h1, l, q, z, f⟩ := h
    cases e
    exact ⟨a, vs, rfl, h1, l, q, z, f, o a (List.mem_singleton.mpr rfl)⟩
  | od xs =>
    obtain ⟨a, vs, e, h1, q, z, f⟩ := h
    cases e
    exact ⟨a, vs, rfl, h1, q, z, f, o a (List.mem_singleton.mpr rfl)⟩
  | ow t =>
    obtain ⟨a, e, h1, q⟩ := h
    cases e
    exact ⟨a, rfl, h1, fun b hb => ⟨(q b hb).1, (q b hb).2, o b hb⟩⟩
theorem RV.ne_un (rv : RV X Z F H r σ x v) : v ≠ .un := fun e => by subst e; exact rv

theorem G.store (g : G X Z F r σ H) {i : Nat} {v : Val} {x : V} (hB : i ∉ X.B) (rv : RV X Z F H r σ x v) : G X Z F (r.set i v) (σ.set i (some x)) H := by
  obtain ⟨sl, ou⟩ := rv.slot
  have at' : ∀ {j : Nat} {u : Val}, (r.set i v)[j]? = some u → (i = j ∧ u = v ∧ (σ.set i (some x))[j]? = some (some x)) ∨ (i ≠ j ∧ r[j]? = some u ∧ (σ.set i (some x))[j]? = σ[j]?) := fun {j u} h => by
    rcases set_get h with ⟨rfl, hl, rfl⟩ | ⟨hj, h⟩
    · exact .inl ⟨rfl, rfl, List.getElem?_set_self (by rw [← g.len]; exact hl)⟩
    · exact .inr ⟨hj, h, List.getElem?_set_ne hj⟩
  refine ⟨g.zh, g.fh, by rw [List.length_set, List.length_set]; exact g.len, fun j u h => ?_, fun j k u w p h1 h2 e1 e2 => ?_, fun j hj => ?_, g.hh, g.nz, g.nf, g.tb⟩
  · rcases at' h with ⟨_, rfl, e⟩ | ⟨_, h, e⟩
    · rw [e]; exact sl
    · rw [e]; exact g.sl j u h
  · rcases at' h1 with ⟨y1, z1, a1⟩ | ⟨n1, q1, a1⟩
    · rcases at' h2 with ⟨y2, z2, a2⟩ | ⟨n2, q2, a2⟩
      · exact y1.symm.trans y2
      · rw [a1, z1] at e1; rw [a2] at e2
        exact absurd e2 (ou p e1 k w q2)
    · rcases at' h2 with ⟨y2, z2, a2⟩ | ⟨n2, q2, a2⟩
      · rw [a1] at e1; rw [a2, z2] at e2
        exact absurd e1 (ou p e2 j u q1)
      · rw [a1] at e1; rw [a2] at e2
        exact g.di j k u w p q1 q2 e1 e2
  · rw [List.getElem?_set_ne (fun q => hB (by rw [q]; exact hj))]
    exact g.kp j hj
theorem ds_set {i : Nat} {x : Str} {m : M Val} {pos' : Pos} (hN : C.N.Nodup) (hi : C.N[i]? = some x) (hx : Loc C.env.scope x) (he : DE C X W e m) (hB : i ∉ X.B := by exact of_decide_eq_true rfl) (hs : swapsWith e (some (.Name x pos')) pos.line C.env = pure false := by rfl) (hf : C.fn x = true ∨ C.env.scope.names.lookup x = some .local := by first | exact .inl rfl | exact .inr rfl | assumption) :
    DS C X W (.Assign [.Name x pos'] e pos) (sSet i m) := PS.imp (ps_set hN hi hx he hs hf) fun D σ H h => by
  obtain ⟨Z, F, r, g, h⟩ := h
  exact ⟨Z, F, r, g, (bindS_run h).imp fun v r' Z' H' ex g' h' x rv => h' (σ.set i (some x)) Z' H' (Ext.refl _ _) (g'.store hB rv)⟩
theorem ds_expr {m : M Val} (he : DE C X W e m) (hs : swapsWith e none pos.line C.env = pure false := by rfl) : DS C X W (.Expr e pos) (sDrop m) := PS.imp (ps_expr he hs) fun D σ H h => by
  obtain ⟨Z, F, r, g, h⟩ := h
  exact ⟨Z, F, r, g, (bindS_run h).imp fun v r' Z' H' ex g' h' x rv => retS_run g' h'⟩
theorem ds_ret {m : M Val} (he : DE C X W e m) : DS C X W (.Return (some e) pos) (sRet m) := PS.imp (ps_ret he) fun D σ H h => by
  obtain ⟨Z, F, r, g, h⟩ := h
  exact ⟨Z, F, r, g, (bindS_run h).imp fun v r' Z' H' ex g' h' x rv => retS_run g' h' x rv⟩
theorem ds_if {c : Expr} {m : M Bool} {a b : List Stmt} {ma mb : M Fl} (hc : DT C X W c m) (ha : DSs C X W a ma) (hb : DSs C X W b mb) : DS C X W (.If c a b pos) (sIf m ma mb) := PS.imp (ps_if hc ha hb) fun D σ H h => by
  obtain ⟨Z, F, r, g, h⟩ := h
  refine ⟨Z, F, r, g, (bindS_run h).imp fun k r' Z' H' ex g' h' => ?_⟩
  cases k with
  | true => exact ⟨Z', F, r', g', h'⟩
  | false => exact ⟨Z', F, r', g', h'⟩
theorem ds_break : DS C X W (.Break pos) (M.ret .bk) := PS.imp ps_break fun D σ H h => by
  obtain ⟨Z, F, r, g, h⟩ := h
  exact retS_run g h
theorem ds_continue : DS C X W (.Continue pos) (M.ret .ct) := PS.imp ps_continue fun D σ H h => by
  obtain ⟨Z, F, r, g, h⟩ := h
  exact retS_run g h
/-! targets -/
theorem PG.imp {tg : Expr} {t t' : TG} (h : PG C tg t) (i : ∀ x σ H Q, t' x σ H Q → t x σ H Q) : PG C tg t' := ⟨fun pins s σ H v u Q I rv q => h.run pins s σ H v u Q I rv (i v σ H Q q)⟩
theorem PGs.imp {tg : List Expr} {t t' : TGs} (h : PGs C tg t) (i : ∀ x σ H Q, t' x σ H Q → t x σ H Q) : PGs C tg t' := ⟨fun pins s σ H v u Q I rv q => h.run pins s σ H v u Q I rv (i v σ H Q q)⟩
theorem dg_name {i : Nat} {x : Str} (hN : C.N.Nodup) (hi : C.N[i]? = some x) (hx : Loc C.env.scope x) (hB : i ∉ X.B := by exact of_decide_eq_true rfl) (hf : C.fn x = true ∨ C.env.scope.names.lookup x = some .local := by first | exact .inl rfl | exact .inr rfl | assumption) : DG C X (.Name x pos) [i] (tgN i) :=
  PG.imp (pg_name hN hi hx hf) fun x σ H Q h => by
    obtain ⟨Z, F, r, d, g, rp, h⟩ := h
    refine h (σ.set i (some x)) ⟨List.length_set, fun j hj => List.getElem?_set_ne fun q => hj (by rw [q]; exact List.mem_cons_self)⟩ (g.store (v := .fz d) hB rp)
def rdGs (X : Fx) (ts : List Nat) (t : List D → M Unit) : TGs := fun xs σ H Q => ∃ Z F r ds, G X Z F r σ H ∧ Reps X.K Z xs ds ∧ (match t ds r with
  | .ok _ r' => ∀ σ', Off ts σ σ' → G X Z F r' σ' H → Q σ' H
  | _ => False)
abbrev DGs (C : Cx) (X : Fx) (tg : List Expr) (ts : List Nat) (t : List (D → M Unit)) : Prop := PGs C tg (rdGs X ts (tgs t))
theorem Off.refl (ts : List Nat) (σ : L2.St) : Off ts σ σ := ⟨rfl, fun _ _ => rfl⟩
theorem Off.trans {a b : List Nat} {σ σ1 σ2 : L2.St} (h : Off a σ σ1) (k : Off b σ1 σ2) : Off (a ++ b) σ σ2 := ⟨k.1.trans h.1, fun i hi => (k.2 i fun q => hi (List.mem_append_right _ q)).trans (h.2 i fun q => hi (List.mem_append_left _ q))⟩
theorem dgs_nil : DGs C X [] [] [] := PGs.imp pgs_nil fun xs σ H Q h => by
  obtain ⟨Z, F, r, ds, g, rp, h⟩ := h
  cases ds with
  | nil => cases rp; exact ⟨rfl, h σ (Off.refl _ _) g⟩
  | cons d ds => exact h.elim
theorem dgs_cons {tg : Expr} {tgr : List Expr} {a b : List Nat} {t : D → M Unit} {ts : List (D → M Unit)} (h1 : DG C X tg a t) (h2 : DGs C X tgr b ts) (hs : (assignEach (tg :: tgr) C.env).map (·.2) = assign tg C.env :: (assignEach tgr C.env).map (·.2) := by rfl) : DGs C X (tg :: tgr) (a ++ b) (t :: ts) :=
  PGs.imp (pgs_cons h1 h2 hs) fun xs σ H Q h => by
    obtain ⟨Z, F, r, ds, g, rp, h⟩ := h
    cases ds with
    | nil => exact h.elim
    | cons d ds =>
      cases rp with
      | cons r1 r2 =>
        refine ⟨_, _, rfl, Z, F, r, d, g, r1, ?_⟩
        revert h
        simp only [tgs, M.bind]
        cases t d r with
        | exc c ds r' => exact fun h => h.elim
        | err => exact fun h => h.elim
        | ok u r' =>
          simp only
          intro h σ1 o1 g1
          refine ⟨Z, F, r', ds, g1, r2, ?_⟩
          revert h
          cases tgs ts ds r' with
          | exc c ds r' => exact fun h => h.elim
          | err => exact fun h => h.elim
          | ok u r2 => exact fun h σ2 o2 g2 => h σ2 (o1.trans o2) g2
theorem dg_tup {es : List Expr} {k : Nat} {ts : List Nat} {t : List (D → M Unit)} (hc : C.calm = true) (h : DGs C X es ts t) (hl : t.length = es.length := by rfl) (hn : (assignEach es C.env).length = es.length := by rfl) (hst : (assignEach es C.env).findIdx? (·.1) = none := by rfl) (hK : X.K = C.K := by rfl) : DG C X (.Tuple es k pos) ts (tgT t) :=
  PG.imp (pg_tup hc h hn hst) fun x σ H Q h => by
    obtain ⟨Z, F, r, d, g, rp, h⟩ := h
    cases d with
    | tuple ds =>
      cases rp with
      | tup s1 l q =>
        refine ⟨_, _, rfl, by rw [← hK]; exact SqT.at g.zh s1, ?_, Z, F, r, ds, g, q, h⟩
        rw [q.length, ← hl]
        have hlen : ∀ (t : List (D → M Unit)) (ds : List D) (r r' : List Val) (u : Unit), tgs t ds r = .ok u r' → ds.length = t.length := by
          intro t
          induction t with
          | nil =>
            intro ds r r' u e
            cases ds with
            | nil => rfl
            | cons d ds => cases e
          | cons a t ih =>
            intro ds r r' u e
            cases ds with
            | nil => cases e
            | cons d ds =>
              simp only [tgs, M.bind] at e
              cases e1 : a d r with
              | exc c ds r' => rw [e1] at e; cases e
              | err => rw [e1] at e; cases e
              | ok v r1 =>
                rw [e1] at e
                rw [List.length_cons, List.length_cons, ih ds r1 r' u e]
        have h' : (match tgs t ds r with | .ok _ r' => ∀ σ', Off ts σ σ' → G X Z F r' σ' H → Q σ' H | _ => False) := h
        cases e : tgs t ds r with
        | exc c ds r' => rw [e] at h'; exact h'.elim
        | err => rw [e] at h'; exact h'.elim
        | ok u r' => exact hlen t ds r r' u e
    | _ => exact h.elim
theorem ds_asg {tg : Expr} {ts : List Nat} {t : D → M Unit} {m : M Val} (he : DE C X W e m) (hg : DG C X tg ts t) (hs : swapsWithSole [tg] e pos.line C.env = pure false := by rfl) (hw : swappedStores [tg] e C.env = pure none := by rfl)
    (h1 : (assignEach [tg] C.env).map (·.2) = [assign tg C.env] := by rfl) : DS C X W (.Assign [tg] e pos) (sAsg t m) := PS.imp (ps_asg he hg hs hw h1) fun D σ H h => by
  obtain ⟨Z, F, r, g, h⟩ := h
  refine frz_run g ((bindS_run h).imp fun d r' Z' H' ex g' h' x rp => ⟨Z', F, r', d, g', rp, ?_⟩)
  revert h'
  cases t d r' with
  | exc c ds r' => exact fun h => h.elim
  | err => exact fun h => h.elim
  | ok u r2 => exact fun h σ' o g2 => h σ' Z' H' (Ext.refl _ _) g2
/-! loops -/
theorem PI.imp {tg iter : Expr} {t t' : TI} (h : PI C tg iter t) (i : ∀ σ H R, t' σ H R → t σ H R) : PI C tg iter t' := ⟨fun pins s σ H R I q => h.run pins s σ H R I (i σ H R q)⟩
theorem pi_seq {tg l : Expr} {tl : TE} (hl : PE C l tl) : PI C tg l (fun σ H R => tl σ H fun x H1 => ∃ a, x = .ref a ∧ (((∃ xs, SqL C.K H1 a xs) ∧ R (Itl C.K a) H1) ∨ ((∃ xs, SqT C.K H1 a xs) ∧ R (Itt C.K a) H1))) := by
  refine ⟨fun pins s σ H R I h => ?_⟩
  refine thn (hl.run pins s σ H _ I h) fun v s1 ⟨x, H1, I1, r1, q1⟩ => ?_
  obtain ⟨a, e, q⟩ := q1
  subst e
  cases r1
  rcases q with ⟨⟨xs, hq⟩, q⟩ | ⟨⟨xs, hq⟩, q⟩
  · obtain ⟨its, rv, p, hz⟩ := I1.list hq
    refine wpAny_pyIter_list p.isList ?_
    refine ⟨s1.heap.objs.size, [s1.heap.objs.size], _, _, H1, rfl, I1.kept (t' := s1.toks) fun b o e => Heap.get?_push_of_some _ e, turn_list a _, ⟨_, Heap.get?_push_size _ rfl, rfl, rfl⟩, fun b hb => ?_, q⟩
    have e : b = s1.heap.objs.size := by simpa using hb
    subst e
    exact I1.fpOk (Nat.le_refl _) (I1.hok.fresh (Nat.le_refl _))
  · obtain ⟨its, rv, p, hz⟩ := I1.tuple hq
    refine wpAny_pyIter_tuple (show s1.heap.IsTuple a its.toArray from p) ?_
    refine ⟨s1.heap.objs.size, [s1.heap.objs.size], _, _, H1, rfl, I1.kept (t' := s1.toks) fun b o e => Heap.get?_push_of_some _ e, turn_tuple a _, ⟨_, Heap.get?_push_size _ rfl, rfl, rfl⟩, fun b hb => ?_, q⟩
    have e : b = s1.heap.objs.size := by simpa using hb
    subst e
    exact I1.fpOk (Nat.le_refl _) (I1.hok.fresh (Nat.le_refl _))
theorem iter_list {K : PySem.W.Frag} {a : Addr} {vs : List V} {ds : List D} (hK : X.K = K) (h : LiL X.K Z a vs) (q : Reps X.K Z vs ds) : IterOk X Z (Itl K a) ds := by
  subst hK
  intro Z1 H1 s1 s2 i
  have hs : SqL X.K H1 a vs := LiL.sq (LiL.same (s1.trans s2) h)
  refine ⟨fun hi => ?_, fun hi => ⟨vs, hs, by rw [q.length]; exact hi⟩, fun d hd x H2 y => ?_⟩
  · obtain ⟨v, e, _⟩ := q.get (List.getElem?_eq_getElem hi)
    exact ⟨vs, v, hs, e⟩
  · obtain ⟨rfl, y⟩ := y
    obtain ⟨v, e, rp⟩ := q.get hd
    have e2 := y vs hs
    rw [e] at e2
    cases e2
    exact ⟨Same.refl _, Z1, Grown.refl _ _, s2, rp.up s1⟩
theorem iter_tup {K : PySem.W.Frag} {a : Addr} {vs : List V} {ds : List D} (hK : X.K = K) (h : SqT X.K Z a vs) (q : Reps X.K Z vs ds) : IterOk X Z (Itt K a) ds := by
  subst hK
  intro Z1 H1 s1 s2 i
  have hs : SqT X.K H1 a vs := SqT.same (s1.trans s2) h
  refine ⟨fun hi => ?_, fun hi => ⟨vs, hs, by rw [q.length]; exact hi⟩, fun d hd x H2 y => ?_⟩
  · obtain ⟨v, e, _⟩ := q.get (List.getElem?_eq_getElem hi)
    exact ⟨vs, v, hs, e⟩
  · obtain ⟨rfl, y⟩ := y
    obtain ⟨v, e, rp⟩ := q.get hd
    have e2 := y vs hs
    rw [e] at e2
    cases e2
    exact ⟨Same.refl _, Z1, Grown.refl _ _, s2, rp.up s1⟩
theorem di_seq {tg : Expr} {m : M Val} (he : DE C X W e m) (hK : X.K = C.K := by rfl) : DI C X W tg e (iSeq m) := PI.imp (pi_seq he) fun σ H R h => by
  obtain ⟨Z, F, r, g, h⟩ := h
  refine frz_run g ?_
  revert h
  unfold iSeq
  cases frz m r with
  | exc c ds r' => exact fun h => h
  | err => exact fun h => h
  | ok d r' =>
    cases d with
    | list ds =>
      intro h Z' H' ex g' x rp
      cases rp with
      | lst r1 l q => exact ⟨_, rfl, .inl ⟨⟨_, by rw [← hK]; exact LiL.sq (LiL.same g'.zh r1)⟩, h Z' H' ex g' _ (iter_list hK r1 q)⟩⟩
    | tuple ds =>
      intro h Z' H' ex g' x rp
      cases rp with
      | tup r1 l q => exact ⟨_, rfl, .inr ⟨⟨_, by rw [← hK]; exact SqT.at g'.zh r1⟩, h Z' H' ex g' _ (iter_tup hK (.inl (.inl r1)) q)⟩⟩
    | _ => exact fun h => h.elim
theorem iter_range {lo : Int} {hi : Int} : IterOk X Z (Itr lo (hi - lo).toNat) (rangeD lo hi) := by
  intro Z1 H1 s1 s2 i
  have ln : (rangeD lo hi).length = (hi - lo).toNat := by unfold rangeD; rw [List.length_map, List.length_range]
  refine ⟨fun hi' => by rw [ln] at hi'; exact hi', fun hi' => by rw [ln] at hi'; exact hi', fun d hd x H2 y => ?_⟩
  obtain ⟨rfl, rfl⟩ := y
  unfold rangeD at hd
  rw [List.getElem?_map] at hd
  obtain ⟨j, e1, rfl⟩ := Option.map_eq_some_iff.mp hd
  obtain ⟨e2, e3⟩ := List.getElem?_eq_some_iff.mp e1
  rw [List.getElem_range] at e3
  subst e3
  exact ⟨Same.refl _, Z1, Grown.refl _ _, s2, .int _⟩
theorem di_r1 {tg a : Expr} {o : Opd} {p : Pos} (hg : Gl C "range") (hm : C.mg "range" = none) (ha : DO C X W a o) (hs : starEach [a] C.env = [(false, eval a C.env)] := by rfl) : DI C X W tg (.Call (.Name "range" p) [a] [] pos) (iR1 o) :=
  PI.imp (pi_range1 hg hm (pa_cons ha pa_nil hs) hs) fun σ H R h => by
    obtain ⟨Z, F, r, g, h⟩ := h
    refine opd1_run g ?_
    revert h
    unfold iR1
    cases ev1 o r with
    | exc c ds r' => exact fun h => h
    | err => exact fun h => h
    | ok d r' =>
      cases d with
      | int j =>
        simp only
        split
        · rename_i hj
          intro h Z' H' ex g' x rx
          cases rx
          have := h Z' H' ex g' _ (iter_range (lo := 0) (hi := j))
          rw [Int.sub_zero] at this
          exact ⟨j, rfl, (smI_of hj).1, (smI_of hj).2, this⟩
        · exact fun h => h.elim
      | _ => exact fun h => h.elim
theorem di_r2 {tg a b : Expr} {o o2 : Opd} {p : Pos} (hg : Gl C "range") (hm : C.mg "range" = none) (ha : DO C X W a o) (hb : DO C X W b o2) (hs : starEach [a, b] C.env = [(false, eval a C.env), (false, eval b C.env)] := by rfl) (hs2 : starEach [b] C.env = [(false, eval b C.env)] := by rfl) (hs3 : starEach [a, b] C.env = (false, eval a C.env) :: starEach [b] C.env := by rfl) : DI C X W tg (.Call (.Name "range" p) [a, b] [] pos) (iR2 o o2) :=
  PI.imp (pi_range2 hg hm (pa_cons ha (pa_cons hb pa_nil hs2) hs3) hs hs2) fun σ H R h => by
    obtain ⟨Z, F, r, g, h⟩ := h
    refine opd2_run (R := fun x y H2 => ∃ i j : Int, [x, y] = [.int i, .int j] ∧ (-(2 ^ 62) ≤ i ∧ i < 2 ^ 62 ∧ -(2 ^ 62) ≤ j ∧ j < 2 ^ 62) ∧ R (Itr i (j - i).toNat) H2) g ?_
    revert h
    unfold iR2
    cases ev2 o o2 r with
    | exc c ds r' => exact fun h => h
    | err => exact fun h => h
    | ok d r' =>
      obtain ⟨d1, d2⟩ := d
      cases d1 with
      | int i =>
        cases d2 with
        | int j =>
          simp only
          split
          · rename_i hj
            intro h Z' H' ex g' x y rx ry
            cases rx
            cases ry
            rw [Bool.and_eq_true] at hj
            exact ⟨i, j, rfl, ⟨(smI_of hj.1).1, (smI_of hj.1).2, (smI_of hj.2).1, (smI_of hj.2).2⟩, h Z' H' ex g' _ iter_range⟩
          · exact fun h => h.elim
        | _ => exact fun h => h.elim
      | _ => exact fun h => h.elim
theorem forL_cons {t : D → M Unit} {body : M Fl} {d : D} {ds : List D} {r : List Val} : forL t body (d :: ds) r = (match t d r with
    | .ok _ r1 => match body r1 with
      | .ok .nx r2 => forL t body ds r2
      | .ok .ct r2 => forL t body ds r2
      | .ok .bk r2 => .ok .nx r2
      | .ok (.rt v) r2 => .ok (.rt v) r2
      | .exc c es r2 => .exc c es r2
      | .err => .err
    | _ => .err) := rfl
theorem ds_for {tg iter : Expr} {body : List Stmt} {ts : List Nat} {t : D → M Unit} {im : M (List D)} {mb : M Fl} (hp : PassesOwn (model C.prog C.w) C.A C.env C.xe) (hc : C.calm = true) (hi : DI C X W tg iter im) (hg : DG C X tg ts t) (hb : DSs C X W body mb)
    (hs : ∀ x, foldedSetIterable iter C.env x = pure x := by intro _; rfl) : DS C X W (.For tg iter body [] pos) (sFor t im mb) := PS.imp (ps_for hp hc hi hg hb hs) fun D σ H h => by
  obtain ⟨Z, F, r, g, h⟩ := h
  refine ⟨Z, F, r, g, (bindS_run h).imp fun items r0 Z0 H0 ex0 g0 h0 J it => ?_⟩
  refine ⟨fun i m σ H => m = items.length - i ∧ ∃ Z1 r1, Ext Z0 Z1 F ∧ G X Z1 F r1 σ H ∧ AfterS X W (forL t mb (items.drop i) r1) Z1 F D, ⟨items.length, rfl, Z0, r0, Ext.refl _ _, g0, h0⟩, ?_⟩
  rintro i m σ1 H1 ⟨rfl, Z1, r1, ex1, g1, h1⟩
  have it1 := it Z1 H1 ex1.1 g1.zh i
  by_cases hlt : i < items.length
  · have ed : items.drop i = items[i] :: items.drop (i + 1) := List.drop_eq_getElem_cons hlt
    rw [ed] at h1
    refine .inr ⟨it1.1 hlt, fun σ' H' => ∃ Z2 r2, Ext Z0 Z2 F ∧ G X Z2 F r2 σ' H' ∧ AfterS X W (forL t mb (items.drop (i + 1)) r2) Z2 F D, fun σ' H' h' => ⟨items.length - (i + 1), by omega, rfl, h'⟩, fun x H2 y => ?_⟩
    obtain ⟨sm, Z2, gr, z2, rp⟩ := it1.2.2 _ (List.getElem?_eq_getElem hlt) x H2 y
    have g2 := g1.grow sm gr z2
    have ex2 : Ext Z0 Z2 F := ex1.trans (gr.ext g1.fh)
    refine ⟨Z2, F, r1, _, g2, rp, ?_⟩
    have h2 := h1.ext (gr.ext g1.fh)
    rw [forL_cons] at h2
    revert h2
    cases t items[i] r1 with
    | exc c ds r' => exact fun h => h.elim
    | err => exact fun h => h.elim
    | ok u r2 =>
      simp only
      intro h2 σ2 o2 g3
      refine ⟨Z2, F, r2, g3, ?_⟩
      revert h2
      cases mb r2 with
      | exc c ds r' => exact fun h => h
      | err => exact fun h => h
      | ok f r3 =>
        cases f with
        | nx => exact fun h σ' Z' H' ex' g' => ⟨Z', r3, ex2.trans ex', g', h.ext ex'⟩
        | ct => exact fun h σ' Z' H' ex' g' => ⟨Z', r3, ex2.trans ex', g', h.ext ex'⟩
        | bk => exact fun h σ' Z' H' ex' g' => h σ' Z' H' ex' g'
        | rt v => exact fun h σ' Z' H' ex' g' => h σ' Z' H' ex' g'
  · refine .inl ⟨it1.2.1 (by omega), ?_⟩
    rw [List.drop_eq_nil_of_le (by omega)] at h1
    exact h1 σ1 Z1 H1 (Ext.refl _ _) g1
theorem ds_while {c : Expr} {body : List Stmt} {m : M Bool} {mb : M Fl} (n : Nat) (hp : PassesOwn (model C.prog C.w) C.A C.env C.xe) (hc : DT C X W c m) (hb : DSs C X W body mb) : DS C X W (.While c body [] pos) (whileL m mb n) := PS.imp (ps_while hp hc hb) fun D σ H h => by
  obtain ⟨Z, F, r, g, h⟩ := h
  refine ⟨fun n σ H => ∃ Z1 r1, Ext Z Z1 F ∧ G X Z1 F r1 σ H ∧ AfterS X W (whileL m mb n r1) Z1 F D, ⟨n, Z, r, Ext.refl _ _, g, h⟩, ?_⟩
  rintro n σ1 H1 ⟨Z1, r1, ex1, g1, h1⟩
  cases n with
  | zero => exact h1.elim
  | succ n =>
    refine ⟨Z1, F, r1, g1, (bindS_run (m := m) (k := fun k => if k = true then fun r1 => match mb r1 with
      | .ok .nx r2 => whileL m mb n r2
      | .ok .ct r2 => whileL m mb n r2
      | .ok .bk r2 => .ok .nx r2
      | .ok (.rt v) r2 => .ok (.rt v) r2
      | .exc c es r2 => .exc c es r2
      | .err => .err
      else M.ret .nx) h1).imp fun k r2 Z2 H2 ex2 g2 h2 => ?_⟩
    cases k with
    | false => exact retS_run g2 h2
    | true =>
      simp only [if_true] at h2 ⊢
      refine ⟨fun σ' H' => ∃ Z3 r3, Ext Z Z3 F ∧ G X Z3 F r3 σ' H' ∧ AfterS X W (whileL m mb n r3) Z3 F D, fun σ' H' h' => ⟨n, Nat.lt_succ_self n, h'⟩, Z2, F, r2, g2, ?_⟩
      revert h2
      cases mb r2 with
      | exc c ds r' => exact fun h => h
      | err => exact fun h => h
      | ok f r3 =>
        cases f with
        | nx => exact fun h σ' Z' H' ex' g' => ⟨Z', r3, (ex1.trans ex2).trans ex', g', h.ext ex'⟩
        | ct => exact fun h σ' Z' H' ex' g' => ⟨Z', r3, (ex1.trans ex2).trans ex', g', h.ext ex'⟩
        | bk => exact fun h σ' Z' H' ex' g' => h σ' Z' H' ex' g'
        | rt v => exact fun h σ' Z' H' ex' g' => h σ' Z' H' ex' g'
end
end MS

/-! part f: comprehensions -/
namespace MS
open PySem PySem.Spec PyProof.Rows L2

def wipeR (r : List Val) : List Nat → List Val
  | [] => r
  | v :: vs => (wipeR r vs).set v .un
def restR (r r0 : List Val) : List Nat → List Val
  | [] => r
  | v :: vs => restR (r.set v (r0.getD v .un)) r0 vs
def lcL (t : D → M Unit) (test : M Bool) (elt : M Val) (vs : List Nat) : List D → M (List D)
  | [] => M.ret []
  | d :: ds => fun r => match t d r with
    | .ok _ r1 => match test r1 with
      | .ok true r2 => match frz elt r2 with
        | .ok e r3 => match lcL t test elt vs ds (wipeR r3 vs) with
          | .ok es r4 => .ok (e :: es) r4
          | _ => .err
        | _ => .err
      | .ok false r2 => lcL t test elt vs ds (wipeR r2 vs)
      | _ => .err
    | _ => .err
def hid (r : List Val) (vs : List Nat) : Bool := vs.all fun i => !(r.getD i .un).own
def eLc (vs : List Nat) (im : M (List D)) (t : D → M Unit) (test : M Bool) (elt : M Val) : M Val := M.bind im fun items => fun r => if hid r vs = true ∧ items.length ≤ LINE then match lcL t test elt vs items (wipeR r vs) with
    | .ok es r2 => .ok (.ol es) (restR r2 r vs)
    | _ => .err
  else .err
def tTrue : M Bool := M.ret true
def WN : WX := fun _ _ _ _ => False

section
variable {C : Cx} {X : Fx} {W : WX} {Z F H : Hp} {r : List Val} {σ : L2.St}
theorem G.forget (g : G X Z F r σ H) {i : Nat} (hB : i ∉ X.B) : G X Z F (r.set i .un) (σ.set i none) H := by
  have at' : ∀ {j : Nat} {u : Val}, (r.set i .un)[j]? = some u → u = .un ∨ (r[j]? = some u ∧ (σ.set i none)[j]? = σ[j]?) := fun {j u} h => by
    rcases set_get h with ⟨_, _, q⟩ | ⟨hj, h⟩
    · exact .inl q
    · exact .inr ⟨h, List.getElem?_set_ne hj⟩
  refine ⟨g.zh, g.fh, by rw [List.length_set, List.length_set]; exact g.len, fun j u h => ?_, fun j k u w p h1 h2 e1 e2 => ?_, fun j hj => ?_, g.hh, g.nz, g.nf, g.tb⟩
  · rcases at' h with rfl | ⟨q, e⟩
    · exact True.intro
    · rw [e]; exact g.sl j u q
  · rcases at' h1 with z | ⟨q1, a1⟩
    · rw [z, foot_un] at e1; cases e1
    · rcases at' h2 with z | ⟨q2, a2⟩
      · rw [z, foot_un] at e2; cases e2
      · rw [a1] at e1; rw [a2] at e2
        exact g.di j k u w p q1 q2 e1 e2
  · rw [List.getElem?_set_ne (fun q => hB (by rw [q]; exact hj))]
    exact g.kp j hj
theorem G.back {w : Val} {i : Nat} (g : G X Z F r (σ.set i none) H) (hB : i ∉ X.B) (hs : SlotR X.K X.ex.dk Z F H σ[i]? w) (ho : w.own = false) : G X Z F (r.set i w) σ H := by
  have gl : r.length = σ.length := by have := g.len; rw [List.length_set] at this; exact this
  have at' : ∀ {j : Nat} {u : Val}, (r.set i w)[j]? = some u → (i = j ∧ u = w) ∨ (r[j]? = some u ∧ (σ.set i none)[j]? = σ[j]?) := fun {j u} h => by
    rcases set_get h with ⟨q1, _, q⟩ | ⟨hj, h⟩
    · exact .inl ⟨q1, q⟩
    · exact .inr ⟨h, List.getElem?_set_ne hj⟩
  refine ⟨g.zh, g.fh, by rw [List.length_set]; exact gl, fun j u h => ?_, fun j k u u2 p h1 h2 e1 e2 => ?_, fun j hj => ?_, g.hh, g.nz, g.nf, g.tb⟩
  · rcases at' h with ⟨rfl, rfl⟩ | ⟨q, e⟩
    · exact hs
    · have := g.sl j u q
      rw [e] at this
      exact this
  · rcases at' h1 with ⟨_, z⟩ | ⟨q1, a1⟩
    · rw [z, foot_no ho] at e1; cases e1
    · rcases at' h2 with ⟨_, z⟩ | ⟨q2, a2⟩
      · rw [z, foot_no ho] at e2; cases e2
      · rw [← a1] at e1; rw [← a2] at e2
        exact g.di j k u u2 p q1 q2 e1 e2
  · have := g.kp j hj
    rw [List.getElem?_set_ne (fun q => hB (by rw [q]; exact hj))] at this
    exact this
theorem G.wipe {vs : List Nat} (g : G X Z F r σ H) (hB : ∀ v ∈ vs, v ∉ X.B) : G X Z F (wipeR r vs) (L2.wipe σ vs) H := by
  induction vs with
  | nil => exact g
  | cons v vs ih => exact (ih fun u hu => hB u (List.mem_cons_of_mem _ hu)).forget (hB v List.mem_cons_self)
theorem G.rest {Z0 F0 H0 : Hp} {r0 : List Val} (vs : List Nat) : ∀ {r : List Val}, G X Z F r (L2.wipe σ vs) H → G X Z0 F0 r0 σ H0 → Same Z0 Z → (∀ v ∈ vs, v ∉ X.B) → vs.Nodup → hid r0 vs = true → G X Z F (restR r r0 vs) σ H := by
  induction vs with
  | nil => intro r g g0 s hB hn hh; exact g
  | cons v vs ih =>
    intro r g g0 s hB hn hh
    obtain ⟨hv, hn'⟩ := List.nodup_cons.mp hn
    unfold hid at hh
    rw [List.all_cons, Bool.and_eq_true] at hh
    refine ih (g.back (w := r0.getD v .un) (hB v List.mem_cons_self) ?_ (by simpa using hh.1)) g0 s (fun u hu => hB u (List.mem_cons_of_mem _ hu)) hn' hh.2
    rw [wipe_out hv]
    rw [List.getD_eq_getElem?_getD]
    cases e : r0[v]? with
    | none => exact True.intro
    | some w =>
      have q := g0.sl v w e
      cases w with
      | un => exact True.intro
      | fz d => obtain ⟨x, e1, rp⟩ := q; exact ⟨x, e1, rp.up s⟩
      | ol xs => rw [List.getD_eq_getElem?_getD, e] at hh; exact absurd hh.1 (by simp [Val.own])
      | od xs => rw [List.getD_eq_getElem?_getD, e] at hh; exact absurd hh.1 (by simp [Val.own])
      | ow t =>
        cases t with
        | ob fs xs => rw [List.getD_eq_getElem?_getD, e] at hh; exact absurd hh.1 (by simp [Val.own])
        | kt ds =>
          obtain ⟨a, e1, ⟨xs, o, h1, d, l, rs⟩, _⟩ := q
          exact ⟨a, e1, ⟨xs, o, s _ _ h1, d, l, rs.up s⟩, fun b hb => nomatch hb⟩
        | nl xss => rw [List.getD_eq_getElem?_getD, e] at hh; exact absurd hh.1 (by simp [Val.own])
theorem off_wipe {ts vs : List Nat} {σ' : L2.St} (h : Off ts σ σ') (hs : ∀ i ∈ ts, i ∈ vs) : L2.wipe σ' vs = L2.wipe σ vs := by
  apply List.ext_getElem?
  intro i
  by_cases hi : i ∈ vs
  · have : ∀ (s : L2.St), (L2.wipe s vs)[i]? = if i < s.length then some none else none := by
      intro s
      clear hs h
      induction vs with
      | nil => cases hi
      | cons v vs ih =>
        unfold L2.wipe
        by_cases hv : v = i
        · subst hv
          by_cases hl : v < s.length
          · rw [List.getElem?_set_self (by rw [wipe_length]; exact hl), if_pos hl]
          · rw [List.getElem?_eq_none (by rw [List.length_set, wipe_length]; omega), if_neg hl]
        · rw [List.getElem?_set_ne hv]
          exact ih ((List.mem_cons.mp hi).resolve_left fun q => hv q.symm)
    rw [this, this, h.1]
  · rw [wipe_out hi, wipe_out hi]
    exact h.2 i fun q => hi (hs i q)
theorem lc_run {vs ts : List Nat} {im : M (List D)} {t : D → M Unit} {test : M Bool} {elt : M Val} {Q : VK} (hts : ∀ i ∈ ts, i ∈ vs) (hB : ∀ v ∈ vs, v ∉ X.B) (hn : vs.Nodup) (h : rdE X W (eLc vs im t test elt) σ H Q) : tLc (rdI X W im) (rdG X ts t) (rdT X WN test) (rdE X WN elt) vs σ H Q := by
  obtain ⟨Z, F, r, g, h⟩ := h
  refine ⟨Z, F, r, g, (bind_run h).imp fun items r0 Z0 H0 ex0 g0 h0 J it => ?_⟩
  intro D0 hD
  revert h0
  by_cases hh : hid r0 vs = true ∧ items.length ≤ LINE
  · rw [if_pos hh]
    cases e0 : lcL t test elt vs items (wipeR r0 vs) with
    | exc c ds r' => exact fun h => h.elim
    | err => exact fun h => h.elim
    | ok all rEnd =>
      intro h0
      have hF : F D0 = none := none_of g0.fh hD
      have gw := g0.wipe hB
      have ownD : ∀ {Z1 F1 H1 : Hp} {r1 : List Val} {σ1 : L2.St}, G X Z1 F1 r1 σ1 H1 → (F1 D0 ≠ none) → Out H1 r1 σ1 D0 := fun {Z1 F1 H1 r1 σ1} g1 hne => g1.out (.inr (.inr hne))
      refine ⟨fun i m H => m = items.length - i ∧ i ≤ items.length ∧ ∃ (Z1 : Hp) (r1 : List Val) (acc : List D) (accV : List V) (es : List D), Ext Z0 Z1 F ∧ G X Z1 F r1 (L2.wipe σ vs) H ∧ H D0 = some (.lst accV) ∧ Reps X.K Z1 accV acc ∧ Z1 D0 = none ∧
        Out H r1 (L2.wipe σ vs) D0 ∧ lcL t test elt vs (items.drop i) r1 = .ok es rEnd ∧ acc ++ es = all ∧ acc.length ≤ i,
        ⟨items.length, rfl, Nat.zero_le _, Z0, wipeR r0 vs, [], [], all, Ext.refl _ _, ?_, upd_same, .nil, none_of g0.zh hD, (gw.out (.inl hD)).grow gw (Same.upd hD) (Grown.refl _ _), e0, rfl, Nat.zero_le _⟩, ?_⟩
      · exact gw.grow (Same.upd hD) (Grown.refl _ _) (same_up gw.zh hD)
      rintro i m H1 ⟨rfl, hle, Z1, r1, acc, accV, es, ex1, g1, hd, ra, zd, dj, er, ea, el⟩
      have it1 := it Z1 H1 ex1.1 g1.zh i
      by_cases hlt : i < items.length
      · have ed : items.drop i = items[i] :: items.drop (i + 1) := List.drop_eq_getElem_cons hlt
        rw [ed] at er
        refine .inr ⟨it1.1 hlt, fun H' => ∃ (Z1 : Hp) (r1 : List Val) (acc : List D) (accV : List V) (es : List D), Ext Z0 Z1 F ∧ G X Z1 F r1 (L2.wipe σ vs) H' ∧ H' D0 = some (.lst accV) ∧ Reps X.K Z1 accV acc ∧ Z1 D0 = none ∧
          Out H' r1 (L2.wipe σ vs) D0 ∧ lcL t test elt vs (items.drop (i + 1)) r1 = .ok es rEnd ∧ acc ++ es = all ∧ acc.length ≤ i + 1,
          fun H' h' => ⟨items.length - (i + 1), by omega, rfl, hlt, h'⟩, fun x H2 y => ?_⟩
        obtain ⟨sm, Z2, gr, z2, rp⟩ := it1.2.2 _ (List.getElem?_eq_getElem hlt) x H2 y
        have g2 := g1.grow sm gr z2
        have ex2 : Ext Z0 Z2 F := ex1.trans (gr.ext g1.fh)
        have hd2 := sm _ _ hd
        have zd2 : Z2 D0 = none := gr.2 D0 _ hd trivial zd
        -- the new list is framed during the turn
        have gF : G X Z2 (upd F D0 (.lst accV)) r1 (L2.wipe σ vs) H2 := g2.frame hd2 hF (dj.grow g1 sm gr)
        have FD : (upd F D0 (.lst accV)) D0 ≠ none := by rw [upd_same]; exact fun z => nomatch z
        -- back: without the frame
        have unF : ∀ {Z3 H3 : Hp} {r3 : List Val} {σ3 : L2.St}, G X Z3 (upd F D0 (.lst accV)) r3 σ3 H3 → G X Z3 F r3 σ3 H3 := fun {Z3 H3 r3 σ3} g3 => g3.less (Same.upd hF) g0.hh
        have unE : ∀ {Z3 : Hp}, Ext Z2 Z3 (upd F D0 (.lst accV)) → Ext Z2 Z3 F := fun {Z3} x => ⟨x.1, fun b o e n => x.2 b o (by rw [upd_ne (fun hb => by rw [hb, hF] at e; cases e)]; exact e) n⟩
        have zD : ∀ {Z3 : Hp}, Ext Z2 Z3 (upd F D0 (.lst accV)) → Z3 D0 = none := fun {Z3} x => x.2 D0 _ upd_same trivial zd2
        refine ⟨Z2, _, r1, _, gF, rp, ?_⟩
        simp only [lcL] at er
        revert er
        cases t items[i] r1 with
        | exc c ds r' => exact fun h => nomatch h
        | err => exact fun h => nomatch h
        | ok u r2 =>
          simp only
          intro er σ2 o2 g3
          have ew : L2.wipe σ2 vs = L2.wipe σ vs := by
            rw [off_wipe o2 hts]
            apply List.ext_getElem?
            intro j
            by_cases hj : j ∈ vs
            · have : ∀ (s : L2.St) (ws : List Nat), (∀ q ∈ vs, q ∈ ws) → (L2.wipe s ws)[j]? = if j < s.length then some none else none := by
                intro s ws hw
                have hj' := hw j hj
                clear hw
                induction ws with
                | nil => cases hj'
                | cons v ws ih =>
                  unfold L2.wipe
                  by_cases hv : v = j
                  · subst hv
                    by_cases hl : v < s.length
                    · rw [List.getElem?_set_self (by rw [wipe_length]; exact hl), if_pos hl]
                    · rw [List.getElem?_eq_none (by rw [List.length_set, wipe_length]; omega), if_neg hl]
                  · rw [List.getElem?_set_ne hv]
                    exact ih ((List.mem_cons.mp hj').resolve_left fun q => hv q.symm)
              rw [this _ vs fun q hq => hq, this _ vs fun q hq => hq, wipe_length]
            · rw [wipe_out hj]
          refine ⟨ew, Z2, _, r2, g3, ?_⟩
          revert er
          cases test r2 with
          | exc c ds r' => exact fun h => nomatch h
          | err => exact fun h => nomatch h
          | ok b r3 =>
            cases b with
            | false =>
              simp only
              intro er Z3 H3 ex3 g4
              rw [if_neg Bool.false_ne_true]
              have g5 := (unF g4).wipe hB
              rw [ew] at g5
              exact ⟨Z3, wipeR r3 vs, acc, accV, es, ex2.trans (unE ex3), g5, g4.fh D0 _ upd_same, ra.up (gr.1.trans ex3.1), zD ex3, by
                have g6 := g4.wipe hB
                rw [ew] at g6
                exact ownD g6 FD, er, ea, by omega⟩
            | true =>
              simp only
              intro er Z3 H3 ex3 g4
              rw [if_pos rfl]
              refine frz_run g4 ?_
              revert er
              cases frz elt r3 with
              | exc c ds r' => exact fun h => nomatch h
              | err => exact fun h => nomatch h
              | ok d r4 =>
                simp only
                cases e9 : lcL t test elt vs (items.drop (i + 1)) (wipeR r4 vs) with
                | exc c ds r' => exact fun h => nomatch h
                | err => exact fun h => nomatch h
                | ok es' r5 =>
                  intro er Z4 H4 ex4 g5 yv ry
                  simp only [Res.ok.injEq] at er
                  obtain ⟨e1, e2⟩ := er
                  subst e1 e2
                  have hd4 : H4 D0 = some (.lst accV) := g5.fh D0 _ upd_same
                  have exx := ex3.trans ex4
                  have lac : accV.length < sizeLine := by
                    have h1 := ra.length
                    have h2 : items.length ≤ sizeLine := by rw [line_eq]; exact hh.2
                    omega
                  have g6 := g5.wipe hB
                  rw [ew] at g6
                  have dj6 := ownD g6 FD
                  have g7 := unF g6
                  have z4 := zD exx
                  have gc := g7.chg (o := .lst (accV ++ [yv])) z4 hF dj6 hd4 trivial
                  exact ⟨accV, hd4, lac, Z4, wipeR r4 vs, acc ++ [d], accV ++ [yv], es', ex2.trans (unE exx), gc.1, upd_same, (ra.up (gr.1.trans exx.1)).append (.one ry), z4, gc.2 _ dj6, e9, by rw [List.append_assoc]; exact ea, by rw [List.length_append]; exact Nat.succ_le_succ el⟩
      · refine .inl ⟨it1.2.1 (by omega), ?_⟩
        rw [List.drop_eq_nil_of_le (by omega)] at er
        simp only [lcL, M.ret, Res.ok.injEq] at er
        obtain ⟨rfl, rfl⟩ := er
        rw [List.append_nil] at ea
        subst ea
        have gE := G.rest vs g1 g0 ex1.1 hB hn hh.1
        refine h0 Z1 H1 ex1 gE (.ref D0) ⟨D0, accV, rfl, hd, ?_, ra, zd, hF, ?_⟩
        · have h1 := ra.length
          have h2 : items.length ≤ sizeLine := by rw [line_eq]; exact hh.2
          have h3 : acc.length ≤ items.length := by omega
          omega
        · have gE' : G X Z1 (upd F D0 (.lst accV)) (restR r1 r0 vs) σ H1 := G.rest vs (g1.frame hd hF dj) g0 ex1.1 hB hn hh.1
          exact ownD gE' (by rw [upd_same]; exact fun z => nomatch z)
  · rw [if_neg hh]
    exact fun h => h.elim
theorem dts_nil : PTs C [] (rdT X W tTrue) := PTs.mk fun pins s σ H Q I h => pts_nil.run pins s σ H Q I (retT_run h)
theorem dts_one {c : Expr} {m : M Bool} (h : DT C X W c m) : PTs C [c] (rdT X W m) := pts_one h
theorem de_lc {elt tg iter : Expr} {ifs : List Expr} {scope : Scope} {own : List (Str × Nat)} {pos : Pos} {im : M (List D)} {ts : List Nat} {t : D → M Unit} {test : M Bool} {me : M Val} (hc : C.calm = true) (hN : C.N.Nodup) (hi : DI C X W tg iter im) (ok : BlkOk C.N C.env.scope scope own)
    (hg : ∀ (s : Shared) (H : Hp) (c : Addr) (cl : List (Str × Addr)) (fp : List Addr), DG (C.blk s H scope (compEnvC scope cl c C.env) fp) X tg ts t) (ht : ∀ (s : Shared) (H : Hp) (c : Addr) (cl : List (Str × Addr)) (fp : List Addr), PTs (C.blk s H scope (compEnvC scope cl c C.env) fp) ifs (rdT X WN test))
    (he : ∀ (s : Shared) (H : Hp) (c : Addr) (cl : List (Str × Addr)) (fp : List Addr), DE (C.blk s H scope (compEnvC scope cl c C.env) fp) X WN elt me) (hts : ∀ i ∈ ts, i ∈ own.map (·.2) := by decide) (hB : ∀ v ∈ own.map (·.2), v ∉ X.B := by exact of_decide_eq_true rfl) (hn : (own.map (·.2)).Nodup := by decide) (hs : ∀ x, foldedSetIterable iter C.env x = pure x := by intro _; rfl) :
    DE C X W (.ListComp elt [⟨tg, iter, ifs, 0⟩] scope pos) (eLc (own.map (·.2)) im t test me) := PE.imp (pe_lc hc hN hi ok hg ht he hs) fun _ _ _ h => lc_run hts hB hn h
theorem ds_setLc {i : Nat} {y : Str} {py : Pos} {elt tg iter : Expr} {ifs : List Expr} {scope : Scope} {own : List (Str × Nat)} {pos spos : Pos} {im : M (List D)} {ts : List Nat} {t : D → M Unit} {test : M Bool} {me : M Val} (hc : C.calm = true) (hN : C.N.Nodup) (hy : C.N[i]? = some y) (hyl : C.env.scope.names.lookup y = some .local)
    (hsw : swapsWith (.ListComp elt [⟨tg, iter, ifs, 0⟩] scope pos) (some (.Name y py)) spos.line C.env = pure true) (hi : DI C X W tg iter im) (ok : BlkOk C.N C.env.scope scope own)
    (hg : ∀ (s : Shared) (H : Hp) (c : Addr) (cl : List (Str × Addr)) (fp : List Addr), DG (C.blk s H scope (compEnvC scope cl c C.env) fp) X tg ts t) (ht : ∀ (s : Shared) (H : Hp) (c : Addr) (cl : List (Str × Addr)) (fp : List Addr), PTs (C.blk s H scope (compEnvC scope cl c C.env) fp) ifs (rdT X WN test))
    (he : ∀ (s : Shared) (H : Hp) (c : Addr) (cl : List (Str × Addr)) (fp : List Addr), DE (C.blk s H scope (compEnvC scope cl c C.env) fp) X WN elt me) (hBi : i ∉ X.B := by exact of_decide_eq_true rfl) (hts : ∀ i ∈ ts, i ∈ own.map (·.2) := by decide) (hB : ∀ v ∈ own.map (·.2), v ∉ X.B := by exact of_decide_eq_true rfl) (hn : (own.map (·.2)).Nodup := by decide) (hs : ∀ x, foldedSetIterable iter C.env x = pure x := by intro _; rfl) :
    DS C X W (.Assign [.Name y py] (.ListComp elt [⟨tg, iter, ifs, 0⟩] scope pos) spos) (sSet i (eLc (own.map (·.2)) im t test me)) := PS.imp (ps_setLc hc hN hy hyl hsw hi ok hg ht he hs) fun D σ H h => by
  obtain ⟨Z, F, r, g, h⟩ := h
  refine lc_run (W := W) hts hB hn ⟨Z, F, r, g, (bindS_run h).imp fun v r' Z' H' ex g' h' x rv => ?_⟩
  exact h' (σ.set i (some x)) Z' H' (Ext.refl _ _) (g'.store hBi rv)
end
end MS

/-! part g: defs, calls, refusals -/
namespace MS
open PySem PySem.Spec PyProof.Rows L2

/-- room, and no repr of anything is under way -/
structure Room (k : Nat) (A : Around) : Prop where
  r : L2.Room k A
  gd : A.guards = some []
section
variable {k : Nat} {A : Around}
theorem Room.hd (x : Room k A) : A.handled = none := x.r.hd
theorem Room.dp (x : Room k A) : A.depth + 3 * k + 5 < recursionLimit := x.r.dp
theorem Room.un (x : Room k A) : A.units + 16 * k + 200 < cLine := x.r.un
theorem Room.depth (x : Room k A) : A.depth < recursionLimit := x.r.depth
theorem Room.mono {j : Nat} (x : Room k A) (h : j ≤ k) : Room j A := ⟨x.r.mono h, x.gd⟩
theorem Room.deeper (x : Room (k + 1) A) (env : Env) : Room k (A.deeper env) := ⟨x.r.deeper env, x.gd⟩
end
/-- a def's promise where no repr is under way -/
structure FnG (P : Program) (w : World) (K : PySem.W.Frag) (mg : Str → Option Value) (base : Heap) (CX : CXT) (k : Nat) (f : Addr) (fd : FuncData) (ps : List Str) (sp : Sp) : Prop where
  len : ∀ vs H Q E, sp vs H Q E → vs.length = ps.length
  run : ∀ (A : Around) (outer : List Env) (s : Shared) (H : Hp) (args : Args) (us : List Value) (vs : List V) (Q : VK) (E : XK), Room k A → Env0 P w K mg base A outer s H → BindsTo s fd args (ps.zip us) → Vals vs us → sp vs H Q E →
    codeAny (model P w) A (.call (.ref f) args) (CR CX outer P w H s Q E) s
theorem fn_ofG {CX : CXT} {P : Program} {w : World} {K : PySem.W.Frag} {mg : Str → Option Value} {base : Heap} {k : Nat} {f : Addr} {name qual : Str} {params : Arguments} {body : List Stmt} {scope : Scope} {dV kV doc pm cdv ct oc : Value} {an od : Option Addr}
    {osl : Array (Option Value)} {N ps : List Str} {sp : Sp} (lk : K.lookup f = some ⟨oc, od, .func (PySem.W.fnOf name qual params body scope dV kV doc pm an cdv ct), osl⟩) (hcd : PySem.W.codeIn K cdv qual = true) (S : FnScope N ps scope)
    (len : ∀ vs H Q E, sp vs H Q E → vs.length = ps.length)
    (go : ∀ (A : Around) (outer : List Env) (s : Shared) (H : Hp) (vs : List V) (Q : VK) (E : XK), Room k (A.deeper (envOfC qual scope s.heap.objs.size f cdv)) → sp vs H Q E →
      ∃ t, PSs (cxOf CX P w K mg base N qual scope f cdv A outer s H E) body t ∧ t { nx := fun _ H' => Q .non H', rt := Q } (L2.start N vs) H) :
    FnG P w K mg base CX (k + 1) f (PySem.W.fnOf name qual params body scope dV kV doc pm an cdv ct) ps sp := by
  refine ⟨len, fun A outer s H args us vs Q E room env b rv hs => ?_⟩
  have vl := len _ _ _ _ hs
  have kin : K.In s.heap := env.mod.kin.keeps fun _ _ q => (env.bs _ _ q).1
  have nolim : s.heap.NoLimit := env.mod.nolimit.keeps fun _ _ q => (env.bs _ _ q).1
  have kinds : ∀ y ∈ ps.zip us, scope.names.lookup y.1 = some .local ∨ (scope.names.lookup y.1 = some .cell ∧ ((cellsFrom (s.heap.objs.size + 1) scope.names []).lookup y.1).isSome = true) := fun ⟨n, v⟩ hy =>
    (S.par n (List.of_mem_zip hy).1).imp id fun q => ⟨q, PySem.W.cellsFrom_some _ _ _ (.inl q)⟩
  refine codeAny_call_function room.depth (kin _ _ lk) rfl S.co S.gen rfl (PySem.W.codeRec_of kin hcd) (b _ _ _ _ ?_)
  refine wpAny_newFunctionEnv_cells S.kind kinds fun env' he s1 x => ?_
  subst he
  refine ⟨nolim.keeps x.toInCall.keep, codeAny_func ?_⟩
  obtain ⟨t, ht, hq⟩ := go A outer s H vs Q E (room.deeper _) hs
  have J : Inv (cxOf CX P w K mg base N qual scope f cdv A outer s H E) [] (L2.start N vs) H s1 := inv_start S room.hd env vl rv x
  refine wpAny_mono (ht.run [] s1 (L2.start N vs) H _ J hq) (fun fl s' z => ?_) fun e s' z => z
  cases fl with
  | ret u =>
    obtain ⟨v, σ', H', J', rv', q⟩ := z
    exact ⟨v, H', J'.os, J'.bare, J'.base, J'.hok, rv', q⟩
  | next =>
    obtain ⟨σ', H', J', q⟩ := z
    exact ⟨V.non, H', J'.os, J'.bare, J'.base, J'.hok, rfl, q⟩
  | brk =>
    obtain ⟨_, _, _, q⟩ := z
    exact q.elim
  | cont =>
    obtain ⟨_, _, _, q⟩ := z
    exact q.elim
section
variable {X : Cx} {CX : CXT} {k : Nat} {f : Addr} {fd : FuncData} {ps : List Str} {sp : Sp} {x : Str} {e : Expr} {es : List Expr} {t : TA} {E : L2.St → XK} {p pos : Pos}
theorem run_fnG {pins : List (Addr × Obj)} {σ : L2.St} {H : Hp} {s : Shared} {Q : VK} {us : List Value} {vs : List V} (F : FnG X.prog X.w X.K X.mg X.base CX k f fd ps sp) (hr : Room k X.A) (hb : Binds X.K fd ps []) (hx : PassesAt CX X σ (E σ))
    (I : Inv X pins σ H s) (r : Vals vs us) (h : sp vs H Q (E σ)) : wpAny (model X.prog X.w) X.A (call (.ref f) us) (EP X pins σ Q) X.xe s := by
  have b := hb s us I.kIn (by rw [List.append_nil, ← r.length]; exact F.len _ _ _ _ h)
  rw [List.append_nil] at b
  refine wpAny_call (codeAny_mono (F.run X.A X.stack s H ⟨us, []⟩ us vs Q (E σ) hr I.env0 b r h) fun z s' hq => ?_)
  match z, hq with
  | .error e, hq => exact hx pins H s e s' I hq
  | .ok (.ret u), hq => exact I.after hq
  | .ok .next, hq => exact False.elim hq
  | .ok .brk, hq => exact False.elim hq
  | .ok .cont, hq => exact False.elim hq
theorem pe_callG (F : FnG X.prog X.w X.K X.mg X.base CX k f fd ps sp) (hr : Room k X.A) (hg : Gl X x) (hm : X.mg x = some (.ref f)) (hk : PySem.W.keepIn X.K (.ref f) = true) (hb : Binds X.K fd ps []) (hx : ∀ σ, PassesAt CX X σ (E σ))
    (ha : PA X (e :: es) t) (hdb : (x == ("__debug__" : Str)) = false := by decide) (he : starEach (e :: es) X.env = (false, eval e X.env) :: starEach es X.env := by rfl) (hpl : (backTo pos (starEach es X.env)).any (·.1) = false := by rfl) :
    PE X (.Call (.Name x p) (e :: es) [] pos) (tCallS sp E t) :=
  ⟨fun pins s σ H Q I h => wpAny_Call_Name_kw (ld_glob I hg hm (PySem.W.callWith_K (h₀ := X.base) I.ok.mod.kin hk (thn (ha.run pos pins s σ H _ I h) fun us s1 ⟨vs, H1, I1, r, q⟩ => ⟨I1.kIn, run_fnG F hr hb (hx σ) I1 r q⟩) he hpl) hdb)⟩
end
/-- the law's def, called at the top -/
theorem law_callG {P : Program} {w : World} {K : PySem.W.Frag} {mg mb : Str → Option Value} {CX : CXT} {k : Nat} {fa a : Addr} {fd : FuncData} {x : Str} {sp : Sp} {s₁ : Shared} {vs : List Value} {ns : List Int}
    (KX : K.In s₁.heap) (hns : s₁.heap.Ns mainGlobals mg) (hb : s₁.heap.Ns builtinsNs mb) (hbb : ∀ x : Str, x ≠ "__name__" → mb x = bootBuiltins x) (hlim : s₁.heap.NoLimit) (hg : s₁.gens = #[])
    (ha : s₁.heap.get? a = some { cls := .type "list", data := .seq vs.toArray }) (hi : IntsAre vs ns) (hl : ns.length ≤ sizeLine) (hr : Room k callerA)
    (F : ∀ base : Heap, K.In base → base.Ns mainGlobals mg → FnG P w K mg base CX k fa fd [x] sp) (hbind : ∀ (s : Shared) (u : Value), BindsTo s fd ⟨[u], []⟩ [(x, u)])
    (hsp : ∀ H : Hp, Only H → SqL K H a (ns.map V.int) → sp [.ref a] H (fun v _ => v = .bl true) fun _ _ _ => False)
    (hCX : ∀ H e s', CX [] H s₁ (fun _ _ _ => False) e s' → False) :
    codeAny (model P w) callerA (.call (.ref fa) ⟨[.ref a], []⟩) (fun r s' => r = .ok (.ret (.bool true)) ∧ OldK s₁.heap s'.heap ∧ s'.os = s₁.os ∧ AllBare s'.gens) s₁ := by
  have rv := vals_ints hi
  have core : ∀ H : Hp, Only H → SqL K H a (ns.map V.int) → HOk P w H s₁.heap → (∀ b, H b ≠ none → b = a) → (H a ≠ none → K.lookup a = none) →
      codeAny (model P w) callerA (.call (.ref fa) ⟨[.ref a], []⟩) (fun r s' => r = .ok (.ret (.bool true)) ∧ OldK s₁.heap s'.heap ∧ s'.os = s₁.os ∧ AllBare s'.gens) s₁ := by
    intro H only sq hok one fresh
    have notA : ∀ {b : Addr}, b ≠ a → H b = none := fun {b} n => Classical.byContradiction fun q => n (one b q)
    have isD : ∀ {b : Addr} {o : Obj} {es : Array DictEntry} {ep : Nat}, s₁.heap.get? b = some o → o.data = .dict es ep → H b = none := fun {b o es ep} e d => notA fun q => by
      rw [q, ha] at e
      cases e
      have d' : Data.seq vs.toArray _ = Data.dict es ep := d
      cases d'
    have ns' : ∀ {b : Addr} {m : Str → Option Value}, s₁.heap.Ns b m → (hidT s₁.heap H).Ns b m := fun {b m} ⟨o, es, ep, e, d, r⟩ => ⟨o, es, ep, hidT_get e (isD e d), d, r⟩
    have kb : K.In (hidT s₁.heap H) := fun b o e => hidT_get (KX b o e) (by
      by_cases hb : b = a
      · subst hb
        refine Classical.byContradiction fun q => ?_
        rw [fresh q] at e
        cases e
      · exact notA hb)
    have md : Mod K mg (hidT s₁.heap H) := ⟨kb, ns' hns, ⟨mb, ns' hb, hbb⟩, let ⟨mc, h1, h2⟩ := hlim; ⟨mc, ns' h1, h2⟩⟩
    have e0 : Env0 P w K mg (hidT s₁.heap H) callerA [] s₁ H := ⟨rfl, md, fun b o e => of_hidT e, Nat.le_of_eq (hidT_size _ _), trivial, (fun b q => by cases q), hok, .of_eq hg⟩
    refine codeAny_mono ((F _ kb (ns' hns)).run callerA [] s₁ H ⟨[.ref a], []⟩ [.ref a] [.ref a] _ _ hr e0 (hbind s₁ (.ref a)) (.cons rfl .nil) (hsp H only sq)) fun r s' z => ?_
    match r, z with
    | .error e, z => exact (hCX H e s' z).elim
    | .ok .next, z => exact False.elim z
    | .ok .brk, z => exact False.elim z
    | .ok .cont, z => exact False.elim z
    | .ok (.ret u), z =>
      obtain ⟨v, H', os, bare, un, hok', r', q⟩ := z
      have q' : v = .bl true := q
      subst q'
      obtain rfl : u = Value.bool true := r'
      refine ⟨rfl, OldK.of_keep fun b o e => ?_, os, bare⟩
      cases q : H b with
      | none => exact un.keep b o e q (by intro z; cases z) (by simp)
      | some u =>
        rcases only b with z | ⟨ob, xs, z⟩
        · rw [q] at z; cases z
        · obtain ⟨e1, _⟩ := hok b _ z
          obtain ⟨e2, _⟩ := hok' b _ (un.frzs b ob _ z)
          rw [e] at e1
          cases e1
          exact e2
  have len : vs.length ≤ sizeLine := by rw [hi.length]; exact hl
  cases hk : K.lookup a with
  | some o =>
    have e := KX a o hk
    rw [ha] at e
    cases e
    exact core (fun _ => none) (fun _ => .inl rfl) (.inr ⟨_, vs.toArray, _, hk, rfl, rfl, rfl, by rw [List.size_toArray]; exact len, by simpa using rv⟩) (fun b u z => by have z' : (none : Option HO) = some u := z; cases z') (fun b z => absurd rfl z) fun z => absurd rfl z
  | none =>
    refine core (fun b => if b = a then some (.frz { cls := .type "list", data := .seq vs.toArray } (.lst (ns.map V.int))) else none) (fun b => ?_) (.inl (.inr ⟨{ cls := .type "list", data := .seq vs.toArray }, if_pos rfl⟩)) (fun b u z => ?_) (fun b z => ?_) fun _ => hk
    · by_cases hb : b = a
      · exact .inr ⟨_, _, if_pos hb⟩
      · exact .inl (if_neg hb)
    · by_cases hb : b = a
      · have z' := (if_pos hb).symm.trans z
        cases z'
        subst hb
        exact ⟨ha, by rw [List.length_map]; exact hl, vs, _, rv, ha⟩
      · have z' := (if_neg hb).symm.trans z
        cases z'
    · exact Classical.byContradiction fun hb => absurd (if_neg hb) z
/-- what a call is: the arguments as the callee's slots begin, the answer, the slots of those that it may change -/
abbrev Fn := M Val
def outsF (B : List Nat) (np : Nat) (r : List Val) : List Val := (List.range np).map fun i => if i ∈ B then r.getD i .un else .un
def runF (n np : Nat) (B : List Nat) (body : M Fl) : Fn := fun args => if args.length = np then match body (args ++ List.replicate (n - np) .un) with
    | .ok (.rt v) r' => .ok v (outsF B np r')
    | .ok .nx r' => .ok (.fz .none) (outsF B np r')
    | .ok _ _ => .err
    | .exc c ds r' => .exc c ds (outsF B np r')
    | .err => .err
  else .err
def X0 (K : PySem.W.Frag) (ex : Ex) : Fx := ⟨K, [], [], ex, fun _ => none⟩
theorem no_hx (F : Hp) : Same (fun _ => none) F := fun _ _ e => nomatch e
def spF (K : PySem.W.Frag) (ex : Ex) (np : Nat) (g : Fn) : Sp := fun vs H Q E => vs.length = np ∧ rdE (X0 K ex) (fun c d _ H => E c d H) g (vs.map some) H Q
/-- a def keeps its promise -/
abbrev FnM (P : Program) (w : World) (K : PySem.W.Frag) (mg : Str → Option Value) (base : Heap) (ex : Ex) (k : Nat) (f : Addr) (fd : FuncData) (ps : List Str) (g : Fn) : Prop := FnG P w K mg base (L2N.CX P w) k f fd ps (spF K ex ps.length g)
section
variable {P : Program} {w : World} {K : PySem.W.Frag} {mg : Str → Option Value} {base : Heap} {ex : Ex}
theorem outs_get {B : List Nat} {np : Nat} {r : List Val} {i : Nat} {v : Val} (h : (outsF B np r)[i]? = some v) : v = .un ∨ (i ∈ B ∧ i < np ∧ r[i]? = some v) := by
  unfold outsF at h
  rw [List.getElem?_map] at h
  obtain ⟨j, e1, e2⟩ := Option.map_eq_some_iff.mp h
  obtain ⟨e3, e4⟩ := List.getElem?_eq_some_iff.mp e1
  rw [List.getElem_range] at e4
  subst e4
  rw [List.length_range] at e3
  by_cases hb : i ∈ B
  · rw [if_pos hb, List.getD_eq_getElem?_getD] at e2
    cases q : r[i]? with
    | none => rw [q] at e2; exact .inl e2.symm
    | some u => rw [q] at e2; subst e2; exact .inr ⟨hb, e3, rfl⟩
  · rw [if_neg hb] at e2; exact .inl e2.symm
/-- a result, at another place -/
theorem RV.to {X X' : Fx} {Z F F' H : Hp} {r r' : List Val} {σ σ' : L2.St} {x : V} {v : Val} (rv : RV X Z F H r σ x v) (zf : ∀ b ∈ foot H (some (some x)) v, F b = none → Out H r σ b → F' b = none ∧ Out H r' σ' b) (hK : X'.K = X.K := by rfl) (hE : X'.ex = X.ex := by rfl) : RV X' Z F' H r' σ' x v := by
  obtain ⟨sl, ou⟩ := rv.slot
  refine RV.of_slot ?_ rv.ne_un fun b hb => (zf b hb (sl.at b hb).2.2 (ou b hb)).2
  rw [hK, hE]
  exact (sl.congr (H' := H) (fun _ _ => rfl) (Same.refl _) fun b hb => ⟨(sl.at b hb).2.1, (zf b hb (sl.at b hb).2.2 (ou b hb)).1⟩).1
theorem fn_okC {x qual : Str} {st : Stmt} {f : Addr} {fd : FuncData} {N ps : List Str} {k : Nat} {body : M Fl} (B : List Nat) (F : Fun K x qual st f fd) (S : FnScope N ps (defScope st))
    (hbody : ∀ (cdv : Value), fd.code = cdv → ∀ (A : Around) (outer : List Env) (s : Shared) (H : Hp) (vs : List V) (E : XK), Room k (A.deeper (envOfC qual (defScope st) s.heap.objs.size f cdv)) → vs.length = ps.length →
      DSs (cxOf (L2N.CX P w) P w K mg base N qual (defScope st) f cdv A outer s H E) ⟨K, B, L2.start N vs, ex, fun _ => none⟩ (fun cls d _ H => E cls d H) (defBody st) body) : FnM P w K mg base ex (k + 1) f fd ps (runF N.length ps.length B body) := by
  obtain ⟨oc, od, kV, doc, pm, an, cdv, ct, osl, rfl, lk, hcd⟩ := F.ex
  have hpl : ps.length ≤ N.length := by have := congrArg List.length S.pre; rw [List.length_take] at this; omega
  refine fn_ofG lk hcd S (fun vs H Q E h => h.1) fun A outer s H vs Q E hr hsp => ?_
  obtain ⟨hl, Z, F0, args, g, h⟩ := hsp
  have hB := hbody cdv rfl A outer s H vs E hr hl
  refine ⟨_, hB, ?_⟩
  have al : args.length = ps.length := by have := g.len; rw [List.length_map] at this; rw [this, hl]
  have g1 : G ⟨K, B, L2.start N vs, ex, fun _ => none⟩ Z F0 (args ++ List.replicate (N.length - ps.length) .un) (L2.start N vs) H := by
    have ap : ∀ {i : Nat} {v : Val}, (args ++ List.replicate (N.length - ps.length) Val.un)[i]? = some v → (args[i]? = some v ∧ (L2.start N vs)[i]? = (vs.map some)[i]?) ∨ v = .un := fun {i v} e => by
      by_cases hi : i < args.length
      · rw [List.getElem?_append_left hi] at e
        refine .inl ⟨e, ?_⟩
        unfold L2.start
        rw [List.getElem?_append_left (by rw [List.length_map]; omega)]
      · rw [List.getElem?_append_right (by omega)] at e
        exact .inr (List.eq_of_mem_replicate (List.mem_of_getElem? e))
    refine ⟨g.zh, g.fh, ?_, fun i v e => ?_, fun i j v u p e1 e2 q1 q2 => ?_, fun i _ => rfl, no_hx _, g.nz, g.nf, g.tb⟩
    · unfold L2.start
      rw [List.length_append, List.length_append, List.length_replicate, List.length_replicate, List.length_map]
      omega
    · rcases ap e with ⟨e1, e2⟩ | rfl
      · rw [e2]; exact g.sl i v e1
      · exact True.intro
    · rcases ap e1 with ⟨a1, b1⟩ | rfl
      · rcases ap e2 with ⟨a2, b2⟩ | rfl
        · rw [b1] at q1
          rw [b2] at q2
          exact g.di i j v u p a1 a2 q1 q2
        · rw [foot_un] at q2; cases q2
      · rw [foot_un] at q1; cases q1
  refine ⟨Z, F0, _, g1, ?_⟩
  have out : ∀ {Z' H' : Hp} {r' : List Val} {σ' : L2.St}, G ⟨K, B, L2.start N vs, ex, fun _ => none⟩ Z' F0 r' σ' H' → G (X0 K ex) Z' F0 (outsF B ps.length r') (vs.map some) H' ∧ ∀ b, Out H' r' σ' b → Out H' (outsF B ps.length r') (vs.map some) b := fun {Z' H' r' σ'} g' => by
    have same : ∀ i, i ∈ B → i < ps.length → (vs.map some)[i]? = σ'[i]? := fun i hi hlt => by
      rw [g'.kp i hi]
      show _ = (L2.start N vs)[i]?
      unfold L2.start
      rw [List.getElem?_append_left (by rw [List.length_map]; omega)]
    refine ⟨⟨g'.zh, g'.fh, ?_, fun i v e => ?_, fun i j v u p e1 e2 q1 q2 => ?_, fun i hi => absurd hi (by show ¬ i ∈ ([] : List Nat); simp), no_hx _, g'.nz, g'.nf, g'.tb⟩, fun b o i v e m => ?_⟩
    · unfold outsF
      rw [List.length_map, List.length_range, List.length_map, hl]
    · rcases outs_get e with rfl | ⟨b1, l1, a1⟩
      · exact True.intro
      · rw [same i b1 l1]
        exact g'.sl i v a1
    · rcases outs_get e1 with rfl | ⟨b1, l1, a1⟩
      · rw [foot_un] at q1; cases q1
      · rcases outs_get e2 with rfl | ⟨b2, l2, a2⟩
        · rw [foot_un] at q2; cases q2
        · rw [same i b1 l1] at q1
          rw [same j b2 l2] at q2
          exact g'.di i j v u p a1 a2 q1 q2
    · rcases outs_get e with rfl | ⟨b1, l1, a1⟩
      · rw [foot_un] at m; cases m
      · rw [same i b1 l1] at m
        exact o i v a1 m
  revert h
  unfold runF
  rw [if_pos al]
  cases body (args ++ List.replicate (N.length - ps.length) .un) with
  | err => exact fun h => h
  | exc c ds r' => exact fun h cls d σ' Z' H' x ex' g' => h cls d Z' H' x ex' (out g').1
  | ok fl r' =>
    cases fl with
    | bk => exact fun h => h.elim
    | ct => exact fun h => h.elim
    | nx => exact fun h σ' Z' H' ex' g' => h Z' H' ex' (out g').1 .non .non
    | rt v =>
      intro h σ' Z' H' ex' g' x rv
      refine h Z' H' ex' (out g').1 x ?_
      exact rv.to (X' := X0 K ex) fun b _ f o => ⟨f, (out g').2 b o⟩
theorem fn_ok {x qual : Str} {st : Stmt} {f : Addr} {fd : FuncData} {N ps : List Str} {k : Nat} {body : M Fl} (B : List Nat) (F : Fun K x qual st f fd) (S : FnScope N ps (defScope st))
    (hbody : ∀ (cdv : Value) (A : Around) (outer : List Env) (s : Shared) (H : Hp) (vs : List V) (E : XK), Room k (A.deeper (envOfC qual (defScope st) s.heap.objs.size f cdv)) → vs.length = ps.length →
      DSs (cxOf (L2N.CX P w) P w K mg base N qual (defScope st) f cdv A outer s H E) ⟨K, B, L2.start N vs, ex, fun _ => none⟩ (fun cls d _ H => E cls d H) (defBody st) body) : FnM P w K mg base ex (k + 1) f fd ps (runF N.length ps.length B body) :=
  fn_okC B F S fun cdv _ => hbody cdv
/-- no level, no promise -/
theorem fn_none {k : Nat} {f : Addr} {fd : FuncData} {ps : List Str} : FnM P w K mg base ex k f fd ps (fun _ => .err) :=
  ⟨fun vs H Q E h => h.1, fun A outer s H args us vs Q E hr e0 hb hv h => by obtain ⟨_, Z, F, r, g, h⟩ := h; exact h.elim⟩
end

/-! ### calls -/
/-- by value alone -/
def callV (g : Fn) (ms : List (M Val)) : M Val := M.bind (vals ms) fun ds => fun r => match g (ds.map .fz) with
  | .ok v _ => .ok v r
  | .exc c es _ => .exc c es r
  | .err => .err
def callB1 (g : Fn) (i : Nat) (v : Val) (ds : List D) : M Val := fun r => match g (v :: ds.map .fz) with
  | .ok v outs => .ok v (r.set i (outs.getD 0 .un))
  | .exc c es outs => .exc c es (r.set i (outs.getD 0 .un))
  | .err => .err
/-- the first argument is a name's own list (thing), that the callee may change -/
def callB (g : Fn) (i : Nat) (ms : List (M Val)) : M Val := fun r => match r[i]? with
  | some (.ol _) => M.bind (vals ms) (fun ds => fun r => match r[i]? with
    | some (.ol xs) => callB1 g i (.ol xs) ds r
    | _ => .err) r
  | some (.ow _) => M.bind (vals ms) (fun ds => fun r => match r[i]? with
    | some (.ow t) => callB1 g i (.ow t) ds r
    | _ => .err) r
  | _ => .err
section
variable {C : Cx} {X : Fx} {W : WX} {Z F H : Hp} {r : List Val} {σ : L2.St}
theorem reps_map {K : PySem.W.Frag} {xs : List V} : ∀ {ds : List D}, Reps K Z xs ds → ∀ (i : Nat) (v : Val), (ds.map Val.fz)[i]? = some v → ∃ (d : D) (x : V), v = Val.fz d ∧ (xs.map some)[i]? = some (some x) ∧ Rep K Z x d := fun {ds} h i v e => by
  rw [List.getElem?_map] at e
  obtain ⟨d, e1, rfl⟩ := Option.map_eq_some_iff.mp e
  obtain ⟨x, e2, rp⟩ := h.get e1
  exact ⟨d, x, rfl, by rw [List.getElem?_map, e2]; rfl, rp⟩
/-- the heap but for some objects -/
def offA (T : List (Addr × Str)) (H : Hp) (A : List Addr) : Hp := fun b => if b ∈ A then none else noT T H b
theorem offA_in {T : List (Addr × Str)} {H : Hp} {A : List Addr} {b : Addr} (h : b ∈ A) : offA T H A b = none := if_pos h
theorem offA_out {T : List (Addr × Str)} {H : Hp} {A : List Addr} {b : Addr} (h : b ∉ A) : offA T H A b = noT T H b := if_neg h
theorem offA_same {T : List (Addr × Str)} {H : Hp} {A : List Addr} : Same (offA T H A) H := fun b o e => by
  by_cases h : b ∈ A
  · rw [offA_in h] at e; cases e
  · rw [offA_out h] at e; exact noT_same _ _ e
theorem offA_no {T : List (Addr × Str)} {H : Hp} {A : List Addr} : NoT T (offA T H A) := fun b hb => by
  by_cases h : b ∈ A
  · exact offA_in h
  · rw [offA_out h]; exact noT_no b hb
theorem offA_from {T : List (Addr × Str)} {H : Hp} {A : List Addr} (s : Same F H) (h : ∀ b ∈ A, F b = none) (n : NoT T F) : Same F (offA T H A) := fun b o e => by
  have : b ∉ A := fun q => by rw [h b q] at e; cases e
  rw [offA_out this]
  exact n.same s b o e
/-- the whole heap is framed, but for what is handed over -/
theorem call_inA {xs : List V} {ds : List D} {x : V} {v : Val} (g : G X Z F r σ H) (rs : Reps X.K Z xs ds) (sl : SlotR X.K X.ex.dk Z F H (some (some x)) v) : G (X0 X.K X.ex) Z (offA X.ex.tb H (foot H (some (some x)) v)) (v :: ds.map .fz) ((x :: xs).map some) H := by
  refine ⟨g.zh, offA_same, by rw [List.length_cons, List.length_map, List.length_map, List.length_cons, rs.length], fun j u e => ?_, fun i j u w p e1 e2 q1 q2 => ?_, fun i hi => absurd hi (by show ¬ i ∈ ([] : List Nat); simp), no_hx _, g.nz, offA_no, g.tb⟩
  · cases j with
    | zero =>
      cases e
      exact (sl.congr (H' := H) (fun _ _ => rfl) (Same.refl _) fun b hb => ⟨(sl.at b hb).2.1, offA_in hb⟩).1
    | succ j =>
      rw [List.getElem?_cons_succ] at e
      obtain ⟨d, y, rfl, e2, rp⟩ := reps_map rs j u e
      exact ⟨y, by rw [List.map_cons, List.getElem?_cons_succ]; exact e2, rp⟩
  · have z : ∀ {i : Nat} {u : Val}, (v :: ds.map Val.fz)[i]? = some u → p ∈ foot H ((x :: xs).map some)[i]? u → i = 0 := fun {i u} e q => by
      cases i with
      | zero => rfl
      | succ i =>
        rw [List.getElem?_cons_succ] at e
        obtain ⟨d, y, rfl, _⟩ := reps_map rs i u e
        rw [foot_fz] at q; cases q
    rw [z e1 q1, z e2 q2]
/-- what stands framed comes back as it was -/
theorem call_outA {A : List Addr} {Z' H' : Hp} {outs : List Val} {τ : L2.St} (g : G X Z F r σ H) (hA : ∀ b ∈ A, F b = none ∧ Out H r σ b) (ex : Ext Z Z' (offA X.ex.tb H A)) (g' : G (X0 X.K X.ex) Z' (offA X.ex.tb H A) outs τ H') : Ext Z Z' F ∧ G X Z' F r σ H' ∧ (∀ b, offA X.ex.tb H A b = none → Out H r σ b) ∧ ∀ b, Out H r σ b → Out H' r σ b := by
  have FF : Same F (offA X.ex.tb H A) := offA_from g.fh (fun b hb => (hA b hb).1) g.nf
  have off : ∀ (i : Nat) (v : Val), r[i]? = some v → ∀ b ∈ foot H σ[i]? v, ∃ o, H b = some o ∧ OwnO o ∧ offA X.ex.tb H A b = some o := fun i v e b hb => by
    obtain ⟨⟨o, h1, nt⟩, _, _⟩ := (g.sl i v e).at b hb
    exact ⟨o, h1, nt, (offA_out fun q => (hA b q).2 i v e hb).trans (noT_at h1 g.tb nt.not)⟩
  have mv := g.moved (Z' := Z') (F' := F) (H' := H') g'.zh (FF.trans g'.fh) ex.1 g.hh (fun i v e b hb => by
    obtain ⟨o, h1, nt, h2⟩ := off i v e b hb
    obtain ⟨_, z, f⟩ := (g.sl i v e).at b hb
    exact ⟨(g'.fh _ _ h2).trans h1.symm, ex.2 b o h2 (OwnO.nt nt) z, f⟩) g'.nz g.nf g'.tb
  have o1 : ∀ b, offA X.ex.tb H A b = none → Out H r σ b := fun b n i v e hb => by
    obtain ⟨o, _, _, h2⟩ := off i v e b hb
    rw [n] at h2; cases h2
  exact ⟨⟨ex.1, fun b o e t n => ex.2 b o (FF b o e) t n⟩, mv.1, o1, mv.2⟩
theorem offA_nil {T : List (Addr × Str)} {H : Hp} : offA T H [] = noT T H := by
  funext b
  exact offA_out (by simp)
/-- the whole heap is framed -/
theorem call_in {xs : List V} {ds : List D} (g : G X Z F r σ H) (rs : Reps X.K Z xs ds) : G (X0 X.K X.ex) Z (noT X.ex.tb H) (ds.map .fz) (xs.map some) H := by
  refine ⟨g.zh, noT_same, by rw [List.length_map, List.length_map, rs.length], fun i v e => ?_, fun i j v u p e1 e2 q1 q2 => ?_, fun i hi => absurd hi (by show ¬ i ∈ ([] : List Nat); simp), no_hx _, g.nz, noT_no, g.tb⟩
  · obtain ⟨d, x, rfl, e2, rp⟩ := reps_map rs i v e
    exact ⟨x, e2, rp⟩
  · obtain ⟨d, x, rfl, _⟩ := reps_map rs i v e1
    rw [foot_fz] at q1; cases q1
theorem call_out {Z' H' : Hp} {outs : List Val} {τ : L2.St} (g : G X Z F r σ H) (ex : Ext Z Z' (noT X.ex.tb H)) (g' : G (X0 X.K X.ex) Z' (noT X.ex.tb H) outs τ H') : Ext Z Z' F ∧ G X Z' F r σ H' ∧ ∀ b, noT X.ex.tb H b = none → Out H' r σ b := by
  have q := call_outA (A := []) g (fun b hb => nomatch hb) (by rw [offA_nil]; exact ex) (by rw [offA_nil]; exact g')
  exact ⟨q.1, q.2.1, fun b n => q.2.2.2 b (q.2.2.1 b (by rw [offA_nil]; exact n))⟩
theorem callV_run {np : Nat} {gf : Fn} {ms : List (M Val)} {Q : VK} (hnp : ms.length = np) (h : rdE X W (callV gf ms) σ H Q) : tCallS (spF X.K X.ex np gf) (L2.WE W) (rdVs X W ms) σ H Q := by
  refine vs_run h fun ds Z F H r xs ln g rs h' => ⟨by rw [rs.length, ln, hnp], Z, noT X.ex.tb H, ds.map .fz, call_in g rs, ?_⟩
  revert h'
  cases gf (ds.map .fz) with
  | err => exact fun h => h
  | exc c es outs => exact fun h cls d Z' H' x ex g' => h cls d Z' H' x (call_out g ex g').1 (call_out g ex g').2.1
  | ok v outs =>
    intro h Z' H' ex g' x rv
    obtain ⟨ex2, g2, ou⟩ := call_out g ex g'
    exact h Z' H' ex2 g2 x (rv.to fun b _ n _ => ⟨none_of (g.nf.same g.fh) n, ou b n⟩)
variable {k : Nat} {f : Addr} {fd : FuncData} {ps : List Str} {x : Str} {p pos : Pos} {e : Expr} {es : List Expr} {gf : Fn}
theorem de_call {ms : List (M Val)} (Fk : FnM C.prog C.w C.K C.mg C.base X.ex k f fd ps gf) (hr : Room k C.A) (hg : Gl C x) (hm : C.mg x = some (.ref f)) (hk : PySem.W.keepIn C.K (.ref f) = true) (hb : Binds C.K fd ps []) (tk : L2N.Takes C W) (ha : DVs C X W (e :: es) ms) (hnp : ms.length = ps.length := by rfl)
    (hdb : (x == ("__debug__" : Str)) = false := by decide) (he : starEach (e :: es) C.env = (false, eval e C.env) :: starEach es C.env := by rfl) (hpl : (backTo pos (starEach es C.env)).any (·.1) = false := by rfl) (hK : X.K = C.K := by rfl) : DE C X W (.Call (.Name x p) (e :: es) [] pos) (callV gf ms) :=
  PE.imp (pe_callG Fk hr hg hm hk hb (fun σ => L2N.passAt tk σ) ha hdb he hpl) fun _ _ _ h => by rw [← hK]; exact callV_run hnp h
/-! one argument is changed -/
theorem callB1_run {i : Nat} {v1 : Val} {a : Addr} {ys : List V} {ds : List D} {Q : VK} {E : L2.XK} {np : Nat} (g1 : G X Z F r σ H) (e1 : r[i]? = some v1) (ea : σ[i]? = some (some (.ref a))) (rs : Reps X.K Z ys ds) (hl : (V.ref a :: ys).length = np)
    (h : After X W (callB1 gf i v1 ds r) Z F σ fun v r' Z' H' => ∀ x, RV X Z' F H' r' σ x v → Q x H') (hE : ∀ cls d H', W cls d σ H' → E cls d H') : spF X.K X.ex np gf (V.ref a :: ys) H Q E := by
  have sl := g1.sl i v1 e1
  rw [ea] at sl
  -- what is handed over belongs to no other name
  have hA : ∀ b ∈ foot H (some (some (.ref a))) v1, F b = none ∧ Out H (r.set i .un) σ b := fun b hb => ⟨(sl.at b hb).2.2, own_out g1 e1 (by rw [ea]; exact hb)⟩
  have g0 : G X Z F (r.set i .un) σ H := g1.put (w := .un) True.intro rfl
  have hi : i < r.length := (List.getElem?_eq_some_iff.mp e1).1
  have back : ∀ {Z' H' : Hp} {outs : List Val}, Ext Z Z' (offA X.ex.tb H (foot H (some (some (.ref a))) v1)) → G (X0 X.K X.ex) Z' (offA X.ex.tb H (foot H (some (some (.ref a))) v1)) outs ((V.ref a :: ys).map some) H' → Ext Z Z' F ∧ G X Z' F (r.set i (outs.getD 0 .un)) σ H' ∧ ∀ b, offA X.ex.tb H (foot H (some (some (.ref a))) v1) b = none → b ∉ foot H' (some (some (.ref a))) (outs.getD 0 .un) → Out H' (r.set i (outs.getD 0 .un)) σ b := fun {Z' H' outs} ex g' => by
    obtain ⟨ex2, g2, o1, o2⟩ := call_outA g0 hA ex g'
    have q0 : SlotR X.K X.ex.dk Z' (offA X.ex.tb H (foot H (some (some (.ref a))) v1)) H' (some (some (.ref a))) (outs.getD 0 .un) := by
      rw [List.getD_eq_getElem?_getD]
      cases eo : outs[0]? with
      | none => exact True.intro
      | some u => exact g'.sl 0 u eo
    have FF : Same F (offA X.ex.tb H (foot H (some (some (.ref a))) v1)) := offA_from g1.fh (fun b hb => (hA b hb).1) g1.nf
    have q1 : SlotR X.K X.ex.dk Z' F H' σ[i]? (outs.getD 0 .un) := by
      rw [ea]
      exact (q0.congr (H' := H') (fun _ _ => rfl) (Same.refl _) fun b hb => ⟨(q0.at b hb).2.1, none_of FF (q0.at b hb).2.2⟩).1
    have ou : ∀ b ∈ foot H' σ[i]? (outs.getD 0 .un), Out H' (r.set i .un) σ b := fun b hb => o2 b (o1 b (q0.at b (by rw [ea] at hb; exact hb)).2.2)
    have un : ∀ {j : Nat} {u : Val}, i ≠ j → r[j]? = some u → (r.set i Val.un)[j]? = some u := fun hj e => by rw [List.getElem?_set_ne hj]; exact e
    refine ⟨ex2, ⟨g2.zh, g2.fh, by rw [List.length_set]; exact g1.len, fun j v ej => ?_, fun j l v u p e2 e3 f2 f3 => ?_, g1.kp, g1.hh, g2.nz, g1.nf, g2.tb⟩, fun b n m j u ej hb => ?_⟩
    · rcases set_get ej with ⟨z1, _, z2⟩ | ⟨hj, ej⟩
      · subst z1 z2; exact q1
      · exact g2.sl j v (un hj ej)
    · rcases set_get e2 with ⟨z1, _, z2⟩ | ⟨hj, e2⟩
      · rcases set_get e3 with ⟨y1, _, y2⟩ | ⟨hl, e3⟩
        · exact z1.symm.trans y1
        · subst z1 z2
          exact absurd f3 (ou p f2 l u (un hl e3))
      · rcases set_get e3 with ⟨y1, _, y2⟩ | ⟨hl, e3⟩
        · subst y1 y2
          exact absurd f2 (ou p f3 j v (un hj e2))
        · exact g2.di j l v u p (un hj e2) (un hl e3) f2 f3
    · rcases set_get ej with ⟨z1, _, z2⟩ | ⟨hj, ej⟩
      · subst z1 z2
        rw [ea] at hb
        exact m hb
      · exact o2 b (o1 b n) j u (un hj ej) hb
  refine ⟨hl, Z, _, _, call_inA g1 rs sl, ?_⟩
  revert h
  unfold callB1
  cases gf (v1 :: ds.map .fz) with
  | err => exact fun h => h
  | exc c es outs => exact fun h cls d Z' H' x ex g' => hE _ _ _ (h cls d Z' H' x (back ex g').1 (back ex g').2.1)
  | ok v outs =>
    intro h Z' H' ex g' x rv
    obtain ⟨ex2, g2, ou⟩ := back ex g'
    refine h Z' H' ex2 g2 x (rv.to fun b _ n o => ⟨none_of (offA_from g1.fh (fun b hb => (hA b hb).1) g1.nf) n, ou b n ?_⟩)
    rw [List.getD_eq_getElem?_getD]
    cases eo : outs[0]? with
    | none => rw [show (none : Option Val).getD .un = .un from rfl, foot_un]; exact fun q => nomatch q
    | some u => exact o 0 u eo
theorem own_ref {i : Nat} {v : Val} (g : G X Z F r σ H) (e : r[i]? = some v) (ho : v.own = true) : ∃ a, σ[i]? = some (some (.ref a)) := by
  have q := g.sl i v e
  cases v with
  | un => cases ho
  | fz d => cases ho
  | ol xs => obtain ⟨a, _, e, _⟩ := q; exact ⟨a, e⟩
  | od xs => obtain ⟨a, _, e, _⟩ := q; exact ⟨a, e⟩
  | ow t => obtain ⟨a, e, _⟩ := q; exact ⟨a, e⟩
theorem callB_run {np : Nat} {i : Nat} {ms : List (M Val)} {Q : VK} (hB : i ∉ X.B ∨ i ∈ X.B) (hnp : ms.length + 1 = np) (h : rdE X W (callB gf i ms) σ H Q) : tCallS (spF X.K X.ex np gf) (L2.WE W) (tCons (tVar i) (rdVs X W ms)) σ H Q := by
  obtain ⟨Z, F, r, g, h⟩ := h
  revert h
  unfold callB
  cases e : r[i]? with
  | none => exact fun h => h.elim
  | some v =>
    cases v with
    | un => exact fun h => h.elim
    | fz d => exact fun h => h.elim
    | od d => exact fun h => h.elim
    | ol xs0 =>
      intro h
      obtain ⟨a, ea⟩ := own_ref g e rfl
      refine ⟨.ref a, ea, ?_⟩
      refine ⟨Z, F, r, g, (bind_run h).imp2 fun ds r1 Z1 H1 eq ex1 g1 h1 ys rs => ?_⟩
      have ln := vals_len eq
      revert h1
      simp only
      cases e1 : r1[i]? with
      | none => exact fun h => h.elim
      | some v =>
        cases v with
        | ol xs => exact fun h1 => callB1_run g1 e1 ea rs (by rw [List.length_cons, rs.length, ln, hnp]) h1 fun _ _ _ h => h
        | _ => exact fun h => h.elim
    | ow xs0 =>
      intro h
      obtain ⟨a, ea, _⟩ := g.sl i _ e
      refine ⟨.ref a, ea, ?_⟩
      refine ⟨Z, F, r, g, (bind_run h).imp2 fun ds r1 Z1 H1 eq ex1 g1 h1 ys rs => ?_⟩
      have ln := vals_len eq
      revert h1
      simp only
      cases e1 : r1[i]? with
      | none => exact fun h => h.elim
      | some v =>
        cases v with
        | ow xs => exact fun h1 => callB1_run g1 e1 ea rs (by rw [List.length_cons, rs.length, ln, hnp]) h1 fun _ _ _ h => h
        | _ => exact fun h => h.elim
theorem de_callBr {y : Str} {i : Nat} {ms : List (M Val)} {p2 : Pos} (Fk : FnM C.prog C.w C.K C.mg C.base X.ex k f fd ps gf) (hr : Room k C.A) (hg : Gl C x) (hm : C.mg x = some (.ref f)) (hk : PySem.W.keepIn C.K (.ref f) = true) (hb : Binds C.K fd ps []) (tk : L2N.Takes C W) (hN : C.N[i]? = some y) (hv : Vis C.env.scope y) (ha : DVs C X W es ms) (hnp : ms.length + 1 = ps.length := by rfl)
    (hdb : (x == ("__debug__" : Str)) = false := by decide) (hdb2 : (y == ("__debug__" : Str)) = false := by decide) (hcd : (y == ("__classdict__" : Str)) = false := by decide) (he : starEach (.Name y p2 :: es) C.env = (false, eval (.Name y p2) C.env) :: starEach es C.env := by rfl) (hpl : (backTo pos (starEach es C.env)).any (·.1) = false := by rfl) (hK : X.K = C.K := by rfl) : DE C X W (.Call (.Name x p) (.Name y p2 :: es) [] pos) (callB gf i ms) :=
  PE.imp (pe_callG Fk hr hg hm hk hb (fun σ => L2N.passAt tk σ) (pa_cons (pe_var hN hv hdb2 hcd) ha he) hdb he hpl) fun _ _ _ h => by rw [← hK]; exact callB_run (by rcases Classical.em (i ∈ X.B) with z | z; exact .inr z; exact .inl z) hnp h
end

/-! ### refusals -/
section
variable {C : Cx} {X : Fx} {W : WX}
/-- X() -/
theorem pmk_own0 {D : Addr} {bmB : List Value} {B newId initId : String} {x : Str} {p pos : Pos} (F : ExcBaseFacts B newId initId bmB) (q : PySem.W.excIn C.K D bmB newId = true) (gC : C.mg x = some (.ref D)) (kC : PySem.W.keepIn C.K (.ref D) = true) (r : Raises C (.ref D)) (hg : Gl C x)
    (hdb : (x == ("__debug__" : Str)) = false := by decide) : L2N.PMk C (.Call (.Name x p) [] [] pos) (fun σ H Q => Q (.ref D) none H) := by
  intro pins s σ H Q I h
  refine wpAny_Call_Name_kw (ld_glob I hg gC ?_ hdb)
  refine PySem.W.callWith_K0 I.kIn kC ?_
  show wpAny _ _ (call (.ref D) []) _ _ _
  obtain ⟨bm, N, nm, qn, bs, hdct, sn, sub, ab, col, dd, k0, k1, k2, k3, k5, mN, hC, hN, hni, T⟩ := exc_obj I.kIn q
  refine wpAny_call_exc_subT F T hC hN hni (fun h' e hm => ?_) (by show 0 ≤ sizeLine; exact Nat.zero_le _)
  exact L2N.mk_of I hm r h (I.hok.gone hm.new)
/-- a class of refusals, as it stands behind the top -/
structure ClsR (K : PySem.W.Frag) (mg : Str → Option Value) (ex : Ex) (x : Str) (nm : String) : Prop where
  at_ : ∃ D : Addr, mg x = some (.ref D) ∧ PySem.W.excIn K D [.type "ValueError", .type "Exception", .type "BaseException", .type "object"] "ValueError.__new__" = true ∧ PySem.W.keepIn K (.ref D) = true ∧
    PySem.W.subIn K (.ref D) (.type "BaseException") = some true ∧ PySem.W.typeIn K (.ref D) = some (.type "type") ∧ ∀ H, ex nm [] (.ref D) none H
def sRaise (nm : String) : M Fl := fun r => .exc nm [] r
theorem ds_raise {x : Str} {nm : String} {p pos2 pos : Pos} (R : ClsR C.K C.mg X.ex x nm) (hc : C.calm = true) (tk : L2N.Takes C W) (hg : Gl C x) (hdb : (x == ("__debug__" : Str)) = false := by decide) : DS C X W (.Raise (some (.Call (.Name x p) [] [] pos2)) none pos) (sRaise nm) := by
  obtain ⟨D, gC, q, kC, sB, tT, hx⟩ := R.at_
  exact PS.imp (L2N.ps_raise hc tk (pmk_own0 PySem.F.excBase_ValueError q gC kC (raises_own sB tT) hg hdb)) fun Dd σ H h => by
    obtain ⟨Z, F, r, g, h⟩ := h
    exact h (.ref D) none σ Z H (hx H) (Ext.refl _ _) g
end
end MS

/-! part h: built-ins, stores -/
namespace MS
open PySem PySem.Spec PyProof.Rows L2

section
variable {C : Cx} {X : Fx} {W : WX} {Z F H : Hp} {r : List Val} {σ : L2.St} {e : Expr} {pos : Pos}
def allD : List D → Option Val
  | [.list ds] => (blsD ds).map fun bs => .fz (.bool (bs.all id))
  | _ => none
def anyD : List D → Option Val
  | [.list ds] => (blsD ds).map fun bs => .fz (.bool (bs.any id))
  | _ => none
def sumD : List D → Option Val
  | [.list ds] => (intsD ds).map fun ns => .fz (.int ns.sum)
  | _ => none
theorem call_allD (hc : C.calm = true) : CallR C (.builtin "all") (rApp C.K allD) := call_by fun ds v xs H Z Q hf hz hx fr => by
  unfold allD at hf
  split at hf
  · obtain ⟨bs, e1, rfl⟩ := Option.map_eq_some_iff.mp hf
    obtain ⟨x, rfl, a, vs, rfl, r1, l, q⟩ := RepHs.one hx
    obtain rfl := q.bls e1
    exact ⟨_, cr_all hc, a, bs, rfl, LiL.sq r1, fr.sc hz (.bl _)⟩
  · cases hf
theorem call_anyD (hc : C.calm = true) : CallR C (.builtin "any") (rApp C.K anyD) := call_by fun ds v xs H Z Q hf hz hx fr => by
  unfold anyD at hf
  split at hf
  · obtain ⟨bs, e1, rfl⟩ := Option.map_eq_some_iff.mp hf
    obtain ⟨x, rfl, a, vs, rfl, r1, l, q⟩ := RepHs.one hx
    obtain rfl := q.bls e1
    exact ⟨_, cr_any hc, a, bs, rfl, LiL.sq r1, fr.sc hz (.bl _)⟩
  · cases hf
theorem call_sumD (hc : C.calm = true) : CallR C (.builtin "sum") (rApp C.K sumD) := call_by fun ds v xs H Z Q hf hz hx fr => by
  unfold sumD at hf
  split at hf
  · obtain ⟨bs, e1, rfl⟩ := Option.map_eq_some_iff.mp hf
    obtain ⟨x, rfl, a, vs, rfl, r1, l, q⟩ := RepHs.one hx
    obtain rfl := q.ints e1
    exact ⟨_, cr_sum hc, a, bs, rfl, LiL.sq r1, fr.sc hz (.int _)⟩
  · cases hf
/-! max, min -/
def maxL : List Int → Option Int
  | [] => none
  | n :: ns => some (ns.foldl (fun a b => if a < b then b else a) n)
def minL : List Int → Option Int
  | [] => none
  | n :: ns => some (ns.foldl (fun a b => if b < a then b else a) n)
def mxD (f : List Int → Option Int) : List D → Option Val
  | [.list ds] => (intsD ds).bind fun ns => (f ns).map fun i => .fz (.int i)
  | [.tuple ds] => (intsD ds).bind fun ns => (f ns).map fun i => .fz (.int i)
  | [.int i, .int j] => (f [i, j]).map fun i => .fz (.int i)
  | _ => none
abbrev maxD := mxD maxL
abbrev minD := mxD minL
theorem fold_max (ns : List Int) : ∀ n : Int, ns.foldl (fun a b => if a < b then b else a) n = ns.foldl max n := by
  induction ns with
  | nil => intro n; rfl
  | cons m ns ih =>
    intro n
    rw [List.foldl_cons, List.foldl_cons, ih]
    congr 1
    by_cases h : n < m
    · rw [if_pos h]; omega
    · rw [if_neg h]; omega
theorem fold_min (ns : List Int) : ∀ n : Int, ns.foldl (fun a b => if b < a then b else a) n = ns.foldl min n := by
  induction ns with
  | nil => intro n; rfl
  | cons m ns ih =>
    intro n
    rw [List.foldl_cons, List.foldl_cons, ih]
    congr 1
    by_cases h : m < n
    · rw [if_pos h]; omega
    · rw [if_neg h]; omega
theorem ints_alike (n : Int) (ns : List Int) : PySem.W.AlikeAll (PyData.int n :: ns.map PyData.int) := by
  have all : ∀ x ∈ PyData.int n :: ns.map PyData.int, ∃ i, x = PyData.int i := fun x hx => by
    rcases List.mem_cons.mp hx with rfl | hx
    · exact ⟨n, rfl⟩
    · obtain ⟨i, _, rfl⟩ := List.mem_map.mp hx; exact ⟨i, rfl⟩
  refine ⟨fun x hx y hy => ?_, fun x hx => ?_⟩
  · obtain ⟨i, rfl⟩ := all x hx
    obtain ⟨j, rfl⟩ := all y hy
    rfl
  · obtain ⟨i, rfl⟩ := all x hx
    exact fun h => by cases h
theorem ints_depth : ∀ ns : List Int, PyData.depthAll (ns.map PyData.int) ≤ 1
  | [] => by decide
  | n :: ns => by
    have := ints_depth ns
    simp only [List.map_cons, PyData.depthAll, PyData.depth]
    omega
theorem ints_reads (h : Heap) : ∀ {ns : List Int} {us : List Value}, Vals (ns.map V.int) us → PySem.ReadsAll h us (ns.map PyData.int) []
  | [], _, .nil => .nil
  | n :: ns, _, .cons r t => by
    obtain ⟨k, rfl⟩ := r
    exact .cons (as := []) (bs := []) (.int _ _) (ints_reads h t)

theorem call_mx {id : String} {f : List Int → Option Int} {g : Int → List Int → Int} (hf0 : f [] = none) (hfn : ∀ n ns, f (n :: ns) = some (g n ns))
    (hl : ∀ {s : Shared} {l : Addr} {vs : Array Value} {n : Int} {ns : List Int} {Q : Value → Shared → Prop}, s.heap.IsList l vs → PySem.ReadsAll s.heap vs.toList (PyData.int n :: ns.map PyData.int) [] → (∀ h' tk t, (∀ b o, s.heap.get? b = some o → h'.get? b = some o) → Q (.int (g n ns) t) { s with heap := h', toks := tk }) → wpAny (model C.prog C.w) C.A (call (.builtin id) [.ref l]) Q C.xe s)
    (ht : ∀ {s : Shared} {l : Addr} {vs : Array Value} {n : Int} {ns : List Int} {Q : Value → Shared → Prop}, s.heap.IsTuple l vs → PySem.ReadsAll s.heap vs.toList (PyData.int n :: ns.map PyData.int) [] → (∀ h' tk t, (∀ b o, s.heap.get? b = some o → h'.get? b = some o) → Q (.int (g n ns) t) { s with heap := h', toks := tk }) → wpAny (model C.prog C.w) C.A (call (.builtin id) [.ref l]) Q C.xe s)
    (h2 : CallR C (.builtin id) (fun xs H Q => ∃ i j, xs = [.int i, .int j] ∧ Q (.int (g i [j])) H)) : CallR C (.builtin id) (rApp C.K (mxD f)) := by
  intro pins s σ H xs us Q I rx ⟨Z, ds, z, hz, hx, hf, fr⟩
  unfold mxD at hf
  split at hf
  · rename_i ds
    obtain ⟨ns, e1, e2⟩ := Option.bind_eq_some_iff.mp hf
    obtain ⟨m, e3, rfl⟩ := Option.map_eq_some_iff.mp e2
    obtain ⟨x, rfl, a, vs, rfl, r1, l, q⟩ := RepHs.one hx
    obtain rfl := q.ints e1
    obtain ⟨its, rv, il, _⟩ := I.list (LiL.sq r1 : SqL C.K H a (ns.map V.int))
    rw [Vals.ref1 rx]
    cases ns with
    | nil => rw [hf0] at e3; cases e3
    | cons n ns =>
      rw [hfn] at e3
      cases e3
      exact hl il.isList (ints_reads s.heap (ns := n :: ns) rv) fun h' tk t hk => ⟨.int _, H, I.kept hk, ⟨t, rfl⟩, fr.sc hz (.int _)⟩
  · rename_i ds
    obtain ⟨ns, e1, e2⟩ := Option.bind_eq_some_iff.mp hf
    obtain ⟨m, e3, rfl⟩ := Option.map_eq_some_iff.mp e2
    obtain ⟨x, ex, hx1⟩ := RepHs.one hx
    subst ex
    cases hx1 with
    | tup s1 l q =>
      rename_i a vs
      obtain rfl := q.ints e1
      obtain ⟨its, rv, il, _⟩ := I.tuple (SqT.at hz s1)
      rw [Vals.ref1 rx]
      cases ns with
      | nil => rw [hf0] at e3; cases e3
      | cons n ns =>
        rw [hfn] at e3
        cases e3
        exact ht (show s.heap.IsTuple a its.toArray from il) (ints_reads s.heap (ns := n :: ns) rv) fun h' tk t hk => ⟨.int _, H, I.kept hk, ⟨t, rfl⟩, fr.sc hz (.int _)⟩
  · obtain ⟨m, e3, rfl⟩ := Option.map_eq_some_iff.mp hf
    rw [hfn] at e3
    cases e3
    obtain ⟨x, y, rfl, h1, h3⟩ := RepHs.two hx
    cases h1
    cases h3
    exact h2 pins s σ H _ us Q I rx ⟨_, _, rfl, fr.sc hz (.int _)⟩
  · cases hf
theorem int_read {h : Heap} {v : Value} {i : Int} {bs : List Addr} (r : PySem.Reads h v (.int i) bs) : ∃ t, v = .int i t := by
  cases r
  exact ⟨_, rfl⟩
theorem call_maxD (hc : C.calm = true) (hu : C.A.units + 64 < cLine) : CallR C (.builtin "max") (rApp C.K maxD) := by
  have dp : ∀ (n : Int) (ns : List Int), C.A.units + 1 + PyData.depthAll (PyData.int n :: ns.map PyData.int) < cLine := fun n ns => by
    have := ints_depth (n :: ns)
    rw [List.map_cons] at this
    omega
  intro pins s σ H xs us Q I rx hr
  have hd : C.A.handled = none := I.ok.hd hc
  refine call_mx (g := fun n ns => ns.foldl (fun a b => if a < b then b else a) n) rfl (fun _ _ => rfl) (fun {s l vs n ns Q} hl hr h => ?_) (fun {s l vs n ns Q} hl hr h => ?_) ?_ pins s σ H xs us Q I rx hr
  · refine PySem.W.max_list_data hd hl hr (ints_alike n ns) (dp n ns) fun i v h' tk bs _ rd hk => ?_
    rw [PySem.W.maxD_ints] at rd
    obtain ⟨t, rfl⟩ := int_read rd
    have := h h' tk t hk
    rw [fold_max] at this
    exact this
  · refine PySem.W.max_tuple_data hd hl hr (ints_alike n ns) (dp n ns) fun i v h' tk bs _ rd hk => ?_
    rw [PySem.W.maxD_ints] at rd
    obtain ⟨t, rfl⟩ := int_read rd
    have := h h' tk t hk
    rw [fold_max] at this
    exact this
  · intro pins s σ H xs us Q I rx ⟨i, j, e, q⟩
    exact call_max2 hc pins s σ H xs us Q I rx ⟨i, j, e, q⟩
theorem call_minD (hc : C.calm = true) (hu : C.A.units + 64 < cLine) : CallR C (.builtin "min") (rApp C.K minD) := by
  have dp : ∀ (n : Int) (ns : List Int), C.A.units + 1 + PyData.depthAll (PyData.int n :: ns.map PyData.int) < cLine := fun n ns => by
    have := ints_depth (n :: ns)
    rw [List.map_cons] at this
    omega
  intro pins s σ H xs us Q I rx hr
  have hd : C.A.handled = none := I.ok.hd hc
  refine call_mx (g := fun n ns => ns.foldl (fun a b => if b < a then b else a) n) rfl (fun _ _ => rfl) (fun {s l vs n ns Q} hl hr h => ?_) (fun {s l vs n ns Q} hl hr h => ?_) ?_ pins s σ H xs us Q I rx hr
  · refine PySem.W.min_list_data hd hl hr (ints_alike n ns) (dp n ns) fun i v h' tk bs _ rd hk => ?_
    rw [PySem.W.minD_ints] at rd
    obtain ⟨t, rfl⟩ := int_read rd
    have := h h' tk t hk
    rw [fold_min] at this
    exact this
  · refine PySem.W.min_tuple_data hd hl hr (ints_alike n ns) (dp n ns) fun i v h' tk bs _ rd hk => ?_
    rw [PySem.W.minD_ints] at rd
    obtain ⟨t, rfl⟩ := int_read rd
    have := h h' tk t hk
    rw [fold_min] at this
    exact this
  · intro pins s σ H xs us Q I rx ⟨i, j, e, q⟩
    exact call_min2 hc pins s σ H xs us Q I rx ⟨i, j, e, q⟩
/-! int, tuple, list -/
def intV : List D → Option Val
  | [.int i] => some (.fz (.int i))
  | [.bool k] => some (.fz (.int (if k = true then 1 else 0)))
  | _ => none
theorem call_intV : CallR C (.type "int") (rApp C.K intV) := call_by fun ds v xs H Z Q hf hz hx fr => by
  unfold intV at hf
  split at hf
  · cases hf
    obtain ⟨x, ex, hx1⟩ := RepHs.one hx
    subst ex
    cases hx1
    exact ⟨_, call_int1, .inl ⟨_, rfl, fr.sc hz (.int _)⟩⟩
  · cases hf
    obtain ⟨x, ex, hx1⟩ := RepHs.one hx
    subst ex
    cases hx1
    exact ⟨_, call_int1, .inr ⟨_, rfl, fr.sc hz (.int _)⟩⟩
  · cases hf
def tupD : D → Option Val
  | .list ds => some (.fz (.tuple ds))
  | .tuple ds => some (.fz (.tuple ds))
  | _ => none
theorem kTup_of {x : V} {Q : VK} (h : rF1 C.K tupD x H Q) : kTup C.K x H Q := by
  obtain ⟨Z, d, v, hz, hx, hf, fr⟩ := h
  unfold tupD at hf
  split at hf
  · cases hf
    obtain ⟨a, vs, rfl, r1, l, q⟩ := hx
    exact .inl ⟨a, vs, rfl, LiL.sq r1, fr.tup hz q l⟩
  · cases hf
    cases hx with
    | tup s1 l q => exact .inr ⟨_, _, rfl, SqT.at hz s1, fr.sc hz (.tup s1 l q)⟩
  · cases hf
theorem una_run {f : D → Option Val} {a : Opd} {Q : VK} {R : V → Hp → Prop} (h : rdE X W (una f a) σ H Q) (i : ∀ x H1, rF1 X.K f x H1 Q → R x H1) : rdO X W a σ H R := by
  obtain ⟨Z, F, r, g, h⟩ := h
  refine opd1_run g ?_
  unfold una at h
  revert h
  cases e : ev1 a r with
  | exc c ds r' => exact fun h => h
  | err => exact fun h => h
  | ok d r' =>
    show After X W (match f d with | some v => .ok v r' | none => .err) Z F σ _ → _
    cases e2 : f d with
    | none => exact fun h => h.elim
    | some v => exact fun h Z' H' ex g' x hx => i _ _ ⟨Z', d, v, g'.zh, hx, e2, Fresh.of g' fun Z2 H2 ex2 g2 x rv => h Z2 H2 (ex.trans ex2) g2 x rv⟩
theorem bin_run {f : D → D → Option Val} {a b : Opd} {Q : VK} {R : V → V → Hp → Prop} (h : rdE X W (bin f a b) σ H Q) (i : ∀ x y H1, rF X.K f x y H1 Q → R x y H1) : rdO X W a σ H fun x H1 => rdO X W b σ H1 fun y H2 => R x y H2 := by
  obtain ⟨Z, F, r, g, h⟩ := h
  refine opd2_run (R := R) g ?_
  unfold bin at h
  revert h
  cases e : ev2 a b r with
  | exc c ds r' => exact fun h => h
  | err => exact fun h => h
  | ok p r' =>
    obtain ⟨d, d2⟩ := p
    show After X W (match f d d2 with | some v => .ok v r' | none => .err) Z F σ _ → _
    cases e2 : f d d2 with
    | none => exact fun h => h.elim
    | some v => exact fun h Z' H' ex g' x y hx hy => i _ _ _ ⟨Z', d, d2, v, g'.zh, hx, hy, e2, Fresh.of g' fun Z2 H2 ex2 g2 x rv => h Z2 H2 (ex.trans ex2) g2 x rv⟩
theorem de_tupleOf {p : Pos} {o : Opd} (hg : Gl C "tuple") (hm : C.mg "tuple" = none) (ha : DO C X W e o) (na : starEach [e] C.env = (false, eval e C.env) :: starEach [] C.env := by rfl) (hK : X.K = C.K := by rfl) : DE C X W (.Call (.Name "tuple" p) [e] [] pos) (una tupD o) :=
  PE.imp (pe_tupleOf hg hm ha na) fun _ _ _ h => una_run h fun x H1 q => kTup_of (by rw [← hK]; exact q)
/-! ranges as arguments -/
def rgOk (a b : Int) : Bool := smI a && smI b && Nat.ble (b - a).toNat 16777216
theorem rgOk_of {a b : Int} (h : rgOk a b = true) : RgOk a b := by
  simp only [rgOk, Bool.and_eq_true] at h
  have h1 := smI_of h.1.1
  have h2 := smI_of h.1.2
  have h3 := Nat.le_of_ble_eq_true h.2
  unfold RgOk
  omega
theorem reps_rg {K : PySem.W.Frag} (a b : Int) : Reps K Z (rgV a b) (rangeD a b) := by
  unfold rgV rangeD
  generalize (List.range (b - a).toNat) = l
  induction l with
  | nil => exact .nil
  | cons n l ih => exact .cons (.int _) ih
theorem rg_len {a b : Int} (h : rgOk a b = true) : (rgV a b).length ≤ sizeLine := by
  have := rgOk_of h
  unfold RgOk at this
  rw [rgV_length, sizeLine_eq]
  omega
def rgTD (t : Bool) : D → D → Option Val
  | .int a, .int b => if rgOk a b = true then some (if t = true then .fz (.tuple (rangeD a b)) else .ol (rangeD a b)) else none
  | _, _ => none
def rgTD1 (t : Bool) (d : D) : Option Val := rgTD t (.int 0) d
theorem tupRg2_of {x y : V} {Q : VK} (h : rF X.K (rgTD true) x y H Q) : ∃ i j, x = .int i ∧ y = .int j ∧ RgOk i j ∧ ∀ q, H q = none → Q (.ref q) (upd H q (.tup (rgV i j))) := by
  obtain ⟨Z, d, e, v, hz, hx, hy, hf, fr⟩ := h
  unfold rgTD at hf
  split at hf
  · split at hf
    · rename_i hc
      cases hf
      cases hx
      cases hy
      exact ⟨_, _, rfl, rfl, rgOk_of hc, fr.tup hz (reps_rg _ _) (rg_len hc)⟩
    · cases hf
  · cases hf
theorem lstRg2_of {x y : V} {Q : VK} (h : rF X.K (rgTD false) x y H Q) : ∃ i j, x = .int i ∧ y = .int j ∧ RgOk i j ∧ ∀ q, H q = none → Q (.ref q) (upd H q (.lst (rgV i j))) := by
  obtain ⟨Z, d, e, v, hz, hx, hy, hf, fr⟩ := h
  unfold rgTD at hf
  split at hf
  · split at hf
    · rename_i hc
      cases hf
      cases hx
      cases hy
      exact ⟨_, _, rfl, rfl, rgOk_of hc, fr.lst hz (reps_rg _ _) (rg_len hc)⟩
    · cases hf
  · cases hf
theorem rg1_of {b : Bool} {x : V} {Q : VK} (h : rF1 X.K (rgTD1 b) x H Q) : ∃ n, x = .int n ∧ rF X.K (rgTD b) (.int 0) (.int n) H Q := by
  obtain ⟨Z, d, v, hz, hx, hf, fr⟩ := h
  unfold rgTD1 at hf
  cases d with
  | int n =>
    cases hx
    exact ⟨_, rfl, Z, .int 0, .int n, v, hz, (Rep.int 0 : Rep X.K Z (.int 0) (.int 0)), (Rep.int n : Rep X.K Z (.int n) (.int n)), hf, fr⟩
  | _ => cases hf
section
variable {a b rg : Expr} {oa ob : Opd} {p p2 pos2 : Pos}
theorem de_tupRg2 (hc : C.calm = true) (hgt : Gl C "tuple") (hmt : C.mg "tuple" = none) (hgr : Gl C "range") (hmr : C.mg "range" = none) (ha : DO C X W a oa) (hb : DO C X W b ob) (na : starEach [a, b] C.env = (false, eval a C.env) :: starEach [b] C.env := by rfl)
    (nb : starEach [b] C.env = (false, eval b C.env) :: starEach [] C.env := by rfl) (hp : (backTo pos2 (starEach [b] C.env)).any (·.1) = false := by rfl) (nr : starEach [.Call (.Name "range" p2) [a, b] [] pos2] C.env = (false, eval (.Call (.Name "range" p2) [a, b] [] pos2) C.env) :: starEach [] C.env := by rfl) :
    DE C X W (.Call (.Name "tuple" p) [.Call (.Name "range" p2) [a, b] [] pos2] [] pos) (bin (rgTD true) oa ob) :=
  PE.imp (pe_tupRg hc hgt hmt (prg_2 hgr hmr ha hb na nb hp) nr) fun _ _ _ h => bin_run (R := fun x y H2 => ∃ i j, x = .int i ∧ y = .int j ∧ RgOk i j ∧ ∀ q, H2 q = none → _) h fun x y H1 q => tupRg2_of q
theorem de_lstRg2 (hc : C.calm = true) (hgt : Gl C "list") (hmt : C.mg "list" = none) (hgr : Gl C "range") (hmr : C.mg "range" = none) (ha : DO C X W a oa) (hb : DO C X W b ob) (na : starEach [a, b] C.env = (false, eval a C.env) :: starEach [b] C.env := by rfl)
    (nb : starEach [b] C.env = (false, eval b C.env) :: starEach [] C.env := by rfl) (hp : (backTo pos2 (starEach [b] C.env)).any (·.1) = false := by rfl) (nr : starEach [.Call (.Name "range" p2) [a, b] [] pos2] C.env = (false, eval (.Call (.Name "range" p2) [a, b] [] pos2) C.env) :: starEach [] C.env := by rfl) :
    DE C X W (.Call (.Name "list" p) [.Call (.Name "range" p2) [a, b] [] pos2] [] pos) (bin (rgTD false) oa ob) :=
  PE.imp (pe_listRg hc hgt hmt (prg_2 hgr hmr ha hb na nb hp) nr) fun _ _ _ h => bin_run (R := fun x y H2 => ∃ i j, x = .int i ∧ y = .int j ∧ RgOk i j ∧ ∀ q, H2 q = none → _) h fun x y H1 q => lstRg2_of q
theorem de_tupRg1 (hc : C.calm = true) (hgt : Gl C "tuple") (hmt : C.mg "tuple" = none) (hgr : Gl C "range") (hmr : C.mg "range" = none) (ha : DO C X W a oa) (na : starEach [a] C.env = (false, eval a C.env) :: starEach [] C.env := by rfl)
    (nr : starEach [.Call (.Name "range" p2) [a] [] pos2] C.env = (false, eval (.Call (.Name "range" p2) [a] [] pos2) C.env) :: starEach [] C.env := by rfl) :
    DE C X W (.Call (.Name "tuple" p) [.Call (.Name "range" p2) [a] [] pos2] [] pos) (una (rgTD1 true) oa) :=
  PE.imp (pe_tupRg hc hgt hmt (prg_1 hgr hmr ha na) nr) fun _ _ _ h => una_run (R := fun x H2 => ∃ n, x = .int n ∧ RgOk 0 n ∧ ∀ q, H2 q = none → _) h fun x H1 q => by
    obtain ⟨n, rfl, q2⟩ := rg1_of q
    obtain ⟨i, j, e1, e2, q⟩ := tupRg2_of q2
    cases e1
    cases e2
    exact ⟨_, rfl, q⟩
theorem de_lstRg1 (hc : C.calm = true) (hgt : Gl C "list") (hmt : C.mg "list" = none) (hgr : Gl C "range") (hmr : C.mg "range" = none) (ha : DO C X W a oa) (na : starEach [a] C.env = (false, eval a C.env) :: starEach [] C.env := by rfl)
    (nr : starEach [.Call (.Name "range" p2) [a] [] pos2] C.env = (false, eval (.Call (.Name "range" p2) [a] [] pos2) C.env) :: starEach [] C.env := by rfl) :
    DE C X W (.Call (.Name "list" p) [.Call (.Name "range" p2) [a] [] pos2] [] pos) (una (rgTD1 false) oa) :=
  PE.imp (pe_listRg hc hgt hmt (prg_1 hgr hmr ha na) nr) fun _ _ _ h => una_run (R := fun x H2 => ∃ n, x = .int n ∧ RgOk 0 n ∧ ∀ q, H2 q = none → _) h fun x H1 q => by
    obtain ⟨n, rfl, q2⟩ := rg1_of q
    obtain ⟨i, j, e1, e2, q⟩ := lstRg2_of q2
    cases e1
    cases e2
    exact ⟨_, rfl, q⟩
end
/-! an own list is written -/
theorem G.write {i : Nat} {a c : Addr} {v w : Val} {o : HO} (g : G X Z F r σ H) (hr : r[i]? = some v) (hv : c ∈ foot H (some (some (.ref a))) v) (ha : σ[i]? = some (some (.ref a))) (hz : Z c = none) (hf : F c = none) (hw : SlotR X.K X.ex.dk Z F (upd H c o) (some (some (.ref a))) w) (hx : ∀ b ∈ foot (upd H c o) (some (some (.ref a))) w, b ∈ foot H (some (some (.ref a))) v := by exact fun _ hb => hb) : G X Z F (r.set i w) σ (upd H c o) := by
  have g0 : G X Z F (r.set i .un) σ H := g.put (w := .un) True.intro rfl
  have oo : ∀ b ∈ foot H (some (some (.ref a))) v, Out H (r.set i .un) σ b := fun b hb => own_out g hr (by rw [ha]; exact hb)
  obtain ⟨⟨o0, h0, w0⟩, _, _⟩ := (g.sl i v hr).at c (by rw [ha]; exact hv)
  obtain ⟨g1, o1⟩ := g0.chg (o := o) hz hf (oo c hv) h0 w0
  exact g1.fill (by rw [ha]; exact hw) fun b hb => o1 b (oo b (hx b (by rw [ha] at hb; exact hb)))
/-- x[i] = v -/
def sPut (i : Nat) (ix : M Val) (m : M Val) : M Fl := fun r => match frz m r with
  | .ok d r1 => match r1[i]? with
    | some (.ol _) => match frz ix r1 with
      | .ok (.int k) r2 => match r2[i]? with
        | some (.ol xs) => match ixN xs.length k with
          | some j => .ok .nx (r2.set i (.ol (xs.set j d)))
          | none => .err
        | _ => .err
      | .ok _ _ => .err
      | .exc c ds r' => .exc c ds r'
      | .err => .err
    | _ => .err
  | .exc c ds r' => .exc c ds r'
  | .err => .err
theorem frzS_run {m : M Val} {Q : VK} (g : G X Z F r σ H) (h : After X W (frz m r) Z F σ fun d r' Z' H' => ∀ x, Rep X.K Z' x d → Q x H') : rdE X W m σ H Q := frz_run g h
theorem ds_put {i : Nat} {x : Str} {ie e : Expr} {ix m : M Val} {p2 p3 : Pos} (hN : C.N[i]? = some x) (hv : Vis C.env.scope x) (hi : DE C X W ie ix) (he : DE C X W e m) (hd : (x == ("__debug__" : Str)) = false := by decide) (hcd : (x == ("__classdict__" : Str)) = false := by decide)
    (ha : ∀ v, assign (.Subscript (.Name x p2) ie p3) C.env v = (do
      let ov ← holding [v] (eval (.Name x p2) C.env)
      let iv ← holding [v, ov] (eval ie C.env)
      standAt p3
      holding [v, ov, iv] (setItem ov iv v)
      release [v, ov, iv] []) := by intro _; rfl)
    (hs : swapsWithSole [.Subscript (.Name x p2) ie p3] e pos.line C.env = pure false := by rfl) (hw : swappedStores [.Subscript (.Name x p2) ie p3] e C.env = pure none := by rfl)
    (h1 : (assignEach [.Subscript (.Name x p2) ie p3] C.env).map (·.2) = [assign (.Subscript (.Name x p2) ie p3) C.env] := by rfl) : DS C X W (.Assign [.Subscript (.Name x p2) ie p3] e pos) (sPut i ix m) :=
  PS.imp (ps_asg he (pg_sub (pe_var hN hv hd hcd) hi set_list ha) hs hw h1) fun D σ H h => by
    obtain ⟨Z, F, r, g, h⟩ := h
    refine frz_run g ?_
    revert h
    unfold sPut
    cases frz m r with
    | exc c ds r' => exact fun h cls d Z' H' x ex g => h cls d σ Z' H' x ex g
    | err => exact fun h => h
    | ok d r1 =>
      simp only
      intro h Z1 H1 ex1 g1 v rv
      revert h
      cases e1 : r1[i]? with
      | none => exact fun h => h.elim
      | some u =>
        cases u with
        | un => exact fun h => h.elim
        | fz d => exact fun h => h.elim
        | od d => exact fun h => h.elim
        | ow d => exact fun h => h.elim
        | ol xs0 =>
          intro h
          obtain ⟨a, vs0, ea, _⟩ := g1.sl i _ e1
          refine ⟨.ref a, ea, frz_run g1 ?_⟩
          revert h
          simp only
          cases frz ix r1 with
          | exc c ds r' => exact fun h cls d Z' H' x ex g => h cls d σ Z' H' x (ex1.trans ex) g
          | err => exact fun h => h
          | ok k r2 =>
            cases k with
            | int k =>
              simp only
              intro h Z2 H2 ex2 g2 y hy
              cases hy
              revert h
              cases e2 : r2[i]? with
              | none => exact fun h => h.elim
              | some u =>
                cases u with
                | un => exact fun h => h.elim
                | fz d => exact fun h => h.elim
                | od d => exact fun h => h.elim
                | ow d => exact fun h => h.elim
                | ol xs =>
                  simp only
                  cases e3 : ixN xs.length k with
                  | none => exact fun h => h.elim
                  | some j =>
                    intro h
                    obtain ⟨a', vs, ea', ha, la, qa, za, fa⟩ := g2.sl i _ e2
                    rw [ea] at ea'
                    cases ea'
                    refine ⟨a, vs, k, j, rfl, rfl, ha, by rw [qa.length]; exact e3, ?_⟩
                    refine h σ Z2 _ (ex1.trans ex2) (g2.write e2 (List.mem_singleton.mpr rfl) ea za fa ?_)
                    exact ⟨a, _, rfl, upd_same, by rw [List.length_set]; exact la, qa.set j (rv.up ex2.1), za, fa⟩
            | _ => exact fun h => h.elim
end
end MS

/-! part i: sum of lists -/
namespace MS
open PySem PySem.Spec PyProof.Rows L2
open Sem (wp)

def flatV : List (List Value) → List Value
  | [] => []
  | x :: xs => x ++ flatV xs
section
variable {prog : Program} {w : World} {A : Around} {R : Result → Shared → Prop}
abbrev lstO (its : List Value) (c : Nat) : Obj := { cls := .type "list", dict := none, data := .seq its.toArray c, slots := #[] }
theorem codeAny_sum_lists {I ax : Addr} {items : Array Value} (hh : A.handled = none) (hne : ax ≠ I) (vs : Nat → List Value) (ca : Nat → Nat) (ad : Nat → Addr) (h0 : Heap) (S : Addr) (hSI : S ≠ I) (hSa : S ≠ ax)
    (hval : ∀ i v, items[i]? = some v → v = .ref (ad i) ∧ h0.get? (ad i) = some (lstO (vs i) (ca i))) (hI0 : h0.get? I = none) (hS0 : h0.get? S = none) :
    ∀ (k i : Nat) (s : Shared) (tl : Addr) (its : List Value) (c cS : Nat), items.size - i = k → i ≤ items.size → (s.heap.IsListIter I ax i ∧ s.heap.IsList ax items) → s.heap.get? S = some { cls := .type "list", dict := none, data := .seq #[.ref tl] cS, slots := #[] } →
    tl ≠ I → tl ≠ S → s.heap.get? tl = some (lstO its c) → (∀ b o, h0.get? b = some o → s.heap.get? b = some o) → its.length + (flatV ((List.range' i k).map vs)).length ≤ sizeLine →
    (∀ h' tk l c', (∀ b o, h0.get? b = some o → h'.get? b = some o) → h'.get? l = some (lstO (its ++ flatV ((List.range' i k).map vs)) c') → ((k = 0 ∧ l = tl) ∨ (h0.get? l = none ∧ S < l)) → R (.ok (.ret (.ref l))) { s with heap := h', toks := tk }) →
    codeAny (model prog w) A (.builtin "sum.loop" ⟨[.ref I, .ref S, rawInt 2, rawInt 0], []⟩) R s := by
  have W := Walks.list (prog := prog) (w := w) (A := A.in1) hh I ax hne items
  have hSf : S ∉ [I, ax] := by simp [hSI, hSa]
  intro k
  induction k with
  | zero =>
    intro i s tl its c cS hk hi hst hS hlI hlS htl hkeep hsz hR
    have hin : i = items.size := by omega
    subst hin
    refine codeAny_builtin F.entry_sum_loop ?_
    rw [Around.under_plainId F.plain_sum_loop _]
    show wpAny _ A.in1 (seqItems? (.ref S) >>= _) _ _ s
    refine wpAny_bind (wpAny_seqItems hS rfl ?_)
    show wpAny _ A.in1 (tryCatch (pyNext (.ref I)) _ >>= _) _ _ s
    refine wpAny_bind (wpAny_tryCatch (W.done s _ _ hst fun h' tk hk' => ?_))
    refine wpAny_pure (hR h' tk tl c (fun b o e => hk' b o (fun q => ?_) (hkeep b o e)) ?_ (.inl ⟨rfl, rfl⟩))
    · rw [List.mem_singleton.mp q, hI0] at e; cases e
    · rw [List.range'_zero, List.map_nil]
      show _ = some (lstO (its ++ []) c)
      rw [List.append_nil]
      exact hk' tl _ (fun q => hlI (List.mem_singleton.mp q)) htl
  | succ k ih =>
    intro i s tl its c cS hk hi hst hS hlI hlS htl hkeep hsz hR
    have hlt : i < items.size := by omega
    refine codeAny_builtin F.entry_sum_loop ?_
    rw [Around.under_plainId F.plain_sum_loop _]
    show wpAny _ A.in1 (seqItems? (.ref S) >>= _) _ _ s
    refine wpAny_bind (wpAny_seqItems hS rfl ?_)
    show wpAny _ A.in1 (tryCatch (pyNext (.ref I)) _ >>= _) _ _ s
    refine wpAny_bind (wpAny_tryCatch (W.item i s _ _ hlt hst fun v h' tk hP hst' hk' => ?_))
    obtain ⟨rfl, hv⟩ := hval i v hP
    have keep' : ∀ b o, b ≠ I → s.heap.get? b = some o → h'.get? b = some o := fun b o hb e => hk' b o (fun q => hb (List.mem_singleton.mp q)) e
    have hS' := keep' S _ hSI hS
    have hneI : ∀ {b o}, h0.get? b = some o → b ≠ I := fun e q => by rw [q, hI0] at e; cases e
    have hneS : ∀ {b o}, h0.get? b = some o → b ≠ S := fun e q => by rw [q, hS0] at e; cases e
    have hv' := keep' _ _ (hneI hv) (hkeep _ _ hv)
    have htl' := keep' _ _ hlI htl
    rw [List.range'_succ, List.map_cons] at hsz hR
    simp only [flatV, List.length_append] at hsz
    show wpAny _ A.in1 ((holding [Value.ref (ad i)] (binaryOp .Add (.ref tl) (.ref (ad i)))).attempt >>= _) _ _ _
    refine wpAny_bind (wpAny_attempt (wpAny_holding (PySem.P.add_list htl' hv' ?_ (by simp only [List.size_toArray]; omega))))
    have ea : its.toArray ++ (vs i).toArray = (its ++ vs i).toArray := by simp
    rw [ea]
    generalize hp : h'.objs.size = p
    have pS : S < p := by rw [← hp]; exact Heap.lt_size hS'
    have pI : p ≠ I := by
      obtain ⟨oI, eI, _⟩ := hst'.1
      have := Heap.lt_size eI
      rw [hp] at this
      exact Nat.ne_of_gt this
    have hS2 : (h'.push (lstO (its ++ vs i) 0)).get? S = some { cls := .type "list", dict := none, data := .seq #[.ref tl] cS, slots := #[] } := Heap.get?_push_of_some _ hS'
    show wpAny _ A.in1 (updateSeq S (fun _ => #[.ref p]) >>= _) _ _ _
    refine wpAny_bind ?_
    refine wpAny_updateSeq hS2 rfl ?_
    have hS3 := Heap.get?_update_self (Obj.mapSeq fun _ => #[Value.ref p]) hS2 rfl
    refine wpAny_bind (wpAny_letGo ?_)
    refine wpAny_bind ?_
    have far : ∀ b o, b ≠ S → h'.get? b = some o → (((h'.push (lstO (its ++ vs i) 0)).update S (Obj.mapSeq fun _ => #[Value.ref p])).update S (Obj.mapSeq fun _ => #[Value.ref p])).get? b = some o := fun b o hb e =>
      (Heap.get?_update_other _ _ (Ne.symm hb)).trans ((Heap.get?_update_other _ _ (Ne.symm hb)).trans (Heap.get?_push_of_some _ e))
    refine wpAny_updateSeq hS3 rfl (wpAny_pure ⟨plainId_quiet F.plain_sum_loop _, ih (i + 1) _ p (its ++ vs i) 0 _ (by omega) hlt (W.frame _ _ _ hst' fun b hb o e => ?_) (Heap.get?_update_self _ hS3 rfl) pI (Nat.ne_of_gt pS) ?_ (fun b o e => ?_) (by rw [List.length_append]; omega) fun h'' tk'' l c'' hk'' hl hor => ?_⟩)
    · exact far b o (fun q => hSf (by rw [← q]; exact hb)) e
    · refine (Heap.get?_update_other _ _ (Nat.ne_of_lt pS)).trans ((Heap.get?_update_other _ _ (Nat.ne_of_lt pS)).trans ?_)
      rw [← hp]
      exact Heap.get?_push_size _ rfl
    · exact far b o (hneS e) (keep' b o (hneI e) (hkeep b o e))
    · refine hR h'' tk'' l c'' hk'' ?_ (.inr ?_)
      · rw [hl]
        simp only [flatV, List.append_assoc]
      · rcases hor with ⟨_, rfl⟩ | q
        · refine ⟨?_, pS⟩
          cases e : h0.get? l with
          | none => rfl
          | some o =>
            have e2 := keep' l o (hneI e) (hkeep l o e)
            have := Heap.lt_size e2
            rw [hp] at this
            exact absurd this (Nat.lt_irrefl _)
        · exact q

end
section
variable {prog : Program} {w : World} {A : Around} {E : Value → Shared → Prop} {s : Shared}
theorem sum_start (b : Addr) : Builtin.Builtins.bindParams "sum" ["start"] 0 ⟨[], [(Str.ofString "start", .ref b)]⟩ = pure [some (.ref b)] := by rfl
theorem args_sum_start (a b : Value) : argsOk "sum" ⟨[a], [(Str.ofString "start", b)]⟩ := by unfold argsOk; kernel_rfl
theorem call_sum_lists {a b : Addr} {items : Array Value} {its : List Value} {c : Nat} {Q : Value → Shared → Prop} (hh : A.handled = none) (vs : Nat → List Value) (ca : Nat → Nat) (ad : Nat → Addr) (hl : s.heap.IsList a items) (hb : s.heap.get? b = some (lstO its c))
    (hval : ∀ i v, items[i]? = some v → v = .ref (ad i) ∧ s.heap.get? (ad i) = some (lstO (vs i) (ca i))) (hsz : its.length + (flatV ((List.range' 0 items.size).map vs)).length ≤ sizeLine)
    (h : ∀ h' tk l c', (∀ b o, s.heap.get? b = some o → h'.get? b = some o) → h'.get? l = some (lstO (its ++ flatV ((List.range' 0 items.size).map vs)) c') → ((items.size = 0 ∧ l = b) ∨ s.heap.objs.size ≤ l) → Q (.ref l) { s with heap := h', toks := tk }) :
    wpAny (model prog w) A (call (.builtin "sum") [.ref a] [(Str.ofString "start", .ref b)]) Q E s := by
  refine kmk_tree F.kind_sum F.plain_sum F.entry_sum (args_sum_start _ _) ?_
  unfold Builtin.«sum»
  simp only [List.length_cons, List.length_nil]
  rw [if_neg (by decide)]
  refine wpAny_bind (wpAny_of_eq (sum_start b) ?_)
  have la : a < s.heap.objs.size := by obtain ⟨_, e, _⟩ := hl; exact Heap.lt_size e
  refine wpAny_bind (wpAny_pyIter_list hl ?_)
  refine wpAny_bind (wpAny_pure ?_)
  simp only [List.forIn_cons, List.forIn_nil]
  have hb2 : (s.heap.push { cls := .type "list_iterator", data := .fields #[.ref a, .int 0 0] }).get? b = some (lstO its c) := Heap.get?_push_of_some _ hb
  have ty : ({ s with heap := s.heap.push { cls := .type "list_iterator", data := .fields #[.ref a, .int 0 0] } } : Shared).TypeIs (.ref b) "list" := ⟨_, hb2, rfl⟩
  refine wpAny_bind (wpAny_bind (wpAny_bind (wpAny_isInstance (T := "list") (b := false) ty F.sub_list_str ?_)))
  simp only [Bool.false_eq_true, if_false]
  refine wpAny_pure (wpAny_bind (wpAny_bind (wpAny_isInstance (T := "list") (b := false) ty F.sub_list_bytes ?_)))
  simp only [Bool.false_eq_true, if_false]
  refine wpAny_pure (wpAny_bind (wpAny_bind (wpAny_isInstance (T := "list") (b := false) ty F.sub_list_bytearray ?_)))
  simp only [Bool.false_eq_true, if_false]
  refine wpAny_pure (wpAny_pure ?_)
  refine wpAny_bind (wpAny_newObj_type ?_)
  have lb : b < s.heap.objs.size := Heap.lt_size hb
  have sz1 : (s.heap.push { cls := .type "list_iterator", data := .fields #[.ref a, .int 0 0] }).objs.size = s.heap.objs.size + 1 := by simp [Heap.push]
  refine wpAny_pure ⟨plainId_quiet F.plain_sum_loop _, codeAny_sum_lists (h0 := s.heap) hh (Nat.ne_of_lt la) vs ca ad (s.heap.push { cls := .type "list_iterator", data := .fields #[.ref a, .int 0 0] }).objs.size ?_ ?_ hval (Heap.get?_none_of_le (Nat.le_refl _)) (Heap.get?_none_of_le (by rw [sz1]; exact Nat.le_succ _)) items.size 0 _ b its c 0 rfl (Nat.zero_le _) ⟨?_, ?_⟩ (Heap.get?_push_size _ rfl) (Nat.ne_of_lt lb) ?_ (Heap.get?_push_of_some _ hb2) (fun b o e => Heap.get?_push_of_some _ (Heap.get?_push_of_some _ e)) hsz fun h' tk l c' hk hl' hor => ?_⟩
  · rw [sz1]; exact Nat.succ_ne_self _
  · rw [sz1]; exact Nat.ne_of_gt (Nat.lt_succ_of_lt la)
  · exact ⟨_, Heap.get?_push_of_some _ (Heap.get?_push_size _ rfl), rfl, rfl⟩
  · obtain ⟨o, e, r⟩ := hl
    exact ⟨o, Heap.get?_push_of_some _ (Heap.get?_push_of_some _ e), r⟩
  · rw [sz1]; exact Nat.ne_of_lt (Nat.lt_succ_of_lt lb)
  · refine h h' tk l c' hk hl' ?_
    rcases hor with q | ⟨_, q⟩
    · exact .inl q
    · rw [sz1] at q
      exact .inr (Nat.le_of_lt (Nat.lt_of_succ_lt q))
end

/-! ### the rule -/
def flatD : List D → Option (List D)
  | [] => some []
  | .list x :: r => (flatD r).map (x ++ ·)
  | _ => none
section
variable {C : Cx} {X : Fx} {W : WX} {Z H : Hp} {σ : L2.St} {pins : List (Addr × Obj)} {s : Shared}
theorem Vals.app : ∀ {a b : List V} {u v : List Value}, Vals a u → Vals b v → Vals (a ++ b) (u ++ v)
  | _, _, _, _, .nil, h => h
  | _, _, _, _, .cons r t, h => .cons r (Vals.app t h)
theorem tab_of (I : Inv C pins σ H s) (z : Same Z H) : ∀ (xss : List D) (vs : List V) (us : List Value) (ys : List D), Reps C.K Z vs xss → Vals vs us → flatD xss = some ys →
    ∃ (tab : List (Addr × List Value × Nat)) (ws : List V), us = tab.map (fun p => Value.ref p.1) ∧ (∀ p ∈ tab, s.heap.get? p.1 = some (lstO p.2.1 p.2.2)) ∧ Reps C.K Z ws ys ∧ Vals ws (flatV (tab.map fun p => p.2.1))
  | [], _, _, _, .nil, .nil, h => by
    cases h
    exact ⟨[], [], rfl, fun p hp => absurd hp (by simp), .nil, .nil⟩
  | .list x :: xss, v :: vs, u :: us, ys, .cons r q, .cons rv t, h => by
    simp only [flatD] at h
    obtain ⟨ys', h', rfl⟩ := Option.map_eq_some_iff.mp h
    obtain ⟨tab, ws, rfl, h1, h2, h3⟩ := tab_of I z xss vs us ys' q t h'
    cases r with
    | lst r1 l q1 =>
      cases rv
      obtain ⟨its, n, rv2, _, e⟩ := inv_rdL I (LiL.same z r1)
      refine ⟨(_, its, n) :: tab, _ ++ ws, rfl, fun p hp => ?_, q1.append h2, Vals.app rv2 h3⟩
      rcases List.mem_cons.mp hp with rfl | hp
      · exact e
      · exact h1 p hp
  | .none :: _, _ :: _, _, _, _, _, h => by cases h
  | .bool _ :: _, _ :: _, _, _, _, _, h => by cases h
  | .int _ :: _, _ :: _, _, _, _, _, h => by cases h
  | .str _ :: _, _ :: _, _, _, _, _, h => by cases h
  | .tuple _ :: _, _ :: _, _, _, _, _, h => by cases h
  | .dict _ :: _, _ :: _, _, _, _, _, h => by cases h
def rSumS (K : PySem.W.Frag) : List V → List V → Hp → VK → Prop := fun xs zs H Q => ∃ Z a b vs xss ys, xs = [.ref a] ∧ zs = [.ref b] ∧ Same Z H ∧ LiL K H a vs ∧ Reps K Z vs xss ∧ flatD xss = some ys ∧ ys.length ≤ sizeLine ∧ LiL K H b [] ∧
  (ys = [] → Q (.ref b) H) ∧ ∀ ws p, Reps K Z ws ys → H p = none → Q (.ref p) (upd H p (.lst ws))
theorem range_tab (tab : List (Addr × List Value × Nat)) : ∀ (pre : List (Addr × List Value × Nat)), (List.range' pre.length tab.length).map (fun i => ((pre ++ tab).getD i (0, [], 0)).2.1) = tab.map fun p => p.2.1 := by
  induction tab with
  | nil => intro pre; rfl
  | cons t tab ih =>
    intro pre
    rw [List.length_cons, List.range'_succ, List.map_cons, List.map_cons]
    have e1 : ((pre ++ t :: tab).getD pre.length (0, [], 0)) = t := by
      rw [List.getD_eq_getElem?_getD, List.getElem?_append_right (Nat.le_refl _), Nat.sub_self]
      rfl
    rw [e1]
    have := ih (pre ++ [t])
    rw [List.length_append, List.length_singleton, List.append_assoc, List.singleton_append] at this
    rw [this]
theorem cr_sumS (hc : C.calm = true) : CallRK C (.builtin "sum") [Str.ofString "start"] (rSumS C.K) := by
  intro pins s σ H xs zs us ws Q I rx rz ⟨Z, a, b, vs, xss, ys, ex, ez, z, ra, q, hf, hl, rb, h0, h1⟩
  subst ex ez
  have hd : C.A.handled = none := I.ok.hd hc
  rw [Vals.ref1 rx, Vals.ref1 rz]
  obtain ⟨its, n, rv, _, ea⟩ := inv_rdL I ra
  obtain ⟨itb, nb, rvb, _, eb⟩ := inv_rdL I rb
  cases rvb
  obtain ⟨tab, wl, rfl, t1, t2, t3⟩ := tab_of I z xss vs its ys q rv hf
  have isz : (tab.map fun p => Value.ref p.1).toArray.size = tab.length := by simp
  have rt := range_tab tab []
  rw [List.length_nil, List.nil_append] at rt
  have fl : (flatV (tab.map fun p => p.2.1)).length = ys.length := by rw [← t3.length, t2.length]
  refine call_sum_lists (its := []) (c := nb) hd (fun i => (tab.getD i (0, [], 0)).2.1) (fun i => (tab.getD i (0, [], 0)).2.2) (fun i => (tab.getD i (0, [], 0)).1) ⟨_, ea, rfl, _, rfl⟩ eb (fun i v hv => ?_) ?_ fun h' tk l c' hk hl' hor => ?_
  · rw [List.getElem?_toArray, List.getElem?_map] at hv
    obtain ⟨p, e1, rfl⟩ := Option.map_eq_some_iff.mp hv
    have e2 : tab.getD i (0, [], 0) = p := by rw [List.getD_eq_getElem?_getD, e1]; rfl
    rw [e2]
    exact ⟨rfl, t1 p (List.mem_of_getElem? e1)⟩
  · rw [isz, rt, fl]
    simpa using hl
  · rw [isz, rt] at hl'
    rcases hor with ⟨e0, rfl⟩ | hge
    · rw [isz] at e0
      obtain rfl := List.length_eq_zero_iff.mp e0
      have : ys = [] := by
        have := fl
        simpa [flatV] using this.symm
      exact ⟨.ref _, H, I.kept hk, rfl, h0 this⟩
    · refine ⟨.ref l, _, I.laid (a := l) hk hge (show ObjOk C.prog C.w _ h' l (.lst wl) from ⟨by rw [t2.length]; exact hl, _, c', t3, hl'⟩), rfl, h1 wl l t2 (I.hok.fresh hge)⟩
def sumLD : List D → Option (List D)
  | [.list xss] => (flatD xss).bind fun ys => if ys.length ≤ LINE then some ys else none
  | _ => none
/-- sum(m, start=[]) -/
def eSumL (m : M Val) : M Val := M.bind (vals [m]) fun ds => fun r => match sumLD ds with
  | some ys => .ok (.ol ys) r
  | none => .err
theorem de_sumL {e : Expr} {m : M Val} {p pos p2 p3 : Pos} (hc : C.calm = true) (hg : Gl C "sum") (hm : C.mg "sum" = none) (he : DE C X W e m) (hv : bootBuiltins "sum" = some (.builtin "sum") := by decide +kernel)
    (he1 : starEach [e] C.env = (false, eval e C.env) :: starEach [] C.env := by rfl)
    (hb : backTo pos (starEach [e] C.env) = (false, eval e C.env) :: backTo pos (starEach [] C.env) := by rfl) (hpl : (backTo pos (starEach [e] C.env)).any (·.1) = false := by rfl)
    (hall : (backToKw pos (keywordEach [⟨some "start", .List [] p2, p3⟩] C.env)).all (·.1.isSome) = true := by rfl) (hnone : (backToKw pos (keywordEach [⟨some "start", .List [] p2, p3⟩] C.env)).any (·.1.isNone) = false := by rfl) (hks : (backToKw pos (keywordEach [⟨some "start", .List [] p2, p3⟩] C.env)).filterMap (·.1) = [Str.ofString "start"] := by rfl)
    (hK : X.K = C.K := by rfl) : DE C X W (.Call (.Name "sum" p) [e] [⟨some "start", .List [] p2, p3⟩] pos) (eSumL m) := by
  refine PE.imp (pe_callBK (cr_sumS hc) hg hm hv (dvs_cons he dvs_nil he1) (pk_cons (de_lst (X := X) (W := W) (ms := []) dvs_nil) pk_nil) (by decide) (by decide) hb hpl hall hnone hks) fun σ H Q h => ?_
  refine vs_run h fun ds Z F H r xs ln g rs h' => ?_
  revert h'
  cases e1 : sumLD ds with
  | none => exact fun h => h.elim
  | some ys =>
    intro h'
    refine ⟨Z, F, r, g, fun Z2 H2 ex2 g2 b rvb => ?_⟩
    unfold sumLD at e1
    split at e1
    · rename_i xss
      obtain ⟨ys', e2, e3⟩ := Option.bind_eq_some_iff.mp e1
      split at e3
      · rename_i hl
        cases e3
        obtain ⟨bb, vs0, rfl, hb1, _, qb, zb, fb, db⟩ := rvb
        cases qb
        cases rs with
        | cons r1 r2 =>
          cases r2
          cases r1 with
          | lst r1 l q =>
            have q' := q.up ex2.1
            rw [hK] at q'
            refine ⟨Z2, _, bb, _, xss, ys, rfl, rfl, g2.zh, by rw [← hK]; exact LiL.same (ex2.1.trans g2.zh) r1, q', e2, by rw [line_eq]; exact hl, .inl (.inl hb1), fun h0 => ?_, fun ws p rw' np => ?_⟩
            · subst h0
              exact h' Z2 H2 ex2 g2 _ ⟨bb, [], rfl, hb1, Nat.zero_le _, .nil, zb, fb, db⟩
            · refine Fresh.lst (Fresh.of (v := .ol ys) g2 fun Z3 H3 ex3 g3 x rv => h' Z3 H3 (ex2.trans ex3) g3 x rv) g2.zh ?_ ?_ p np
              · rw [hK]; exact rw'
              · rw [rw'.length, line_eq]; exact hl
      · cases e3
    · cases e1
end
end MS

/-! part j: list(x), zip, enumerate, sorted -/
namespace MS
open PySem PySem.Spec PyProof.Rows L2
section
variable {C : Cx} {X : Fx} {W : WX} {Z F H : Hp} {r : List Val} {σ : L2.St} {e : Expr} {pos : Pos}
def listV : List D → Option Val
  | [.list ds] => some (.ol ds)
  | [.tuple ds] => some (.ol ds)
  | _ => none
theorem call_listV : CallR C (.type "list") (rApp C.K listV) := call_by fun ds v xs H Z Q hf hz hx fr => by
  unfold listV at hf
  split at hf
  · cases hf
    obtain ⟨x, rfl, a, vs, rfl, r1, l, q⟩ := RepHs.one hx
    exact ⟨_, call_list_of, a, vs, rfl, .inl (LiL.sq r1), fr.lst hz q l⟩
  · cases hf
    obtain ⟨x, ex, hx1⟩ := RepHs.one hx
    subst ex
    cases hx1 with
    | tup s1 l q => exact ⟨_, call_list_of, _, _, rfl, .inr (SqT.at hz s1), fr.lst hz q l⟩
  · cases hf
/-! zip, enumerate in a loop -/
def zipD : List D → List D → List D
  | x :: xs, y :: ys => .tuple [x, y] :: zipD xs ys
  | _, _ => []
def enumD (i : Int) : List D → List D
  | [] => []
  | x :: xs => .tuple [.int i, x] :: enumD (i + 1) xs
def zipsD : List D → Option (List D)
  | [.list a, .list b] => some (zipD a b)
  | [.tuple a, .tuple b] => some (zipD a b)
  | _ => none
def enumsD : List D → Option (List D)
  | [.list a] => some (enumD 0 a)
  | _ => none
def iApp (f : List D → Option (List D)) (ms : List (M Val)) : M (List D) := M.bind (vals ms) fun ds => fun r => match f ds with
  | some ys => .ok ys r
  | none => .err
theorem zip_len : ∀ a b : List D, (zipD a b).length = min a.length b.length
  | [], _ => by simp [zipD]
  | _ :: _, [] => by simp [zipD]
  | x :: a, y :: b => by simp only [zipD, List.length_cons, zip_len a b]; omega
theorem zip_get : ∀ {a b : List D} {i : Nat} {d : D}, (zipD a b)[i]? = some d → ∃ x y, d = .tuple [x, y] ∧ a[i]? = some x ∧ b[i]? = some y
  | [], _, i, d, h => by simp [zipD] at h
  | _ :: _, [], i, d, h => by simp [zipD] at h
  | x :: a, y :: b, 0, d, h => by cases h; exact ⟨x, y, rfl, rfl, rfl⟩
  | x :: a, y :: b, i + 1, d, h => by
    simp only [zipD, List.getElem?_cons_succ] at h ⊢
    exact zip_get h
theorem enum_len : ∀ (a : List D) (i : Int), (enumD i a).length = a.length
  | [], _ => rfl
  | x :: a, i => by simp only [enumD, List.length_cons, enum_len a]
theorem enum_get : ∀ {a : List D} {k : Int} {i : Nat} {d : D}, (enumD k a)[i]? = some d → ∃ x, d = .tuple [.int (k + i), x] ∧ a[i]? = some x
  | [], k, i, d, h => by simp [enumD] at h
  | x :: a, k, 0, d, h => by cases h; exact ⟨x, by simp, rfl⟩
  | x :: a, k, i + 1, d, h => by
    simp only [enumD, List.getElem?_cons_succ] at h ⊢
    obtain ⟨y, e1, e2⟩ := enum_get h
    exact ⟨y, by rw [e1]; congr 3; push_cast; omega, e2⟩
/-- a pair new at each turn -/
theorem pair_new {K : PySem.W.Frag} {Z1 H1 : Hp} {T : Addr} {x y : V} {d e : D} (s : Same Z1 H1) (n : H1 T = none) (hx : Rep K Z1 x d) (hy : Rep K Z1 y e) : Same H1 (upd H1 T (.tup [x, y])) ∧ ∃ Z2, Grown Z1 Z2 H1 ∧ Same Z2 (upd H1 T (.tup [x, y])) ∧ Rep K Z2 (.ref T) (.tuple [d, e]) := by
  refine ⟨Same.upd n, upd Z1 T (.tup [x, y]), grown_new s n, same_both s n, ?_⟩
  have u := (grown_new (o := .tup [x, y]) s n).1
  exact .tup upd_same (by show 2 ≤ sizeLine; decide) (.cons (hx.up u) (.cons (hy.up u) .nil))
theorem iter_zipL {K : PySem.W.Frag} {a b : Addr} {vs ws : List V} {ds es : List D} (hK : X.K = K) (h1 : LiL X.K Z a vs) (q1 : Reps X.K Z vs ds) (h2 : LiL X.K Z b ws) (q2 : Reps X.K Z ws es) : IterOk X Z (Itz K a b) (zipD ds es) := by
  subst hK
  intro Z1 H1 s1 s2 i
  have ha : SqL X.K H1 a vs := LiL.sq (LiL.same (s1.trans s2) h1)
  have hb : SqL X.K H1 b ws := LiL.sq (LiL.same (s1.trans s2) h2)
  have l1 := q1.length
  have l2 := q2.length
  refine ⟨fun hi => ?_, fun hi => ?_, fun d hd x H2 y => ?_⟩
  · rw [zip_len] at hi
    exact ⟨vs, ws, vs[i]'(by omega), ws[i]'(by omega), ha, hb, List.getElem?_eq_getElem _, List.getElem?_eq_getElem _⟩
  · rw [zip_len] at hi
    exact ⟨vs, ws, ha, hb, by omega⟩
  · obtain ⟨T, v, w, rfl, nT, rfl, yv, yw⟩ := y
    obtain ⟨d1, d2, rfl, g1, g2⟩ := zip_get hd
    obtain ⟨v', e1, r1⟩ := q1.get g1
    obtain ⟨w', e2, r2⟩ := q2.get g2
    have := yv vs ha
    rw [e1] at this
    cases this
    have := yw ws hb
    rw [e2] at this
    cases this
    exact pair_new s2 nT (r1.up s1) (r2.up s1)
theorem iter_zipT {K : PySem.W.Frag} {a b : Addr} {vs ws : List V} {ds es : List D} (hK : X.K = K) (h1 : SqT X.K Z a vs) (q1 : Reps X.K Z vs ds) (h2 : SqT X.K Z b ws) (q2 : Reps X.K Z ws es) : IterOk X Z (RZ.ItzT K a b) (zipD ds es) := by
  subst hK
  intro Z1 H1 s1 s2 i
  have ha : SqT X.K H1 a vs := SqT.same (s1.trans s2) h1
  have hb : SqT X.K H1 b ws := SqT.same (s1.trans s2) h2
  have l1 := q1.length
  have l2 := q2.length
  refine ⟨fun hi => ?_, fun hi => ?_, fun d hd x H2 y => ?_⟩
  · rw [zip_len] at hi
    exact ⟨vs, ws, vs[i]'(by omega), ws[i]'(by omega), ha, hb, List.getElem?_eq_getElem _, List.getElem?_eq_getElem _⟩
  · rw [zip_len] at hi
    exact ⟨vs, ws, ha, hb, by omega⟩
  · obtain ⟨T, v, w, rfl, nT, rfl, yv, yw⟩ := y
    obtain ⟨d1, d2, rfl, g1, g2⟩ := zip_get hd
    obtain ⟨v', e1, r1⟩ := q1.get g1
    obtain ⟨w', e2, r2⟩ := q2.get g2
    have := yv vs ha
    rw [e1] at this
    cases this
    have := yw ws hb
    rw [e2] at this
    cases this
    exact pair_new s2 nT (r1.up s1) (r2.up s1)
theorem iter_enum {K : PySem.W.Frag} {a : Addr} {vs : List V} {ds : List D} (hK : X.K = K) (h1 : LiL X.K Z a vs) (q1 : Reps X.K Z vs ds) : IterOk X Z (Ite K a) (enumD 0 ds) := by
  subst hK
  intro Z1 H1 s1 s2 i
  have ha : SqL X.K H1 a vs := LiL.sq (LiL.same (s1.trans s2) h1)
  have l1 := q1.length
  refine ⟨fun hi => ?_, fun hi => ?_, fun d hd x H2 y => ?_⟩
  · rw [enum_len] at hi
    exact ⟨vs, vs[i]'(by omega), ha, List.getElem?_eq_getElem _⟩
  · rw [enum_len] at hi
    exact ⟨vs, ha, by omega⟩
  · obtain ⟨T, v, rfl, nT, rfl, yv⟩ := y
    obtain ⟨d1, rfl, g1⟩ := enum_get hd
    obtain ⟨v', e1, r1⟩ := q1.get g1
    have := yv vs ha
    rw [e1] at this
    cases this
    have e0 : (0 : Int) + (i : Int) = (i : Int) := by omega
    rw [e0]
    exact pair_new s2 nT (.int _) (r1.up s1)
theorem vsI_run {ms : List (M Val)} {k : List D → M (List D)} {R : It → Hp → Prop} {t : List V → Hp → Prop} (h : rdI X W (M.bind (vals ms) k) σ H R) (hk : ∀ (ds : List D) (Z F H : Hp) (r : List Val) (xs : List V), G X Z F r σ H → Reps X.K Z xs ds → After X W (k ds r) Z F σ (fun items r' Z' H' => ∀ J, IterOk X Z' J items → R J H') → t xs H) : rdVs X W ms σ H t := by
  obtain ⟨Z, F, r, g, h⟩ := h
  exact ⟨Z, F, r, g, (bind_run h).imp fun ds r' Z' H' ex g' h' xs rs => hk ds Z' F H' r' xs g' rs h'⟩
theorem di_zip {e2 : Expr} {ms : List (M Val)} {p tpos : Pos} {elts : List Expr} {kk : Nat} (hg : Gl C "zip") (hm : C.mg "zip" = none) (ha : DVs C X W [e, e2] ms)
    (hs : starEach [e, e2] C.env = (false, eval e C.env) :: starEach [e2] C.env := by rfl) (hpl : (backTo pos (starEach [e2] C.env)).any (·.1) = false := by rfl) (hK : X.K = C.K := by rfl) : DI C X W (.Tuple elts kk tpos) (.Call (.Name "zip" p) [e, e2] [] pos) (iApp zipsD ms) :=
  PI.imp (RZ.pi_zipA hg hm ha hs hpl) fun σ H R h => vsI_run h fun ds Z F H r xs g rs h' => by
    revert h'
    cases e1 : zipsD ds with
    | none => exact fun h => h.elim
    | some ys =>
      intro h'
      unfold zipsD at e1
      split at e1
      · cases e1
        cases rs with
        | cons r1 rs =>
          cases rs with
          | cons r2 rs =>
            cases rs
            cases r1 with
            | lst a1 l1 q1 =>
              cases r2 with
              | lst a2 l2 q2 => exact ⟨_, _, _, _, rfl, .inl ⟨by rw [← hK]; exact LiL.sq (LiL.same g.zh a1), by rw [← hK]; exact LiL.sq (LiL.same g.zh a2), h' Z H (Ext.refl _ _) g _ (iter_zipL hK a1 q1 a2 q2)⟩⟩
      · cases e1
        cases rs with
        | cons r1 rs =>
          cases rs with
          | cons r2 rs =>
            cases rs
            cases r1 with
            | tup a1 l1 q1 =>
              cases r2 with
              | tup a2 l2 q2 => exact ⟨_, _, _, _, rfl, .inr ⟨by rw [← hK]; exact SqT.at g.zh a1, by rw [← hK]; exact SqT.at g.zh a2, h' Z H (Ext.refl _ _) g _ (iter_zipT hK (.inl (.inl a1)) q1 (.inl (.inl a2)) q2)⟩⟩
      · cases e1
theorem di_enum {ms : List (M Val)} {p tpos : Pos} {elts : List Expr} {kk : Nat} (hg : Gl C "enumerate") (hm : C.mg "enumerate" = none) (ha : DVs C X W [e] ms)
    (hs : starEach [e] C.env = [(false, eval e C.env)] := by rfl) (hK : X.K = C.K := by rfl) : DI C X W (.Tuple elts kk tpos) (.Call (.Name "enumerate" p) [e] [] pos) (iApp enumsD ms) :=
  PI.imp (pi_enum hg hm ha hs) fun σ H R h => vsI_run h fun ds Z F H r xs g rs h' => by
    revert h'
    cases e1 : enumsD ds with
    | none => exact fun h => h.elim
    | some ys =>
      intro h'
      unfold enumsD at e1
      split at e1
      · cases e1
        cases rs with
        | cons r1 rs =>
          cases rs
          cases r1 with
          | lst a1 l1 q1 => exact ⟨_, _, rfl, by rw [← hK]; exact LiL.sq (LiL.same g.zh a1), h' Z H (Ext.refl _ _) g _ (iter_enum hK a1 q1)⟩
      · cases e1
end
end MS

/-! part k: sorted -/
namespace MS
open PySem PySem.Spec PyProof.Rows L2
def leL : List Int → List Int → Bool
  | [], _ => true
  | _ :: _, [] => false
  | x :: xs, y :: ys => if x = y then leL xs ys else decide (x < y)
theorem leL_eq : ∀ xs ys : List Int, leL xs ys = decide (xs ≤ ys)
  | [], ys => by simp [leL]
  | x :: xs, [] => by simp [leL]
  | x :: xs, y :: ys => by
    have ih := leL_eq xs ys
    have e : (x :: xs ≤ y :: ys) ↔ (x < y ∨ (x = y ∧ xs ≤ ys)) := List.cons_le_cons_iff
    unfold leL
    by_cases h : x = y
    · rw [if_pos h, ih]
      have : (x :: xs ≤ y :: ys) ↔ xs ≤ ys := by rw [e]; constructor
                                                 · rintro (q | ⟨_, q⟩)
                                                   · omega
                                                   · exact q
                                                 · exact fun q => .inr ⟨h, q⟩
      exact decide_eq_decide.mpr this.symm
    · rw [if_neg h]
      have : (x :: xs ≤ y :: ys) ↔ x < y := by rw [e]; constructor
                                               · rintro (q | ⟨q, _⟩)
                                                 · exact q
                                                 · exact absurd q h
                                               · exact fun q => .inl q
      exact decide_eq_decide.mpr this.symm
section
variable {α : Type}
def ins (le : α → α → Bool) (x : α) : List α → List α
  | [] => [x]
  | y :: ys => if le x y = true then x :: y :: ys else y :: ins le x ys
def isort (le : α → α → Bool) : List α → List α
  | [] => []
  | x :: xs => ins le x (isort le xs)
variable {le : α → α → Bool}
theorem ins_perm (x : α) : ∀ l : List α, (ins le x l).Perm (x :: l)
  | [] => .refl _
  | y :: ys => by
    unfold ins
    split
    · exact .refl _
    · exact ((ins_perm x ys).cons y).trans (.swap x y ys)
theorem isort_perm : ∀ l : List α, (isort le l).Perm l
  | [] => .refl _
  | x :: xs => (ins_perm x _).trans ((isort_perm xs).cons x)
theorem ins_pair (tr : ∀ a b c, le a b = true → le b c = true → le a c = true) (to : ∀ a b, (le a b || le b a) = true) (x : α) : ∀ l : List α, l.Pairwise (fun a b => le a b = true) → (ins le x l).Pairwise (fun a b => le a b = true)
  | [], _ => by simp [ins]
  | y :: ys, h => by
    unfold ins
    obtain ⟨h1, h2⟩ := List.pairwise_cons.mp h
    split
    · rename_i c
      refine List.pairwise_cons.mpr ⟨fun z hz => ?_, h⟩
      rcases List.mem_cons.mp hz with rfl | hz
      · exact c
      · exact tr _ _ _ c (h1 z hz)
    · rename_i c
      refine List.pairwise_cons.mpr ⟨fun z hz => ?_, ins_pair tr to x ys h2⟩
      rcases List.mem_cons.mp ((ins_perm x ys).mem_iff.mp hz) with rfl | hz
      · have := to z y
        simp only [Bool.not_eq_true] at c
        rw [c, Bool.false_or] at this
        exact this
      · exact h1 z hz
theorem isort_pair (tr : ∀ a b c, le a b = true → le b c = true → le a c = true) (to : ∀ a b, (le a b || le b a) = true) : ∀ l : List α, (isort le l).Pairwise (fun a b => le a b = true)
  | [] => .nil
  | x :: xs => ins_pair tr to x _ (isort_pair tr to xs)
end
theorem leL_tr (a b c : List Int) (h1 : leL a b = true) (h2 : leL b c = true) : leL a c = true := by
  rw [leL_eq, decide_eq_true_eq] at *
  exact List.le_trans h1 h2
theorem leL_to (a b : List Int) : (leL a b || leL b a) = true := by
  rw [leL_eq, leL_eq, Bool.or_eq_true, decide_eq_true_eq, decide_eq_true_eq]
  exact List.le_total a b
theorem leL_an (a b : List Int) (h1 : leL a b = true) (h2 : leL b a = true) : a = b := by
  rw [leL_eq, decide_eq_true_eq] at *
  exact List.le_antisymm h1 h2
/-- rows of whole numbers -/
def rowsD : List D → Option (List (List Int))
  | [] => some []
  | .tuple xs :: r => match intsD xs with
    | some ns => (rowsD r).map (ns :: ·)
    | none => none
  | _ => none
def rowD (ns : List Int) : D := .tuple (ns.map .int)
theorem rowsD_eq : ∀ {ds : List D} {nss : List (List Int)}, rowsD ds = some nss → ds = nss.map rowD
  | [], _, h => by cases h; rfl
  | .tuple xs :: r, _, h => by
    simp only [rowsD] at h
    split at h
    · rename_i ns e
      obtain ⟨t, e1, rfl⟩ := Option.map_eq_some_iff.mp h
      rw [List.map_cons, ← rowsD_eq e1, intsD_eq e]
      rfl
    · cases h
  | .none :: _, _, h => by cases h
  | .bool _ :: _, _, h => by cases h
  | .int _ :: _, _, h => by cases h
  | .str _ :: _, _, h => by cases h
  | .list _ :: _, _, h => by cases h
  | .dict _ :: _, _, h => by cases h
def sortI (ns : List Int) : List Int := isort (fun a b => decide (a ≤ b)) ns
def sortLD (ds : List D) : Option (List D) := match intsD ds with
  | some ns => some ((sortI ns).map .int)
  | none => match rowsD ds with
    | some nss => if nss.all (fun ns => !ns.isEmpty) = true then some ((isort leL nss).map rowD) else none
    | none => none
theorem sortI_uniq {ns ns' : List Int} (h1 : ns'.Perm ns) (h2 : ns'.Pairwise (· ≤ ·)) : ns' = sortI ns := by
  refine List.Perm.eq_of_pairwise (le := (· ≤ ·)) (fun a b _ _ p q => by omega) h2 ?_ (h1.trans (isort_perm ns).symm)
  have := isort_pair (le := fun a b : Int => decide (a ≤ b)) (fun a b c p q => by simp only [decide_eq_true_eq] at *; omega) (fun a b => by simp only [Bool.or_eq_true, decide_eq_true_eq]; omega) ns
  exact this.imp (by simp)

section
variable {C : Cx} {X : Fx} {W : WX} {Z F H : Hp} {pins : List (Addr × Obj)} {σ : L2.St} {s : Shared}
abbrev encR (b : V × List Int) : PyData := rowD b.2
theorem le_rows : PySem.W.dataLe false encR = fun p q => leL p.2 q.2 := by
  have h := PySem.W.dataLe_rows (fun b : V × List Int => b.2)
  have e : PySem.W.dataLe false encR = PySem.W.dataLe false (fun b : V × List Int => PyData.list (b.2.map .int)) := by
    rw [PySem.W.dataLe_eq, PySem.W.dataLe_eq]
    funext p q
    simp only [encR, rowD, PySem.W.dataLt_tuple, PySem.W.dataLt_list]
  rw [e, h]
  funext p q
  exact (leL_eq _ _).symm
theorem ints_reads_t (h : Heap) : ∀ {ns : List Int} {us : List Value}, Vals (ns.map V.int) us → ∃ as, PySem.ReadsAll h us (ns.map PyData.int) as := fun {ns us} v => ⟨[], ints_reads h v⟩
theorem alike_ints : ∀ xs ys : List Int, PySem.W.alikeAll (xs.map .int) (ys.map .int) = true
  | [], _ => by simp [PySem.W.alikeAll]
  | _ :: _, [] => by simp [PySem.W.alikeAll]
  | x :: xs, y :: ys => by simp [PySem.W.alikeAll, PySem.W.alike, alike_ints xs ys]
theorem rows_each (I : Inv C pins σ H s) (z : Same Z H) : ∀ {nss : List (List Int)} {vs : List V} {us : List Value}, Reps C.K Z vs (nss.map rowD) → Vals vs us →
    ∃ bs : List (V × List Int), bs.map (·.1) = vs ∧ bs.map (·.2) = nss ∧ (∀ b ∈ bs, Rep C.K Z b.1 (rowD b.2)) ∧ PySem.W.EachIs (fun u b => RelV b.1 u) us bs ∧ PySem.W.EachIs (fun u b => ∃ as, PySem.Reads s.heap u (encR b) as) us bs
  | [], _, _, .nil, .nil => ⟨[], rfl, rfl, fun b h => absurd h (by simp), .nil, .nil⟩
  | ns :: nss, v :: vs, u :: us, .cons r q, .cons rv t => by
    obtain ⟨bs, h1, h2, h3, h4, h5⟩ := rows_each I z q t
    obtain ⟨as, rd⟩ := Rep.reads I (rowD ns) v u (r.up z) rv (by
      show PyData.plain (.tuple (ns.map .int)) = true
      simp only [PyData.plain]
      clear r rv
      induction ns with
      | nil => rfl
      | cons n ns ih => simp [PyData.plainAll, PyData.plain, ih])
    refine ⟨(v, ns) :: bs, by rw [List.map_cons, h1], by rw [List.map_cons, h2], fun b hb => ?_, .cons rv h4, .cons ⟨as, rd⟩ h5⟩
    rcases List.mem_cons.mp hb with rfl | hb
    · exact r
    · exact h3 b hb
theorem row_depth (ns : List Int) : (rowD ns).depth ≤ 2 := by
  have := ints_depth ns
  unfold rowD
  simp only [PyData.depth]
  omega
theorem vals_each {bs : List (V × List Int)} : ∀ {us : List Value}, PySem.W.EachIs (fun u b => RelV b.1 u) us bs → Vals (bs.map (·.1)) us := by
  induction bs with
  | nil => intro us h; cases h; exact .nil
  | cons b bs ih => intro us h; cases h with | cons r t => exact .cons r (ih t)
theorem reps_each {bs : List (V × List Int)} : (∀ b ∈ bs, Rep C.K Z b.1 (rowD b.2)) → Reps C.K Z (bs.map (·.1)) ((bs.map (·.2)).map rowD) := by
  induction bs with
  | nil => exact fun _ => .nil
  | cons b bs ih => exact fun h => .cons (h b List.mem_cons_self) (ih fun c hc => h c (List.mem_cons_of_mem _ hc))
def sortedV : List D → Option Val
  | [.list ds] => (sortLD ds).map .ol
  | _ => none
theorem reps_ints {K : PySem.W.Frag} : ∀ ns : List Int, Reps K Z (ns.map V.int) (ns.map .int)
  | [] => .nil
  | n :: ns => .cons (.int n) (reps_ints ns)
theorem call_sortedV (hu : C.A.units + 64 < cLine) : CallR C (.builtin "sorted") (rApp C.K sortedV) := by
  intro pins s σ H xs us Q I rx ⟨Z, ds, v, hz, hx, hf, fr⟩
  unfold sortedV at hf
  split at hf
  · rename_i ds
    obtain ⟨x, rfl, a, vs, rfl, r1, l, q⟩ := RepHs.one hx
    unfold sortLD at hf
    split at hf
    · rename_i ns e1
      cases hf
      obtain rfl := q.ints e1
      refine cr_sortedI pins s σ H _ us Q I rx ⟨a, ns, rfl, LiL.sq r1, fun ns' p h1 h2 np => ?_⟩
      obtain rfl := sortI_uniq h1 h2
      refine fr.lst hz (reps_ints _) ?_ p np
      rw [List.length_map, h1.length_eq]
      rw [List.length_map] at l
      exact l
    · split at hf
      · rename_i nss e1
        split at hf
        · rename_i hne
          cases hf
          obtain rfl := rowsD_eq e1
          obtain ⟨its, n, rv, _, ea⟩ := inv_rdL I r1
          obtain ⟨bs, b1, b2, b3, b4, b5⟩ := rows_each I hz q rv
          rw [Vals.ref1 rx]
          have ll : bs.length ≤ sizeLine := by rw [← List.length_map (f := fun b : V × List Int => b.1), b1]; exact l
          refine PySem.W.sorted_data (R := fun u b => RelV b.1 u) (enc := encR) ⟨_, ea, rfl, _, rfl⟩ b4 b5 (PySem.W.AllAlike.of fun b b' => by simp [encR, rowD, PySem.W.alike, alike_ints]) (.inl fun d hd => ?_) ll (fun b _ => ?_) fun out ho eo => ?_
          · obtain ⟨b, hb, rfl⟩ := List.mem_map.mp hd
            have hm : b.2 ∈ nss := by rw [← b2]; exact List.mem_map.mpr ⟨b, hb, rfl⟩
            have := List.all_eq_true.mp hne _ hm
            obtain ⟨bv, bn⟩ := b
            cases bn with
            | nil => simp at this
            | cons i is => exact ⟨.int i, is.map .int, rfl⟩
          · have := row_depth b.2
            show C.A.units + 2 + (rowD b.2).depth < cLine
            omega
          · obtain ⟨ep, he'⟩ := PyProof.Rows.sortedAll_at s.heap its out.toArray
            have pm := List.mergeSort_perm bs (PySem.W.dataLe false encR)
            have es : (bs.mergeSort (PySem.W.dataLe false encR)).map (·.2) = isort leL nss := by
              rw [le_rows] at pm ⊢
              refine List.Perm.eq_of_pairwise (le := fun a b => leL a b = true) (fun a b _ _ p q => leL_an a b p q) ?_ (isort_pair leL_tr leL_to nss) ?_
              · exact List.pairwise_map.mpr (List.pairwise_mergeSort (le := fun p q : V × List Int => leL p.2 q.2) (fun a b c => leL_tr _ _ _) (fun a b => leL_to _ _) bs)
              · refine (pm.map _).trans ?_
                rw [b2]
                exact (isort_perm nss).symm
            have len : ((bs.mergeSort (PySem.W.dataLe false encR)).map (·.1)).length ≤ sizeLine := by rw [List.length_map, pm.length_eq]; exact ll
            refine ⟨.ref _, upd H (s.heap.objs.size + 1) (.lst ((bs.mergeSort (PySem.W.dataLe false encR)).map (·.1))), I.laid (t' := s.toks) (fun _ _ => PyProof.Rows.sortedAll_old) (Nat.le_succ _) ⟨len, out, ep, vals_each eo, he'⟩, rfl, ?_⟩
            refine fr.lst hz ?_ len _ (I.hok.fresh (Nat.le_succ _))
            rw [← es]
            exact reps_each fun b hb => b3 b (pm.mem_iff.mp hb)
        · cases hf
      · cases hf
  · cases hf
end
end MS

/-! part l: the table, the end -/
namespace MS
open PySem PySem.Spec PyProof.Rows L2
def visB (sc : Scope) (x : Str) : Bool := match sc.names.lookup x with
  | some .local => true
  | some .cell => true
  | some .free => true
  | _ => false
theorem vis_by {sc : Scope} {x : Str} (h : visB sc x = true) : Vis sc x := by
  unfold visB at h
  unfold Vis
  split at h
  · rename_i e; exact .inl e
  · rename_i e; exact .inr (.inl e)
  · rename_i e; exact .inr (.inr e)
  · cases h
def locB (sc : Scope) (x : Str) : Bool := match sc.names.lookup x with
  | some .local => true
  | some .cell => true
  | _ => false
theorem loc_by {sc : Scope} {x : Str} (h : locB sc x = true) : L2.Loc sc x := by
  unfold locB at h
  unfold L2.Loc
  split at h
  · rename_i e; exact .inl e
  · rename_i e; exact .inr e
  · cases h
theorem hu64 {k : Nat} {A : Around} (r : Room k A) : A.units + 64 < cLine := by have := r.un; omega
theorem hu0 {k : Nat} {A : Around} (r : Room k A) : A.units < cLine := by have := r.un; omega
theorem tk0 {C : Cx} : L2N.Takes C WN := fun _ _ x => by
  obtain ⟨_, _, _, _, _, _, _, _, _, _, _, _, _, _, _, _, z⟩ := x
  exact z.elim
/-- a def of the top as the top has it -/
structure TopF (K : PySem.W.Frag) (mg : Str → Option Value) (x : Str) (st : Stmt) (ps : List Str) (f : Addr) (fd : FuncData) : Prop where
  fn : Fun K x x st f fd
  gl : mg x = some (.ref f)
  bd : Binds K fd ps []
/-- a def keeps its promise, wherever the top put it -/
def DefM (P : Program) (w : World) (K : PySem.W.Frag) (mg : Str → Option Value) (base : Heap) (ex : Ex) (k : Nat) (x : Str) (ps : List Str) (g : Fn) : Prop :=
  ∃ (f : Addr) (fd : FuncData), FnM P w K mg base ex k f fd ps g ∧ mg x = some (.ref f) ∧ PySem.W.keepIn K (.ref f) = true ∧ Binds K fd ps []
theorem DefM.of {P : Program} {w : World} {K : PySem.W.Frag} {mg : Str → Option Value} {base : Heap} {ex : Ex} {k : Nat} {x : Str} {st : Stmt} {ps : List Str} {g : Fn} (t : ∃ (f : Addr) (fd : FuncData), TopF K mg x st ps f fd) (h : ∀ f fd, Fun K x x st f fd → FnM P w K mg base ex k f fd ps g) : DefM P w K mg base ex k x ps g := by
  obtain ⟨f, fd, t⟩ := t
  exact ⟨f, fd, h f fd t.fn, t.gl, t.fn.kp, t.bd⟩
section
variable {C : Cx} {X : Fx} {W : WX} {k : Nat} {ps : List Str} {x : Str} {p pos : Pos} {e : Expr} {es : List Expr} {gf : Fn}
theorem de_callD {ms : List (M Val)} (d : DefM C.prog C.w C.K C.mg C.base X.ex k x ps gf) (hr : Room k C.A) (hg : Gl C x) (tk : L2N.Takes C W) (ha : DVs C X W (e :: es) ms) (hnp : ms.length = ps.length := by rfl)
    (hdb : (x == ("__debug__" : Str)) = false := by decide) (he : starEach (e :: es) C.env = (false, eval e C.env) :: starEach es C.env := by rfl) (hpl : (backTo pos (starEach es C.env)).any (·.1) = false := by rfl) (hK : X.K = C.K := by rfl) : DE C X W (.Call (.Name x p) (e :: es) [] pos) (callV gf ms) := by
  obtain ⟨f, fd, h1, h2, h3, h4⟩ := d
  exact de_call h1 hr hg h2 h3 h4 tk ha hnp hdb he hpl hK
theorem de_callBD {y : Str} {i : Nat} {ms : List (M Val)} {p2 : Pos} (d : DefM C.prog C.w C.K C.mg C.base X.ex k x ps gf) (hr : Room k C.A) (hg : Gl C x) (tk : L2N.Takes C W) (hN : C.N[i]? = some y) (hv : Vis C.env.scope y) (ha : DVs C X W es ms) (hnp : ms.length + 1 = ps.length := by rfl)
    (hdb : (x == ("__debug__" : Str)) = false := by decide) (hdb2 : (y == ("__debug__" : Str)) = false := by decide) (hcd : (y == ("__classdict__" : Str)) = false := by decide) (he : starEach (.Name y p2 :: es) C.env = (false, eval (.Name y p2) C.env) :: starEach es C.env := by rfl) (hpl : (backTo pos (starEach es C.env)).any (·.1) = false := by rfl) (hK : X.K = C.K := by rfl) : DE C X W (.Call (.Name x p) (.Name y p2 :: es) [] pos) (callB gf i ms) := by
  obtain ⟨f, fd, h1, h2, h3, h4⟩ := d
  exact de_callBr h1 hr hg h2 h3 h4 tk hN hv ha hnp hdb hdb2 hcd he hpl hK
end
theorem DefM.none {P : Program} {w : World} {K : PySem.W.Frag} {mg : Str → Option Value} {base : Heap} {ex : Ex} {k : Nat} {x : Str} {st : Stmt} {ps : List Str} (t : ∃ (f : Addr) (fd : FuncData), TopF K mg x st ps f fd) : DefM P w K mg base ex k x ps (fun _ => .err) := DefM.of t fun f fd F => fn_none

/-! ### the end -/
def scriptD (ns : List Int) : D := .list (ns.map .int)
/-- no exception is looked for -/
def exAll : Ex := { x := fun _ _ _ _ _ => True }
def exAllT (T : List (Addr × Str)) : Ex := { x := fun _ _ _ _ _ => True, tb := T }
theorem LiL.noT {T : List (Addr × Str)} {K : PySem.W.Frag} {H : Hp} {a : Addr} {xs : List V} (h : LiL K H a xs) (t : LamX.Tabs T H) : LiL K (MS.noT T H) a xs := by
  rcases h with (h | ⟨o, h⟩) | h
  · exact .inl (.inl (noT_at h t fun _ e => nomatch e))
  · exact .inl (.inr ⟨o, noT_at h t fun _ e => nomatch e⟩)
  · exact .inr h
theorem sp_law {K : PySem.W.Frag} {ex : Ex} {gf : Fn} {H : Hp} {a : Addr} {ns : List Int} {r : List Val} (hS : LiL K H a (ns.map V.int)) (hl : ns.length ≤ sizeLine) (h : gf [.fz (scriptD ns)] = .ok (.fz (.bool true)) r) (ht : LamX.Tabs ex.tb H) : spF K ex 1 gf [.ref a] H (fun v _ => v = .bl true) fun _ _ _ => False := by
  refine ⟨rfl, noT ex.tb H, noT ex.tb H, [.fz (scriptD ns)], ⟨noT_same, noT_same, rfl, fun i v e => ?_, fun i j v u p e1 e2 o1 o2 => ?_, fun i hi => absurd hi (by show ¬ i ∈ ([] : List Nat); simp), no_hx _, noT_no, noT_no, ht⟩, ?_⟩
  · cases i with
    | zero => cases e; exact ⟨.ref a, rfl, .lst (hS.noT ht) (by rw [List.length_map]; exact hl) (reps_ints ns)⟩
    | succ i => cases e
  · cases i with
    | zero => cases e1; cases o1
    | succ i => cases e1
  · rw [h]
    intro Z' H' ex' g' x rv
    cases rv
    rfl
theorem liL_of {K : PySem.W.Frag} {H : Hp} {h : Heap} {a : Addr} {vs : List Value} {xs : List V} (KX : K.In h) (ho : h.get? a = some { cls := .type "list", data := .seq vs.toArray }) (hS : SqL K H a xs) : LiL K H a xs := by
  rcases hS with hS | ⟨o, its, n, e1, e2, e3, e4, e5, e6⟩
  · exact .inl hS
  · have e7 := KX a o e1
    rw [ho] at e7
    cases e7
    cases e4
    exact .inr ⟨vs, _, e1, by simpa using e5, by simpa using e6⟩
/-- the law's row, once its def's run is known -/
theorem law_walk {l : PySem.W.OpenLaw} {n k : Nat} {q : Program} {loose : List Str} {XP : (Str → Option Value) → Heap → Prop} {YP : World → Heap → Prop} {d : DefRec} {K : Params → PySem.W.Frag} {gf : Fn} {x : Str} (hn : l.most = some n) (h2 : n ≤ sizeLine) (hdf : d.params.defaults = []) (hr : Room k callerA)
    (kin : ∀ (w : World) (h : Heap), YP w h → (K w.params).In h) (run : ∀ ns : List Int, ns.length ≤ n → ∃ r, gf [.fz (scriptD ns)] = .ok (.fz (.bool true)) r)
    (top : ∀ (w : World) (mg : Str → Option Value) (fa : Addr) (h : Heap), (K w.params).In h → h.Ns mainGlobals mg → mg d.name = some (.ref fa) →
      ∃ fd : FuncData, (∀ (s : Shared) (u : Value), BindsTo s fd ⟨[u], []⟩ [(x, u)]) ∧ ∀ base : Heap, (K w.params).In base → base.Ns mainGlobals mg → FnM l.prog w (K w.params) mg base exAll k fa fd [x] gf) :
    PySem.W.WalkO q loose XP YP l.row.toRowW d [] (fun f vs => PySem.call f vs) := by
  refine Att.attach_call hn hdf fun w s₀ s₁ mg mb fa o pm cd doc a vs ns G Y ho hd hcd hmg hobj hints hlen hg => ?_
  have inK := kin w _ Y
  obtain ⟨fd, hb, hF⟩ := top w mg fa _ inK G.T.g hmg
  obtain ⟨r, hrun⟩ := run ns hlen
  have hle : ns.length ≤ sizeLine := Nat.le_trans hlen h2
  refine law_callG inK G.T.g G.T.b G.T.builtins G.T.nolimit hg hobj hints hle hr hF hb (fun H _ hS => sp_law (liL_of inK hobj hS) hle hrun fun p hp => nomatch hp) fun H e s' c => ?_
  obtain ⟨_, _, _, _, _, _, _, _, _, _, _, _, z⟩ := c
  exact z
end MS

/-! part m: methods of an own list -/
namespace MS
open PySem PySem.Spec PyProof.Rows L2
/-- a method of the own list that the name i has, its arguments by value -/
def eMth (g : List D → List D → Option (D × List D)) (i : Nat) (ms : List (M Val)) : M Val := fun r => match r[i]? with
  | some (.ol _) => match vals ms r with
    | .ok ds r1 => match r1[i]? with
      | some (.ol xs) => match g xs ds with
        | some (v, ys) => .ok (.fz v) (r1.set i (.ol ys))
        | none => .err
      | _ => .err
    | .exc c ds r' => .exc c ds r'
    | .err => .err
  | _ => .err
def MthR (C : Cx) (id : String) (g : List D → List D → Option (D × List D)) : Prop := ∃ r, MtR C id r ∧ ∀ (Z H : Hp) (a : Addr) (vs ws : List V) (xs ds ys : List D) (v : D) (Q : VK), g xs ds = some (v, ys) → H a = some (.lst vs) → vs.length ≤ sizeLine → Reps C.K Z vs xs → Reps C.K Z ws ds →
  (∀ x us, us.length ≤ sizeLine → Reps C.K Z us ys → Rep C.K Z x v → Q x (upd H a (.lst us))) → r (.ref a) ws H Q
section
variable {C : Cx} {X : Fx} {W : WX} {Z F H : Hp} {r : List Val} {σ : L2.St} {e : Expr} {pos : Pos}
theorem mth_run {g : List D → List D → Option (D × List D)} {i : Nat} {ms : List (M Val)} {Q : VK} {r0 : V → List V → Hp → VK → Prop} (hK : X.K = C.K) (hr0 : ∀ (Z H : Hp) (a : Addr) (vs ws : List V) (xs ds ys : List D) (v : D) (Q : VK), g xs ds = some (v, ys) → H a = some (.lst vs) → vs.length ≤ sizeLine → Reps C.K Z vs xs → Reps C.K Z ws ds →
  (∀ x us, us.length ≤ sizeLine → Reps C.K Z us ys → Rep C.K Z x v → Q x (upd H a (.lst us))) → r0 (.ref a) ws H Q) (h : rdE X W (eMth g i ms) σ H Q) : tBM C.K "list" r0 (tVar i) (rdVs X W ms) σ H Q := by
  obtain ⟨Z, F, r, g0, h⟩ := h
  revert h
  unfold eMth
  cases e : r[i]? with
  | none => exact fun h => h.elim
  | some v =>
    cases v with
    | un => exact fun h => h.elim
    | fz d => exact fun h => h.elim
    | od d => exact fun h => h.elim
    | ow d => exact fun h => h.elim
    | ol xs0 =>
      intro h
      obtain ⟨a, vs0, ea, ha0, _⟩ := g0.sl i _ e
      refine ⟨.ref a, ea, .inl ⟨rfl, vs0, .inl (.inl ha0)⟩, Z, F, r, g0, ?_⟩
      revert h
      simp only
      cases vals ms r with
      | exc c ds r' => exact fun h => h
      | err => exact fun h => h
      | ok ds r1 =>
        simp only
        intro h Z1 H1 ex1 g1 ws rs
        revert h
        cases e1 : r1[i]? with
        | none => exact fun h => h.elim
        | some v =>
          cases v with
          | un => exact fun h => h.elim
          | fz d => exact fun h => h.elim
          | od d => exact fun h => h.elim
          | ow d => exact fun h => h.elim
          | ol xs =>
            simp only
            cases e2 : g xs ds with
            | none => exact fun h => h.elim
            | some p =>
              obtain ⟨v, ys⟩ := p
              intro h
              obtain ⟨a', vs, ea', ha, la, qa, za, fa⟩ := g1.sl i _ e1
              rw [ea] at ea'
              cases ea'
              refine hr0 Z1 H1 a vs ws xs ds ys v Q e2 ha la (by rw [← hK]; exact qa) (by rw [← hK]; exact rs) fun x us lu qu rx => ?_
              have g2 := g1.write (w := .ol ys) (o := .lst us) e1 (List.mem_singleton.mpr rfl) ea za fa ⟨a, us, rfl, upd_same, lu, by rw [hK]; exact qu, za, fa⟩
              exact h Z1 _ ex1 g2 x (by rw [← hK] at rx; exact rx)
theorem de_mth {id : String} {g : List D → List D → Option (D × List D)} {i : Nat} {x : Str} {ms : List (M Val)} {es : List Expr} {name : Str} {p apos : Pos} (R : MthR C id g) (slot : Slot "list" name id) (hty : typeOf (.builtin id) = pure (.type "method_descriptor")) (hN : C.N[i]? = some x) (hv : Vis C.env.scope x) (ha : DVs C X W (e :: es) ms)
    (hd : (x == ("__debug__" : Str)) = false := by decide) (hcd : (x == ("__classdict__" : Str)) = false := by decide)
    (hbase : attributeBase (.Name x p) name C.env (eval (.Name x p) C.env) = eval (.Name x p) C.env := by rfl)
    (hfew : ((backTo pos (starEach (e :: es) C.env)).all (fun x => !x.1) && (backToKw pos (keywordEach [] C.env)).all (fun x => x.1.isSome)
      && decide ((e :: es).length + ([] : List Keyword).length + (if ([] : List Keyword).isEmpty then 0 else 1) < 30)) = true := by rfl)
    (hline : (apos.endLine == pos.line) = true := by rfl) (hs : starEach (e :: es) C.env = (false, eval e C.env) :: starEach es C.env := by rfl) (hplain : (backTo pos (starEach es C.env)).any (·.1) = false := by rfl) (hK : X.K = C.K := by rfl) :
    DE C X W (.Call (.Attribute (.Name x p) name apos) (e :: es) [] pos) (eMth g i ms) := by
  obtain ⟨r0, hm, hr0⟩ := R
  exact PE.imp (pe_bm PySem.F.plainAttrs_list slot hty hm (pe_var hN hv hd hcd) ha hbase hfew hline hs hplain) fun _ _ _ h => mth_run hK hr0 h
theorem de_mth0 {id : String} {g : List D → List D → Option (D × List D)} {i : Nat} {x : Str} {name : Str} {p apos : Pos} (R : MthR C id g) (slot : Slot "list" name id) (hty : typeOf (.builtin id) = pure (.type "method_descriptor")) (hN : C.N[i]? = some x) (hv : Vis C.env.scope x)
    (hd : (x == ("__debug__" : Str)) = false := by decide) (hcd : (x == ("__classdict__" : Str)) = false := by decide)
    (hbase : attributeBase (.Name x p) name C.env (eval (.Name x p) C.env) = eval (.Name x p) C.env := by rfl) (hline : (apos.endLine == pos.line) = true := by rfl) (hK : X.K = C.K := by rfl) :
    DE C X W (.Call (.Attribute (.Name x p) name apos) [] [] pos) (eMth g i []) := by
  obtain ⟨r0, hm, hr0⟩ := R
  refine PE.imp (pe_bm0 PySem.F.plainAttrs_list slot hty hm (pe_var hN hv hd hcd) hbase hline) fun σ H Q h => ?_
  obtain ⟨y, e1, ty, h2⟩ := mth_run (W := W) hK hr0 h
  refine ⟨y, e1, ty, ?_⟩
  obtain ⟨Z, F, r, g0, h3⟩ := h2
  exact h3 Z H (Ext.refl _ _) g0 [] .nil
/-! the methods -/
def appG (xs : List D) : List D → Option (D × List D)
  | [d] => if xs.length < LINE then some (.none, xs ++ [d]) else none
  | _ => none
def popG (xs : List D) : List D → Option (D × List D)
  | [] => (xs[xs.length - 1]?).map fun d => (d, xs.dropLast)
  | _ => none
def popAtG (xs : List D) : List D → Option (D × List D)
  | [.int k] => (ixN xs.length k).bind fun j => if smI k = true then (xs[j]?).map fun d => (d, xs.eraseIdx j) else none
  | _ => none
theorem mth_append : MthR C "list.append" appG := by
  refine ⟨_, mt_append, fun Z H a vs ws xs ds ys v Q hg ha la q rs k => ?_⟩
  unfold appG at hg
  split at hg
  · rename_i d
    split at hg
    · rename_i hl
      cases hg
      cases rs with
      | cons r1 r2 =>
        cases r2
        refine ⟨a, vs, _, rfl, rfl, ha, ?_, k _ _ ?_ (q.append (.one r1)) .non⟩
        · rw [q.length, line_eq]; exact hl
        · rw [List.length_append, q.length, line_eq]
          exact hl
    · cases hg
  · cases hg
theorem mth_pop : MthR C "list.pop" popG := by
  refine ⟨_, mt_pop, fun Z H a vs ws xs ds ys v Q hg ha la q rs k => ?_⟩
  unfold popG at hg
  split at hg
  · obtain ⟨d, e1, e2⟩ := Option.map_eq_some_iff.mp hg
    cases e2
    cases rs
    obtain ⟨y, e3, ry⟩ := q.get e1
    refine ⟨a, vs, y, rfl, rfl, ha, by rw [q.length]; exact e3, k _ _ ?_ q.dropLast ry⟩
    exact Nat.le_trans (by rw [List.length_dropLast]; omega) la
  · cases hg
theorem mth_popAt : MthR C "list.pop" popAtG := by
  refine ⟨_, mt_popAt, fun Z H a vs ws xs ds ys v Q hg ha la q rs k => ?_⟩
  unfold popAtG at hg
  split at hg
  · rename_i i
    obtain ⟨j, e1, e2⟩ := Option.bind_eq_some_iff.mp hg
    split at e2
    · rename_i hs
      obtain ⟨d, e3, e4⟩ := Option.map_eq_some_iff.mp e2
      cases e4
      cases rs with
      | cons r1 r2 =>
        cases r2
        cases r1
        obtain ⟨y, e5, ry⟩ := q.get e3
        have b := smI_of hs
        rw [← q.length] at e1
        obtain ⟨s1, s2, s3, s4⟩ := ixN_seq e1
        refine ⟨a, vs, i, j, y, rfl, rfl, ha, by omega, by omega, s1, e5, k _ _ ?_ (q.erase j) ry⟩
        exact Nat.le_trans (List.length_eraseIdx_le _ _) la
    · cases e2
  · cases hg
/-- x.extend(ys), ys a new list -/
def eExt (i : Nat) (m : M Val) : M Val := fun r => match r[i]? with
  | some (.ol _) => match m r with
    | .ok (.ol ys) r1 => match r1[i]? with
      | some (.ol xs) => if xs.length + ys.length ≤ LINE then .ok (.fz .none) (r1.set i (.ol (xs ++ ys))) else .err
      | _ => .err
    | .ok _ _ => .err
    | .exc c ds r' => .exc c ds r'
    | .err => .err
  | _ => .err
theorem de_ext {i : Nat} {x : Str} {m : M Val} {p apos : Pos} (hN : C.N[i]? = some x) (hv : Vis C.env.scope x) (ha : DE C X W e m)
    (hd : (x == ("__debug__" : Str)) = false := by decide) (hcd : (x == ("__classdict__" : Str)) = false := by decide)
    (hbase : attributeBase (.Name x p) "extend" C.env (eval (.Name x p) C.env) = eval (.Name x p) C.env := by rfl)
    (hfew : ((backTo pos (starEach [e] C.env)).all (fun x => !x.1) && (backToKw pos (keywordEach [] C.env)).all (fun x => x.1.isSome)
      && decide ([e].length + ([] : List Keyword).length + (if ([] : List Keyword).isEmpty then 0 else 1) < 30)) = true := by rfl)
    (hline : (apos.endLine == pos.line) = true := by rfl) (hs : starEach [e] C.env = (false, eval e C.env) :: starEach [] C.env := by rfl) (hplain : (backTo pos (starEach [] C.env)).any (·.1) = false := by rfl) :
    DE C X W (.Call (.Attribute (.Name x p) "extend" apos) [e] [] pos) (eExt i m) := by
  refine PE.imp (pe_bm PySem.F.plainAttrs_list PySem.F.slot_list_extend PySem.F.type_list_extend mt_extend (pe_var hN hv hd hcd) (pa_cons ha pa_nil hs) hbase hfew hline hs hplain) fun σ H Q h => ?_
  obtain ⟨Z, F, r, g0, h⟩ := h
  revert h
  unfold eExt
  cases e : r[i]? with
  | none => exact fun h => h.elim
  | some v =>
    cases v with
    | un => exact fun h => h.elim
    | fz d => exact fun h => h.elim
    | od d => exact fun h => h.elim
    | ow d => exact fun h => h.elim
    | ol xs0 =>
      intro h
      obtain ⟨a, vs0, ea, ha0, _⟩ := g0.sl i _ e
      refine ⟨.ref a, ea, .inl ⟨rfl, vs0, .inl (.inl ha0)⟩, Z, F, r, g0, ?_⟩
      revert h
      simp only
      cases m r with
      | exc c ds r' => exact fun h => h
      | err => exact fun h => h
      | ok v r1 =>
        cases v with
        | un => exact fun h => h.elim
        | fz d => exact fun h => h.elim
        | od d => exact fun h => h.elim
        | ow d => exact fun h => h.elim
        | ol ys =>
          simp only
          intro h Z1 H1 ex1 g1 y rv
          obtain ⟨b, zs, rfl, hb, lb, qb, zb, fb, db⟩ := rv
          revert h
          cases e1 : r1[i]? with
          | none => exact fun h => h.elim
          | some v =>
            cases v with
            | un => exact fun h => h.elim
            | fz d => exact fun h => h.elim
            | od d => exact fun h => h.elim
            | ow d => exact fun h => h.elim
            | ol xs =>
              simp only
              split
              · rename_i hl
                intro h
                obtain ⟨a', vs, ea', ha, la, qa, za, fa⟩ := g1.sl i _ e1
                rw [ea] at ea'
                cases ea'
                have hlen : vs.length + zs.length ≤ sizeLine := by rw [qa.length, qb.length, line_eq]; exact hl
                refine ⟨a, b, vs, zs, rfl, rfl, ha, hb, hlen, ?_⟩
                have g2 := g1.write (w := .ol (xs ++ ys)) (o := .lst (vs ++ zs)) e1 (List.mem_singleton.mpr rfl) ea za fa ⟨a, _, rfl, upd_same, by rw [List.length_append]; exact hlen, qa.append qb, za, fa⟩
                exact h Z1 _ ex1 g2 _ .non
              · exact fun h => h.elim
end
end MS

/-! part n: several at once, +=, backwards -/
namespace MS
open PySem PySem.Spec PyProof.Rows L2
section
variable {C : Cx} {X : Fx} {W : WX} {Z F H : Hp} {r : List Val} {σ : L2.St} {e : Expr} {pos : Pos}
def sPar2 (i j : Nat) (ms : List (M Val)) : M Fl := M.bind (vals ms) fun ds => fun r => match ds with
  | [d, e] => .ok .nx ((r.set i (.fz d)).set j (.fz e))
  | _ => .err
def sPar3 (i j l : Nat) (ms : List (M Val)) : M Fl := M.bind (vals ms) fun ds => fun r => match ds with
  | [d, e, f] => .ok .nx (((r.set i (.fz d)).set j (.fz e)).set l (.fz f))
  | _ => .err
theorem RV.fz {x : V} {d : D} (h : Rep X.K Z x d) : RV X Z F H r σ x (.fz d) := h
theorem ds_par2 {i j : Nat} {x y : Str} {a b : Expr} {ms : List (M Val)} {px py pt : Pos} {kt k2 : Nat} {pt2 : Pos} (hc : C.calm = true) (hN : C.N.Nodup) (hi : C.N[i]? = some x) (hj : C.N[j]? = some y) (hij : i ≠ j)
    (hx : C.env.scope.names.lookup x = some .local) (hy : C.env.scope.names.lookup y = some .local) (ha : DVs C X W [a, b] ms)
    (hw : swappedStores [.Tuple [.Name x px, .Name y py] kt pt] (.Tuple [a, b] k2 pt2) C.env = pure (some [x, y])) (hBi : i ∉ X.B := by exact of_decide_eq_true rfl) (hBj : j ∉ X.B := by exact of_decide_eq_true rfl)
    (hs : swapsWithSole [.Tuple [.Name x px, .Name y py] kt pt] (.Tuple [a, b] k2 pt2) pos.line C.env = pure false := by rfl) :
    DS C X W (.Assign [.Tuple [.Name x px, .Name y py] kt pt] (.Tuple [a, b] k2 pt2) pos) (sPar2 i j ms) :=
  PS.imp (ps_par hc hN hi hj hij hx hy ha hw hs) fun D σ H h => by
    obtain ⟨Z, F, r, g, h⟩ := h
    refine ⟨Z, F, r, g, (bindS_run h).imp fun ds r' Z' H' ex g' h' xs rs => ?_⟩
    revert h'
    split
    · rename_i d e
      intro h'
      cases rs with
      | cons r1 rs =>
        cases rs with
        | cons r2 rs =>
          cases rs
          have g1 := g'.store (i := i) hBi (RV.fz r1)
          have g2 := g1.store (i := j) hBj (RV.fz r2)
          exact ⟨_, _, rfl, h' _ Z' H' (Ext.refl _ _) g2⟩
    · exact fun h => h.elim
theorem ds_par3 {i j l : Nat} {x y z : Str} {a b c : Expr} {ms : List (M Val)} {px py pz pt : Pos} {kt k2 : Nat} {pt2 : Pos} (hc : C.calm = true) (hN : C.N.Nodup) (hi : C.N[i]? = some x) (hj : C.N[j]? = some y) (hl : C.N[l]? = some z) (hij : i ≠ j) (hil : i ≠ l) (hjl : j ≠ l)
    (hx : C.env.scope.names.lookup x = some .local) (hy : C.env.scope.names.lookup y = some .local) (hz : C.env.scope.names.lookup z = some .local) (ha : DVs C X W [a, b, c] ms)
    (hw : swappedStores [.Tuple [.Name x px, .Name y py, .Name z pz] kt pt] (.Tuple [a, b, c] k2 pt2) C.env = pure (some [x, y, z])) (hBi : i ∉ X.B := by exact of_decide_eq_true rfl) (hBj : j ∉ X.B := by exact of_decide_eq_true rfl) (hBl : l ∉ X.B := by exact of_decide_eq_true rfl)
    (hs : swapsWithSole [.Tuple [.Name x px, .Name y py, .Name z pz] kt pt] (.Tuple [a, b, c] k2 pt2) pos.line C.env = pure false := by rfl) :
    DS C X W (.Assign [.Tuple [.Name x px, .Name y py, .Name z pz] kt pt] (.Tuple [a, b, c] k2 pt2) pos) (sPar3 i j l ms) :=
  PS.imp (ps_par3 hc hN hi hj hl hij hil hjl hx hy hz ha hw hs) fun D σ H h => by
    obtain ⟨Z, F, r, g, h⟩ := h
    refine ⟨Z, F, r, g, (bindS_run h).imp fun ds r' Z' H' ex g' h' xs rs => ?_⟩
    revert h'
    split
    · rename_i d e f
      intro h'
      cases rs with
      | cons r1 rs =>
        cases rs with
        | cons r2 rs =>
          cases rs with
          | cons r3 rs =>
            cases rs
            have g1 := g'.store (i := i) hBi (RV.fz r1)
            have g2 := g1.store (i := j) hBj (RV.fz r2)
            have g3 := g2.store (i := l) hBl (RV.fz r3)
            exact ⟨_, _, _, rfl, h' _ Z' H' (Ext.refl _ _) g3⟩
    · exact fun h => h.elim
def augI (f : Int → Int → Int) : D → D → Option Val
  | .int i, .int j => some (.fz (.int (f i j)))
  | _, _ => none
theorem ds_aug {i : Nat} {x : Str} {op : Operator} {f : Int → Int → Int} {o : Opd} {pos' : Pos} (hN : C.N.Nodup) (hi : C.N[i]? = some x) (hx : L2.Loc C.env.scope x) (he : DO C X W e o) (ho : PIp C op (ipI f)) (hB : i ∉ X.B := by exact of_decide_eq_true rfl)
    (hf : C.fn x = true ∨ C.env.scope.names.lookup x = some .local := by first | exact .inl rfl | exact .inr rfl | assumption) : DS C X W (.AugAssign (.Name x pos') op e pos) (sSet i (bin (augI f) (.sl i) o)) :=
  PS.imp (ps_aug hN hi hx he ho hf) fun D σ H h => by
    obtain ⟨Z, F, r, g, h⟩ := h
    refine opd2_run (a := .sl i) (R := fun x y H2 => ipI f x y H2 fun z H2 => D.nx (σ.set i (some z)) H2) g ?_
    have h1 := bindS_run (σ := σ) h
    unfold bin at h1
    revert h1
    cases e1 : ev2 (.sl i) o r with
    | exc c ds r' => exact fun h => h
    | err => exact fun h => h
    | ok p r' =>
      obtain ⟨d1, d2⟩ := p
      simp only
      cases d1 with
      | int m =>
        cases d2 with
        | int n =>
          intro h1 Z' H' ex g' y z hy hz
          cases hy
          cases hz
          have h2 := h1 Z' H' ex g'
          exact ⟨m, n, rfl, rfl, h2 _ Z' H' (Ext.refl _ _) (g'.store hB (RV.fz (.int (f m n))))⟩
        | _ => exact fun h => h.elim
      | _ => exact fun h => h.elim
/-- x[::-1] -/
def revD : D → Option Val
  | .list xs => some (.ol xs.reverse)
  | _ => none
theorem de_rev {o : Opd} {k : Nat} {p1 p2 p3 : Pos} (he : DO C X W e o) (hK : X.K = C.K := by rfl) : DE C X W (.Subscript e (.Slice none none (some (.UnaryOp .USub (.Constant (.int 1) k p1) p2)) p3) pos) (una revD o) :=
  PE.imp (pe_revL he) fun σ H Q h => una_run h fun x H1 q => by
    obtain ⟨Z, d, v, hz, hx, hf, fr⟩ := q
    unfold revD at hf
    split at hf
    · cases hf
      obtain ⟨a, vs, rfl, r1, l, q⟩ := hx
      rw [← hK]
      exact ⟨a, vs, rfl, LiL.sq r1, fr.lst hz q.reverse (by rw [List.length_reverse]; exact l)⟩
    · cases hf
end
end MS

/-! part o: sets of whole numbers, looked at in order -/
namespace MS
open PySem PySem.Spec PyProof.Rows L2
def insU (x : Int) : List Int → List Int
  | [] => [x]
  | y :: ys => if x < y then x :: y :: ys else if x = y then y :: ys else y :: insU x ys
def usort : List Int → List Int
  | [] => []
  | x :: xs => insU x (usort xs)
theorem insU_mem (x z : Int) : ∀ l : List Int, z ∈ insU x l ↔ z = x ∨ z ∈ l
  | [] => by simp [insU]
  | y :: ys => by
    unfold insU
    split
    · simp
    · split
      · rename_i h; subst h; simp
      · rw [List.mem_cons, insU_mem x z ys, List.mem_cons]
        constructor
        · rintro (h | h | h)
          · exact .inr (.inl h)
          · exact .inl h
          · exact .inr (.inr h)
        · rintro (h | h | h)
          · exact .inr (.inl h)
          · exact .inl h
          · exact .inr (.inr h)
theorem insU_pair (x : Int) : ∀ l : List Int, l.Pairwise (· < ·) → (insU x l).Pairwise (· < ·)
  | [], _ => by simp [insU]
  | y :: ys, h => by
    obtain ⟨h1, h2⟩ := List.pairwise_cons.mp h
    unfold insU
    split
    · rename_i c
      refine List.pairwise_cons.mpr ⟨fun z hz => ?_, h⟩
      rcases List.mem_cons.mp hz with rfl | hz
      · exact c
      · exact Int.lt_trans c (h1 z hz)
    · split
      · exact h
      · refine List.pairwise_cons.mpr ⟨fun z hz => ?_, insU_pair x ys h2⟩
        rcases (insU_mem x z ys).mp hz with rfl | hz
        · omega
        · exact h1 z hz
theorem usort_mem (z : Int) : ∀ l : List Int, z ∈ usort l ↔ z ∈ l
  | [] => by simp [usort]
  | x :: xs => by
    unfold usort
    rw [insU_mem, usort_mem z xs, List.mem_cons]
theorem usort_pair : ∀ l : List Int, (usort l).Pairwise (· < ·)
  | [] => .nil
  | x :: xs => insU_pair x _ (usort_pair xs)
theorem usort_uniq {ns ms : List Int} (h1 : ms.Pairwise (· < ·)) (h2 : ∀ k, k ∈ ms ↔ k ∈ ns) : ms = usort ns := by
  have nd : ∀ {l : List Int}, l.Pairwise (· < ·) → l.Nodup := fun {l} h => h.imp fun {a b} q e => by omega
  have pm : ms.Perm (usort ns) := (List.perm_ext_iff_of_nodup (nd h1) (nd (usort_pair ns))).mpr fun a => by rw [h2, usort_mem]
  exact List.Perm.eq_of_pairwise (le := (· < ·)) (fun a b _ _ p q => by omega) h1 (usort_pair ns) pm
section
variable {C : Cx} {X : Fx} {W : WX} {Z F H : Hp} {r : List Val} {σ : L2.St} {e : Expr} {pos : Pos}
def rSetI (K : PySem.W.Frag) (w : World) : List V → Hp → VK → Prop := fun xs H Q => ∃ (a : Addr) (ns : List Int), xs = [.ref a] ∧ SqT K H a (ns.map V.int) ∧ ns.length ≤ 60 ∧ ∀ p c, c ≤ ns.length → H p = none → Q (.ref p) (upd H p (SetO w p (fun j => decide (j ∈ ns)) c))
theorem cr_setI (hc : C.calm = true) : CallR C (.type "set") (rSetI C.K C.w) := by
  intro pins s σ H vs us Q I rx ⟨a, ns, ex, hq, hl, q⟩
  subst ex
  rw [Vals.ref1 rx]
  obtain ⟨its, rv, pt, hz⟩ := I.tuple hq
  have hi : IntsAre its.toArray.toList ns := ints_of_vals rv
  refine call_set_tupI ns (I.ok.hd hc) (show s.heap.IsTuple a its.toArray from pt) hi (by unfold scanBound; omega) fun h' tk c R1 hcn k => ?_
  exact ⟨.ref s.heap.objs.size, _, I.laid (t' := tk) k (Nat.le_refl _) (setO_new R1), rfl, q _ c hcn (I.hok.fresh (Nat.le_refl _))⟩
def ssetD : D → Option Val
  | .tuple ds => (intsD ds).bind fun ns => if ns.length ≤ 60 then some (.ol ((usort ns).map .int)) else none
  | _ => none
theorem usort_len : ∀ l : List Int, (usort l).length ≤ l.length
  | [] => Nat.le_refl _
  | x :: xs => by
    have ih := usort_len xs
    have : ∀ l : List Int, (insU x l).length ≤ l.length + 1 := fun l => by
      induction l with
      | nil => exact Nat.le_refl _
      | cons y ys ih =>
        unfold insU
        split
        · exact Nat.le_refl _
        · split
          · exact Nat.le_succ _
          · simp only [List.length_cons]; omega
    have := this (usort xs)
    unfold usort
    simp only [List.length_cons]
    omega
theorem de_sset {o : Opd} {p p2 q : Pos} (hc : C.calm = true) (hg : Gl C "sorted") (hm : C.mg "sorted" = none) (hg2 : Gl C "set") (hm2 : C.mg "set" = none) (ha : DO C X W e o) (hv : bootBuiltins "sorted" = some (.builtin "sorted") := by decide +kernel) (hv2 : bootBuiltins "set" = some (.type "set") := by decide +kernel)
    (na : starEach [e] C.env = (false, eval e C.env) :: starEach [] C.env := by rfl) (na2 : starEach [.Call (.Name "set" p2) [e] [] q] C.env = (false, eval (.Call (.Name "set" p2) [e] [] q) C.env) :: starEach [] C.env := by rfl) (hpl : (backTo pos (starEach [] C.env)).any (·.1) = false := by rfl) (hpl2 : (backTo q (starEach [] C.env)).any (·.1) = false := by rfl)
    (hK : X.K = C.K := by rfl) : DE C X W (.Call (.Name "sorted" p) [.Call (.Name "set" p2) [e] [] q] [] pos) (una ssetD o) := by
  refine PE.imp (pe_callB (cr_sortedSet hc) hg hm hv (pa_cons (pe_callTy (cr_setI hc) hg2 hm2 hv2 (pa_cons ha pa_nil na) (by decide) (by decide) na hpl2) pa_nil na2) (by decide) (by decide) na2 hpl) fun σ H Q h => ?_
  refine una_run h fun x H1 hq => ?_
  obtain ⟨Z, d, v, hz, hx, hf, fr⟩ := hq
  unfold ssetD at hf
  split at hf
  · rename_i ds
    obtain ⟨ns, e1, e2⟩ := Option.bind_eq_some_iff.mp hf
    split at e2
    · rename_i hl
      cases e2
      cases hx with
      | tup s1 l q =>
        rename_i a vs
        obtain rfl := q.ints e1
        refine ⟨a, ns, rfl, SqT.at hz s1, hl, fun p c hcn np => ⟨p, _, c, rfl, upd_same, by omega, fun ms p2 m1 m2 m3 np2 => ?_⟩⟩
        have em : ms = usort ns := usort_uniq m1 fun k => by rw [m2]; exact decide_eq_true_iff
        subst em
        have s2 : Same H1 (upd H1 p (SetO C.w p (fun j => decide (j ∈ ns)) c)) := Same.upd np
        have np2' : H1 p2 = none := by
          cases e3 : H1 p2 with
          | none => rfl
          | some o => rw [s2 _ _ e3] at np2; cases np2
        have znp2 : Z p2 = none := none_of hz np2'
        refine fr (.ref p2) Z _ (s2.trans (Same.upd np2)) (Grown.refl Z H1) (hz.trans (s2.trans (Same.upd np2))) ?_
        exact ⟨p2, _, rfl, np2', upd_same, by rw [List.length_map]; exact Nat.le_trans (usort_len ns) (by rw [List.length_map] at l; exact l), reps_ints _, znp2⟩
    · cases e2
  · cases hf
end
end MS

/-! part s: enumerate of a tuple -/
namespace MS
open PySem PySem.Spec PyProof.Rows L2
open Sem (wp)
open AutoSeq1 (wpAny_loadPart')
section
variable {prog : Program} {w : World} {A : Around} {E : Value → Shared → Prop} {s : Shared}
theorem tup_draws (hh : A.handled = none) (it l : Addr) (hne : l ≠ it) (its : Array Value) : Draws prog w A it [it, l] its.size (fun i v => its[i]? = some v) (fun i h => h.IsTupleIter it l i ∧ h.IsTuple l its) := by
  refine { live := fun _ _ st => ?_, frame := fun _ _ _ st hk => ⟨st.1.at fun o e => hk it (by simp) o e, ?_⟩, item := fun i s Q E hi st hQ => ?_, done := fun s Q E st hE => RZ.nextOf_tuple_end hh st.1 st.2 (by simp) hE }
  · obtain ⟨o, ho, _⟩ := st.1
    exact ⟨o, ho⟩
  · obtain ⟨o, ho, q⟩ := st.2
    exact ⟨o, hk l (by simp) o ho, q⟩
  · exact RZ.nextOf_tuple_item st.1 st.2 (x := its[i]) (by simp [hi]) fun h' b c => hQ _ h' s.toks (by simp [hi]) ⟨b, st.2.extBut c.extBut hne⟩ c
abbrev tupIt (l : Addr) : Obj := { cls := .type "tuple_iterator", data := .fields #[.ref l, .int 0 0] }
abbrev enuO (i : Addr) : Obj := { cls := .type "enumerate", data := .fields #[.none, .bool false, .ref i, rawInt 0, .none, .none] }
theorem new_enumT (l : Addr) (its : Array Value) (n : Nat) (dct : Option Addr) (sl : Array (Option Value)) : Meets (Builtin.«enumerate.__new__» ⟨[.type "enumerate", .ref l], []⟩) (fun _ R s => s.heap.get? l = some { cls := .type "tuple", data := .seq its n, dict := dct, slots := sl } ∧
      R (.ok (.ret (.ref (s.heap.push (tupIt l)).objs.size))) { s with heap := (s.heap.push (tupIt l)).push (enuO s.heap.objs.size) }) := by
  refine .of_wp fun prog w A R s h => ?_
  obtain ⟨hp, g, d, tk, os⟩ := s
  obtain ⟨hl, h⟩ := h
  have hsub := sub_enumerate
  have hT : Heap.IsTuple (Shared.heap ⟨hp, g, d, tk, os⟩) l its := ⟨_, hl, rfl, n, rfl⟩
  wp_walk using wpAny_loadPart' hl
  refine (wpAny_stack_any fun st => wpAny_pure ?_)
  split
  · rename_i c _ _ _ _ _
    cases (c == Value.type "enumerate") <;> (wp_walk using wpAny_loadPart' hl, wpAny_pyIter_tuple hT; exact ⟨_, rfl, h⟩)
  · wp_walk using wpAny_loadPart' hl, wpAny_pyIter_tuple hT
    exact ⟨_, rfl, h⟩
theorem call_enumT {l : Addr} {its : Array Value} {Q : Value → Shared → Prop} (hT : s.heap.IsTuple l its) (h : ∀ h', IsEnum h' (s.heap.objs.size + 1) s.heap.objs.size 0 .none → h'.IsTupleIter s.heap.objs.size l 0 → (∀ b o, s.heap.get? b = some o → h'.get? b = some o) → Q (.ref (s.heap.objs.size + 1)) { s with heap := h' }) :
    wpAny (model prog w) A (call (.type "enumerate") [.ref l]) Q E s := by
  obtain ⟨⟨c, dct, dt, sl⟩, hl, hc, n, hd⟩ := hT
  replace hc : c = .type "tuple" := hc
  replace hd : dt = .seq its n := hd
  subst hc hd
  have hz : (s.heap.push (tupIt l)).objs.size = s.heap.objs.size + 1 := Heap.size_push ..
  have he : IsEnum ((s.heap.push (tupIt l)).push (enuO s.heap.objs.size)) (s.heap.objs.size + 1) s.heap.objs.size 0 .none := by
    have q := Heap.get?_push_size (s.heap.push (tupIt l)) (o := enuO s.heap.objs.size) rfl
    rwa [hz] at q
  refine callType_new F.called_enumerate (by decide) (F.typeCall_enumerate_1 _) (F.newCall_enumerate_1 _) (fun obj => F.args_object_init_2 obj _) F.entry_enumerate_new (new_enumT l its n dct sl) ⟨hl, ?_⟩
  show _ ∧ _
  rw [hz]
  exact ⟨⟨_, he, rfl⟩, h _ he ⟨_, Heap.get?_push_of_some _ (Heap.get?_push_size _ rfl), rfl, rfl⟩ fun b o x => Heap.get?_push_of_some _ (Heap.get?_push_of_some _ x)⟩
end
def IteT (K : PySem.W.Frag) (a : Addr) : It :=
  ⟨fun i H => ∃ (xs : List V) (x : V), SqT K H a xs ∧ xs[i]? = some x, fun i H v H' => ∃ T x, v = .ref T ∧ H T = none ∧ H' = upd H T (.tup [.int (i : Nat), x]) ∧ ∀ xs, SqT K H a xs → xs[i]? = some x, fun i H => ∃ xs : List V, SqT K H a xs ∧ xs.length ≤ i⟩
theorem turn_enumT {P : Program} {w : World} {K : PySem.W.Frag} {elts : List Expr} {kk : Nat} {tpos : Pos} (a e it : Addr) (hat : a ≠ it) (hae : e ≠ a) :
    Turn P w K (.Tuple elts kk tpos) (IteT K a) [e, it] e (fun i h => (∃ old, IsEnum h e it ((i : Nat) : Int) old) ∧ h.IsTupleIter it a i ∧ e ≠ it) := by
  refine { mem := by simp, obj := fun i h st b hb => ?_, keep := fun i h h' st k => ?_, item := ?_, done := ?_, self := fun A i s Q E st h => ?_ }
  · obtain ⟨⟨old, he⟩, ⟨o, ho, hc, hd⟩, _⟩ := st
    rcases (by simpa using hb : b = e ∨ b = it) with z | z
    · rw [z]; exact ⟨_, he, fun v q => nomatch q⟩
    · rw [z]; exact ⟨o, ho, fun v q => by rw [hd] at q; cases q⟩
  · obtain ⟨⟨old, he⟩, hi, hne⟩ := st
    exact ⟨⟨old, k e (by simp) _ he⟩, hi.at fun o q => k it (by simp) o q, hne⟩
  · intro X hP hw hK hc i pins s σ H E I hf st hg
    subst hP hw hK
    obtain ⟨⟨old, he⟩, hit, hne⟩ := st
    obtain ⟨xs, x, hq, hx⟩ := hg
    obtain ⟨its, rv, p, hz⟩ := I.tuple hq
    obtain ⟨u, hu, ru⟩ := rv.get hx
    have hlt : i < its.toArray.size := by
      have := (List.getElem?_eq_some_iff.mp hu).1
      simpa using this
    have hel : e < s.heap.objs.size := Heap.lt_size he
    have hil : it < s.heap.objs.size := by obtain ⟨_, q, _⟩ := hit; exact Heap.lt_size q
    have D := tup_draws (prog := X.prog) (w := X.w) (A := X.A.in1) (I.ok.hd hc) it a hat its.toArray
    refine wpAny_pyNext_enum_itemD D he ⟨hit, (show s.heap.IsTuple a its.toArray from p)⟩ hlt hne (by simp [hne, hae]) fun y h' tk hy ho hst' hT hsz hk => ?_
    have ey : y = u := by
      have : its[i]? = some y := by simpa using hy
      rw [hu] at this
      cases this
      rfl
    subst ey
    refine ⟨_, rfl, wpAny_letOwnedTupleGo_enum (s := { s with heap := h', toks := tk + 1 }) ho fun h'' he' sb => ?_⟩
    have hT2 : h''.get? s.heap.objs.size = some { cls := .type "tuple", data := .seq #[.int i tk, y] } := (sb.2 _ (Nat.ne_of_gt hel)).trans hT
    have new : ObjOk X.prog X.w (upd H s.heap.objs.size (.tup [.int (i : Nat), x])) h'' s.heap.objs.size (.tup [.int (i : Nat), x]) := ⟨by show 2 ≤ sizeLine; decide, [.int i tk, y], .cons ⟨_, rfl⟩ (.cons ru .nil), ⟨_, hT2, rfl, _, rfl⟩⟩
    have I1 : Inv X pins σ (upd H s.heap.objs.size (.tup [.int (i : Nat), x])) { s with heap := h'', toks := tk + 1 } :=
      I.turnedNew (ch := [e, it]) (fun b ob hb q => (sb.2 b fun z => hb (by simp [z])).trans (hk b ob (fun z => hb (by simp [z])) (fun z => hb (by simp [z])) q)) hf (Nat.le_refl _) new
    refine ⟨.ref s.heap.objs.size, _, I1, rfl, ⟨_, x, rfl, I.hok.fresh (Nat.le_refl _), rfl, fun ys hy => by rw [I.tuple_inj hy hq]; exact hx⟩, ⟨⟨y, ?_⟩, hst'.1.at fun o q => (sb.2 it (Ne.symm hne)).trans q, hne⟩, fun b hb => ?_⟩
    · rw [show ((i + 1 : Nat) : Int) = (i : Int) + 1 by omega]; exact he'
    · have hb' : b < s.heap.objs.size := by
        rcases (by simpa using hb : b = e ∨ b = it) with z | z
        · rw [z]; exact hel
        · rw [z]; exact hil
      rw [upd_ne (Nat.ne_of_lt hb')]
      exact (hf b hb).1
  · intro X hP hw hK hc i pins s σ H E I hf st hg
    subst hP hw hK
    obtain ⟨⟨old, he⟩, hit, hne⟩ := st
    obtain ⟨xs, hq, hx⟩ := hg
    obtain ⟨its, rv, p, hz⟩ := I.tuple hq
    obtain ⟨f0, f1, f2, f3, f4, f5⟩ := hf it (by simp)
    have hl := rv.length
    have D : Draws X.prog X.w X.A.in1 it [it, a] 0 (fun _ _ => True) (fun _ h => h.IsTupleIter it a i ∧ h.IsTuple a its.toArray) := by
      refine { live := fun _ _ st => ?_, frame := fun _ _ _ st hk => ⟨st.1.at fun o e => hk it (by simp) o e, ?_⟩, item := fun j s Q E hi => absurd hi (Nat.not_lt_zero _), done := fun s Q E st hE => RZ.nextOf_tuple_end (I.ok.hd hc) st.1 st.2 (by simp; omega) hE }
      · obtain ⟨o, ho, _⟩ := st.1
        exact ⟨o, ho⟩
      · obtain ⟨o, ho, q⟩ := st.2
        exact ⟨o, hk a (by simp) o ho, q⟩
    exact wpAny_pyNext_enum_endD D he ⟨hit, (show s.heap.IsTuple a its.toArray from p)⟩ fun h' eb => ⟨rfl, I.turned (t' := s.toks) (fun b o hb q => eb b o hb q) f0 f1 f3 f4 f5⟩
  · obtain ⟨⟨_, he⟩, _⟩ := st
    exact wpAny_pyIter_enum he h
def iEnumA (K : PySem.W.Frag) (ta : TA) : TI := fun σ H R => ta σ H fun vs H1 => ∃ a xs, vs = [.ref a] ∧ ((SqL K H1 a xs ∧ R (Ite K a) H1) ∨ (SqT K H1 a xs ∧ R (IteT K a) H1))
theorem pi_enumA {C : Cx} {e : Expr} {ta : TA} {p pos tpos : Pos} {elts : List Expr} {kk : Nat} (hg : Gl C "enumerate") (hm : C.mg "enumerate" = none) (ha : PA C [e] ta) (hs : starEach [e] C.env = [(false, eval e C.env)] := by rfl) : PI C (.Tuple elts kk tpos) (.Call (.Name "enumerate" p) [e] [] pos) (iEnumA C.K ta) := by
  refine ⟨fun pins s σ H R I h => ?_⟩
  refine Call_ (ld_blt I hg hm boot_enumerate (PyProof.Rows.callWith_type1 (thn (ha.run pos pins s σ H _ I h) fun us s1 ⟨vs, H1, I1, r1, q1⟩ => ?_) hs rfl))
  obtain ⟨a, xs, ex, q1⟩ := q1
  subst ex
  have e2 := Vals.ref1 r1
  subst e2
  have fresh2 : ∀ b, b ∈ [s1.heap.objs.size + 1, s1.heap.objs.size] → FpOk C pins H1 b := fun b hb => by
    have hle : s1.heap.objs.size ≤ b := by
      rcases (by simpa using hb : b = s1.heap.objs.size + 1 ∨ b = s1.heap.objs.size) with z | z
      · rw [z]; exact Nat.le_add_right _ _
      · rw [z]; exact Nat.le_refl _
    exact I1.fpOk hle (I1.hok.fresh hle)
  rcases q1 with ⟨hq, q⟩ | ⟨hq, q⟩
  · obtain ⟨its, rv, pl, hz⟩ := I1.list hq
    refine call_enumerate_list pl.isList fun h' he hit hsz hk => wpAny_pyIter_enum he ?_
    exact ⟨s1.heap.objs.size + 1, [s1.heap.objs.size + 1, s1.heap.objs.size], _, _, H1, rfl, I1.kept (t' := s1.toks) hk, turn_enum a (s1.heap.objs.size + 1) s1.heap.objs.size, ⟨⟨.none, he⟩, hit, Nat.succ_ne_self _⟩, fresh2, q⟩
  · obtain ⟨its, rv, pl, hz⟩ := I1.tuple hq
    obtain ⟨o1, ho1, _⟩ := id pl
    have la := Heap.lt_size ho1
    refine call_enumT (show s1.heap.IsTuple a its.toArray from pl) fun h' he hit hk => wpAny_pyIter_enum he ?_
    exact ⟨s1.heap.objs.size + 1, [s1.heap.objs.size + 1, s1.heap.objs.size], _, _, H1, rfl, I1.kept (t' := s1.toks) hk, turn_enumT a (s1.heap.objs.size + 1) s1.heap.objs.size (Nat.ne_of_lt la) (Nat.ne_of_gt (Nat.lt_succ_of_lt la)), ⟨⟨.none, he⟩, hit, Nat.succ_ne_self _⟩, fresh2, q⟩
theorem iter_enumT {X : Fx} {Z : Hp} {K : PySem.W.Frag} {a : Addr} {vs : List V} {ds : List D} (hK : X.K = K) (h1 : SqT X.K Z a vs) (q1 : Reps X.K Z vs ds) : IterOk X Z (IteT K a) (enumD 0 ds) := by
  subst hK
  intro Z1 H1 s1 s2 i
  have ha : SqT X.K H1 a vs := SqT.same (s1.trans s2) h1
  have l1 := q1.length
  refine ⟨fun hi => ?_, fun hi => ?_, fun d hd x H2 y => ?_⟩
  · rw [enum_len] at hi
    exact ⟨vs, vs[i]'(by omega), ha, List.getElem?_eq_getElem _⟩
  · rw [enum_len] at hi
    exact ⟨vs, ha, by omega⟩
  · obtain ⟨T, v, rfl, nT, rfl, yv⟩ := y
    obtain ⟨d1, rfl, g1⟩ := enum_get hd
    obtain ⟨v', e1, r1⟩ := q1.get g1
    have := yv vs ha
    rw [e1] at this
    cases this
    rw [show (0 : Int) + (i : Int) = (i : Int) by omega]
    exact pair_new s2 nT (.int _) (r1.up s1)
def enumsA : List D → Option (List D)
  | [.list a] => some (enumD 0 a)
  | [.tuple a] => some (enumD 0 a)
  | _ => none
theorem di_enumA {C : Cx} {X : Fx} {W : WX} {e : Expr} {pos : Pos} {ms : List (M Val)} {p tpos : Pos} {elts : List Expr} {kk : Nat} (hg : Gl C "enumerate") (hm : C.mg "enumerate" = none) (ha : DVs C X W [e] ms)
    (hs : starEach [e] C.env = [(false, eval e C.env)] := by rfl) (hK : X.K = C.K := by rfl) : DI C X W (.Tuple elts kk tpos) (.Call (.Name "enumerate" p) [e] [] pos) (iApp enumsA ms) :=
  PI.imp (pi_enumA hg hm ha hs) fun σ H R h => vsI_run h fun ds Z F H r xs g rs h' => by
    revert h'
    cases e1 : enumsA ds with
    | none => exact fun h => h.elim
    | some ys =>
      intro h'
      unfold enumsA at e1
      split at e1
      · cases e1
        cases rs with
        | cons r1 rs =>
          cases rs
          cases r1 with
          | lst a1 l1 q1 => exact ⟨_, _, rfl, .inl ⟨by rw [← hK]; exact LiL.sq (LiL.same g.zh a1), h' Z H (Ext.refl _ _) g _ (iter_enum hK a1 q1)⟩⟩
      · cases e1
        cases rs with
        | cons r1 rs =>
          cases rs
          cases r1 with
          | tup a1 l1 q1 => exact ⟨_, _, rfl, .inr ⟨by rw [← hK]; exact SqT.at g.zh a1, h' Z H (Ext.refl _ _) g _ (iter_enumT hK (.inl (.inl a1)) q1)⟩⟩
      · cases e1
end MS

/-! part t: a call whose first argument is a new list -/
namespace MS
open PySem PySem.Spec PyProof.Rows L2
def callO1 (g : Fn) (v : Val) (ms : List (M Val)) : M Val := fun r1 => match vals ms r1 with
  | .ok ds r2 => match g (v :: ds.map .fz) with
    | .ok v _ => .ok v r2
    | .exc c es _ => .exc c es r2
    | .err => .err
  | .exc c es r' => .exc c es r'
  | .err => .err
def callO (g : Fn) (m : M Val) (ms : List (M Val)) : M Val := fun r => match m r with
  | .ok (.ol xs) r1 => callO1 g (.ol xs) ms r1
  | .ok (.ow t) r1 => callO1 g (.ow t) ms r1
  | .ok _ _ => .err
  | .exc c es r' => .exc c es r'
  | .err => .err
section
variable {C : Cx} {X : Fx} {W : WX} {Z F F' H : Hp} {r : List Val} {σ : L2.St} {e : Expr} {es : List Expr} {pos p : Pos}
theorem Ext.less {Z' : Hp} (x : Ext Z Z' F') (s : Same F F') : Ext Z Z' F := ⟨x.1, fun b o e t n => x.2 b o (s b o e) t n⟩
/-- some objects more are framed -/
def withA (F H : Hp) (A : List Addr) : Hp := fun b => if b ∈ A then H b else F b
theorem withA_in {A : List Addr} {b : Addr} (h : b ∈ A) : withA F H A b = H b := if_pos h
theorem withA_out {A : List Addr} {b : Addr} (h : b ∉ A) : withA F H A b = F b := if_neg h
theorem callO1_run {np : Nat} {gf : Fn} {v : Val} {y : V} {ms : List (M Val)} {Q : VK} (hnp : ms.length + 1 = np) (g1 : G X Z F r σ H) (rv : RV X Z F H r σ y v)
    (h : After X W (callO1 gf v ms r) Z F σ fun v r' Z' H' => ∀ x, RV X Z' F H' r' σ x v → Q x H') : rdVs X W ms σ H fun ys H2 => spF X.K X.ex np gf (y :: ys) H2 Q (L2.WE W σ) := by
  obtain ⟨sl, ou⟩ := rv.slot
  generalize hA : foot H (some (some y)) v = A at *
  have F01 : Same F (withA F H A) := fun b o e => by
    have : b ∉ A := fun q => by
      have := (sl.at b (by rw [hA]; exact q)).2.2
      rw [e] at this; cases this
    rw [withA_out this]; exact e
  -- the new thing is framed while the rest is reckoned
  have g1' : G X Z (withA F H A) r σ H := (g1.moved g1.zh (fun b o e => by
    by_cases q : b ∈ A
    · rw [withA_in q] at e; exact e
    · rw [withA_out q] at e; exact g1.fh b o e) (Same.refl _) (g1.hh.trans F01) (fun i u e b hb => ⟨rfl, ((g1.sl i u e).at b hb).2.1, by
      rw [withA_out fun q => ou b q i u e hb]
      exact ((g1.sl i u e).at b hb).2.2⟩) g1.nz (fun b hb => by
        by_cases q : b ∈ A
        · obtain ⟨⟨o, h1, nt⟩, _⟩ := sl.at b (by rw [hA]; exact q)
          exact absurd hb (tab_ne g1.tb h1 nt.not)
        · rw [withA_out q]
          exact g1.nf b hb) g1.tb).1
  refine ⟨Z, _, r, g1', ?_⟩
  revert h
  unfold callO1
  cases ev : vals ms r with
  | exc c ds r' => exact fun h cls d Z' H' x ex g => h cls d Z' H' x (ex.less F01) (g.less F01 g1.hh)
  | err => exact fun h => h
  | ok ds r2 =>
    simp only
    intro h Z2 H2 ex2 g2' ys rs
    have ln := vals_len ev
    have keep : ∀ b ∈ A, H2 b = H b ∧ Z2 b = none := fun b q => by
      obtain ⟨⟨o, h1, nt⟩, z, _⟩ := sl.at b (by rw [hA]; exact q)
      have w : withA F H A b = some o := (withA_in q).trans h1
      exact ⟨(g2'.fh b o w).trans h1.symm, ex2.2 b o w (OwnO.nt nt) z⟩
    obtain ⟨sl2, e2⟩ := sl.congr (H' := H2) (F' := F) (fun b hb => (keep b (by rw [← hA]; exact hb)).1) ex2.1 fun b hb => ⟨(keep b (by rw [← hA]; exact hb)).2, (sl.at b hb).2.2⟩
    have g2 := g2'.less F01 g1.hh
    have hA2 : ∀ b ∈ foot H2 (some (some y)) v, F b = none ∧ Out H2 r2 σ b := fun b hb => by
      rw [e2, hA] at hb
      obtain ⟨⟨o, h1, nt⟩, z, f⟩ := sl.at b (by rw [hA]; exact hb)
      exact ⟨f, g2'.out (.inr (.inr (by rw [withA_in hb, h1]; exact fun z => nomatch z)))⟩
    refine ⟨by rw [List.length_cons, rs.length, ln, hnp], Z2, _, _, call_inA g2 rs sl2, ?_⟩
    revert h
    cases gf (v :: ds.map .fz) with
    | err => exact fun h => h
    | exc c es outs => exact fun h cls d Z' H' x ex g' => h cls d Z' H' x ((ex2.less F01).trans (call_outA g2 hA2 ex g').1) (call_outA g2 hA2 ex g').2.1
    | ok v outs =>
      intro h Z' H' ex g' x rv
      obtain ⟨ex3, g3, o1, o2⟩ := call_outA g2 hA2 ex g'
      exact h Z' H' ((ex2.less F01).trans ex3) g3 x (rv.to fun b _ n _ => ⟨none_of (offA_from g2.fh (fun b hb => (hA2 b hb).1) g2.nf) n, o2 b (o1 b n)⟩)
theorem callO_run {np : Nat} {gf : Fn} {m : M Val} {ms : List (M Val)} {Q : VK} (hnp : ms.length + 1 = np) (h : rdE X W (callO gf m ms) σ H Q) : tCallS (spF X.K X.ex np gf) (L2.WE W) (tCons (rdE X W m) (rdVs X W ms)) σ H Q := by
  obtain ⟨Z, F, r, g, h⟩ := h
  refine ⟨Z, F, r, g, ?_⟩
  revert h
  unfold callO
  cases m r with
  | exc c ds r' => exact fun h => h
  | err => exact fun h => h
  | ok v r1 =>
    cases v with
    | un => exact fun h => h.elim
    | fz d => exact fun h => h.elim
    | od d => exact fun h => h.elim
    | ol xs => exact fun h Z1 H1 ex1 g1 y rv => callO1_run hnp g1 rv (h.ext ex1)
    | ow t => exact fun h Z1 H1 ex1 g1 y rv => callO1_run hnp g1 rv (h.ext ex1)
theorem de_callOD {k : Nat} {ps : List Str} {x : Str} {gf : Fn} {m : M Val} {ms : List (M Val)} (d : DefM C.prog C.w C.K C.mg C.base X.ex k x ps gf) (hr : Room k C.A) (hg : Gl C x) (tk : L2N.Takes C W) (hm : DE C X W e m) (ha : DVs C X W es ms) (hnp : ms.length + 1 = ps.length := by rfl)
    (hdb : (x == ("__debug__" : Str)) = false := by decide) (he : starEach (e :: es) C.env = (false, eval e C.env) :: starEach es C.env := by rfl) (hpl : (backTo pos (starEach es C.env)).any (·.1) = false := by rfl) (hK : X.K = C.K := by rfl) : DE C X W (.Call (.Name x p) (e :: es) [] pos) (callO gf m ms) := by
  obtain ⟨f, fd, h1, h2, h3, h4⟩ := d
  exact PE.imp (pe_callG h1 hr hg h2 h3 h4 (fun σ => L2N.passAt tk σ) (pa_cons hm ha he) hdb he hpl) fun _ _ _ h => by rw [← hK]; exact callO_run hnp h
end
end MS

/-! part u: methods that only look; tables of defs -/
namespace MS
open PySem PySem.Spec PyProof.Rows L2
/-- a method of a list (by its value) with one argument, that changes nothing -/
def eRm (g : D → D → Option Val) (a b : Opd) : M Val := fun r => match a.pre r with
  | .ok (.list ds) r1 => match b.pre r1 with
    | .ok e r2 => match a.look (.list ds) r2 with
      | some (.list xs) => match g (.list xs) e with
        | some v => .ok v r2
        | none => .err
      | _ => .err
    | .exc c ds r' => .exc c ds r'
    | .err => .err
  | .ok _ _ => .err
  | .exc c ds r' => .exc c ds r'
  | .err => .err
def RmR (C : Cx) (id : String) (g : D → D → Option Val) : Prop := ∃ r, MtR C id r ∧ ∀ (Z H : Hp) (x y : V) (xs : List D) (d : D) (v : Val) (Q : VK), g (.list xs) d = some v → Same Z H → RepH C.K Z H x (.list xs) → RepH C.K Z H y d → Fresh C.K Z H v Q → r x [y] H Q
section
variable {C : Cx} {X : Fx} {W : WX} {Z F H : Hp} {r : List Val} {σ : L2.St} {a b : Expr} {pos : Pos}
theorem rm_run {g : D → D → Option Val} {oa ob : Opd} {Q : VK} {r0 : V → List V → Hp → VK → Prop} (hK : X.K = C.K)
    (hr0 : ∀ (Z H : Hp) (x y : V) (xs : List D) (d : D) (v : Val) (Q : VK), g (.list xs) d = some v → Same Z H → RepH C.K Z H x (.list xs) → RepH C.K Z H y d → Fresh C.K Z H v Q → r0 x [y] H Q) (h : rdE X W (eRm g oa ob) σ H Q) : tBM C.K "list" r0 (rdO X W oa) (tCons (rdO X W ob) tNil) σ H Q := by
  obtain ⟨Z, F, r, gg, h⟩ := h
  refine opd_run gg ?_
  revert h
  unfold eRm
  cases e : oa.pre r with
  | exc c ds r' => exact fun h => h
  | err => exact fun h => h
  | ok d r1 =>
    cases d with
    | list ds =>
      intro h Z1 H1 ex1 g1 x hx
      have hx0 : RepH X.K Z1 H1 x (.list ds) := by
        cases oa with
        | v m => exact Rep.here hx g1.zh
        | sl i =>
          have e2' : (match slotD r i with | some d => (Res.ok d r : Res D) | none => .err) = .ok (.list ds) r1 := e
          cases e4 : slotD r i with
          | none => rw [e4] at e2'; cases e2'
          | some z => rw [e4] at e2'; cases e2'; exact Held.look (o := .sl i) g1 hx e4
      refine ⟨?_, ?_⟩
      · obtain ⟨p, vs, rfl, r1, l, q⟩ := hx0
        rw [← hK]
        exact .inl ⟨rfl, vs, LiL.sq r1⟩
      refine opd1_run g1 ?_
      revert h
      simp only
      show After X W (match ob.pre r1 with | .ok e r2 => (match oa.look (.list ds) r2 with | some (.list xs) => (match g (.list xs) e with | some v => .ok v r2 | none => .err) | _ => .err) | .exc c ds r' => .exc c ds r' | .err => .err) Z F σ _ → After X W (ob.pre r1) Z1 F σ _
      cases e2 : ob.pre r1 with
      | exc c ds r' => exact fun h => h.ext ex1
      | err => exact fun h => h
      | ok k r2 =>
        simp only
        cases e3 : oa.look (.list ds) r2 with
        | none => exact fun h => h.elim
        | some d' =>
          cases d' with
          | list xs =>
            simp only
            cases e5 : g (.list xs) k with
            | none => exact fun h => h.elim
            | some v =>
              intro h Z2 H2 ex2 g2 y hy
              have hx2 := Held.look g2 (hx.up ex2.1) e3
              exact hr0 Z2 H2 x y xs k v Q e5 g2.zh (by rw [← hK]; exact hx2) (by rw [← hK]; exact hy) (by rw [← hK]; exact Fresh.of g2 fun Z3 H3 ex3 g3 x rv => h Z3 H3 ((ex1.trans ex2).trans ex3) g3 x rv)
          | _ => exact fun h => h.elim
    | _ => exact fun h => h.elim
theorem de_rm {id : String} {g : D → D → Option Val} {name : Str} {oa ob : Opd} {apos : Pos} (R : RmR C id g) (slot : Slot "list" name id) (hty : typeOf (.builtin id) = pure (.type "method_descriptor")) (ha : DO C X W a oa) (hb : DO C X W b ob)
    (hbase : attributeBase a name C.env (eval a C.env) = eval a C.env := by rfl)
    (hfew : ((backTo pos (starEach [b] C.env)).all (fun x => !x.1) && (backToKw pos (keywordEach [] C.env)).all (fun x => x.1.isSome)
      && decide ([b].length + ([] : List Keyword).length + (if ([] : List Keyword).isEmpty then 0 else 1) < 30)) = true := by rfl)
    (hline : (apos.endLine == pos.line) = true := by rfl) (hs : starEach [b] C.env = (false, eval b C.env) :: starEach [] C.env := by rfl) (hplain : (backTo pos (starEach [] C.env)).any (·.1) = false := by rfl) (hK : X.K = C.K := by rfl) :
    DE C X W (.Call (.Attribute a name apos) [b] [] pos) (eRm g oa ob) := by
  obtain ⟨r0, hm, hr0⟩ := R
  exact PE.imp (pe_bm PySem.F.plainAttrs_list slot hty hm ha (pa_cons hb pa_nil hs) hbase hfew hline hs hplain) fun _ _ _ h => rm_run hK hr0 h
/-! count, index -/
def rCntD (K : PySem.W.Frag) : V → List V → Hp → VK → Prop := fun x xs H Q => ∃ (a : Addr) (y : V) (d : PyData) (ds : List PyData), x = V.ref a ∧ xs = [y] ∧ Dp K H (V.ref a) (.list ds) ∧ Dp K H y d ∧
  SeqAt.shaped (.list ds) = true ∧ SeqAt.shaped d = true ∧ Q (.int (ds.countP fun z => PyData.eqv z d : Nat)) H
theorem mt_cntD (hu : C.A.units + 65 < cLine) : MtR C "list.count" (rCntD C.K) := by
  intro pins s σ H x xs v us Q I rx rxs h
  obtain ⟨a, y, d, ds, rfl, rfl, hl, hy, sl, sd, q⟩ := h
  cases rx
  cases rxs with
  | cons ry rt =>
    rename_i uy ut
    cases rt
    obtain ⟨bs, r1⟩ := Dp.reads I d y uy hy ry
    have hxs : PyData.canLayAll0 ds = true := SeqAt.canLay_of_shaped sl
    have hroom : C.A.units + 1 + min (PyData.depthAll ds) d.depth < cLine := room_in_shaped sd hu
    cases hl with
    | lst hs ha =>
      obtain ⟨its, rv, ⟨⟨cls, dd, data, sls⟩, n, ho, hc, hdn, hdt⟩, hlen⟩ := I.list hs
      simp only at hc hdt
      subst hc hdt
      obtain ⟨as, h4⟩ := Dp.readsAll I ds _ its ha rv
      have hmap : its.map (SeqAt.readOf s.heap) = ds := SeqAt.readsAll_map ds its as hxs h4
      have ec : its.toArray.toList.countP (fun u => PyData.eqv (SeqAt.readOf s.heap u) d) = ds.countP fun z => PyData.eqv z d := by
        rw [← hmap, List.countP_map]
        rfl
      refine call_meets PySem.F.slot_list_count ⟨_, ho, rfl⟩ PySem.F.entry_list_count (PySem.F.args_list_count_2 _ _)
        (SeqAt.list_countAt a its.toArray n dd sls uy (fun u => PyData.eqv (SeqAt.readOf s.heap u) d)) ⟨ho, SeqAt.items_eqAt (vs := its.toArray) (show ReadsAll s.heap its.toArray.toList ds as from h4) r1 hxs (SeqAt.canLay_of_shaped sd) hroom, ?_⟩
      refine ⟨.int (ds.countP fun z => PyData.eqv z d : Nat), H, I.tok _, ⟨s.toks, ?_⟩, q⟩
      show Value.int ((its.toArray.toList.countP _ : Nat) : Int) s.toks = _
      rw [ec]
def cntD : D → D → Option Val
  | .list ds, d => if (SeqAt.shaped d && SeqAt.shaped (.list ds)) = true then some (.fz (.int (ds.countP fun z => PyData.eqv z d : Nat))) else none
  | _, _ => none
def idxD : D → D → Option Val
  | .list ds, d => if (SeqAt.shaped d && SeqAt.shaped (.list ds)) = true then (ds.findIdx? fun z => PyData.eqv z d).map fun j => .fz (.int (j : Nat)) else none
  | _, _ => none
theorem rep_dp {K : PySem.W.Frag} {Z H : Hp} {x : V} {d : D} (hz : Same Z H) (h : RepH K Z H x d) (s : SeqAt.shaped d = true) : Dp K H x d := Rep.dp d x (SeqAt.canLay_of_shaped s) (h.all hz)
theorem rm_count (hu : C.A.units + 65 < cLine) : RmR C "list.count" cntD := by
  refine ⟨_, mt_cntD hu, fun Z H x y xs d v Q hg hz hx hy fr => ?_⟩
  have hg' : (if (SeqAt.shaped d && SeqAt.shaped (.list xs)) = true then some (Val.fz (.int (xs.countP fun z => PyData.eqv z d : Nat))) else none) = some v := hg
  split at hg'
  · rename_i hs
    cases hg'
    rw [Bool.and_eq_true] at hs
    have h1 := rep_dp hz hx hs.2
    obtain ⟨a, vs, rfl, _⟩ := hx
    exact ⟨a, y, d, xs, rfl, rfl, h1, rep_dp hz hy hs.1, hs.2, hs.1, fr.sc hz (.int _)⟩
  · cases hg'
theorem rm_index (hu : C.A.units + 65 < cLine) : RmR C "list.index" idxD := by
  refine ⟨_, mt_indexD hu, fun Z H x y xs d v Q hg hz hx hy fr => ?_⟩
  have hg' : (if (SeqAt.shaped d && SeqAt.shaped (.list xs)) = true then (xs.findIdx? fun z => PyData.eqv z d).map (fun j => Val.fz (.int (j : Nat))) else none) = some v := hg
  split at hg'
  · rename_i hs
    rw [Bool.and_eq_true] at hs
    obtain ⟨j, e1, e2⟩ := Option.map_eq_some_iff.mp hg'
    subst e2
    have h1 := rep_dp hz hx hs.2
    obtain ⟨a, vs, rfl, _⟩ := hx
    obtain ⟨hj, e3, e4⟩ := List.findIdx?_eq_some_iff_getElem.mp e1
    refine ⟨a, y, d, xs, j, xs[j], rfl, rfl, h1, rep_dp hz hy hs.1, hs.2, hs.1, List.getElem?_eq_getElem hj, e3, fun m z hm ez => ?_, fr.sc hz (.int _)⟩
    obtain ⟨hm', ez'⟩ := List.getElem?_eq_some_iff.mp ez
    subst ez'
    simpa using e4 m hm
  · cases hg'
theorem hu65 {k : Nat} {A : Around} (r : Room k A) : A.units + 65 < cLine := by have := r.un; omega
end
/-! ### a table of defs: [f, g][i](..) -/
def callT (gs : List Fn) (ix : M Val) (ms : List (M Val)) : M Val := fun r => match frz ix r with
  | .ok (.int i) r1 => match L2.atI gs i with
    | some g => callV g ms r1
    | none => .err
  | .ok _ _ => .err
  | .exc c ds r' => .exc c ds r'
  | .err => .err
inductive DefT (C : Cx) (X : Fx) (np : Nat) : List Expr → List Fn → Prop
  | nil : DefT C X np [] []
  | cons {k : Nat} {x : Str} {p : Pos} {ps : List Str} {g : Fn} {es : List Expr} {gs : List Fn} (d : DefM C.prog C.w C.K C.mg C.base X.ex k x ps g) (hnp : ps.length = np) (hr : Room k C.A) (hg : Gl C x) (hdb : (x == ("__debug__" : Str)) = false) (r : DefT C X np es gs) : DefT C X np (.Name x p :: es) (g :: gs)
def FnAt (C : Cx) (X : Fx) (np : Nat) (f : Addr) (g : Fn) : Prop := ∃ (k : Nat) (fd : FuncData) (ps : List Str), ps.length = np ∧ Room k C.A ∧ FnM C.prog C.w C.K C.mg C.base X.ex k f fd ps g ∧ PySem.W.keepIn C.K (.ref f) = true ∧ Binds C.K fd ps []
section
variable {C : Cx} {X : Fx} {W : WX} {Z F H : Hp} {r : List Val} {σ : L2.St} {a b : Expr} {pos : Pos}
theorem dt_pa {np : Nat} {es : List Expr} {gs : List Fn} (d : DefT C X np es gs) : ∃ fs : List Addr, fs.length = gs.length ∧ (∀ (i : Nat) (g : Fn), gs[i]? = some g → ∃ f, fs[i]? = some f ∧ FnAt C X np f g) ∧ PA C es (fun σ H Q => Q (fs.map V.ref) H) := by
  induction d with
  | nil => exact ⟨[], rfl, fun i g e => by simp at e, pa_nil⟩
  | cons d hnp hr hg hdb r ih =>
    obtain ⟨f, fd, h1, h2, h3, h4⟩ := d
    obtain ⟨fs, l, q, pa⟩ := ih
    refine ⟨f :: fs, by simp [l], fun i g e => ?_, ?_⟩
    · cases i with
      | zero => simp at e; subst e; exact ⟨f, rfl, _, fd, _, hnp, hr, h1, h3, h4⟩
      | succ i => exact q i g (by simpa using e)
    · exact pa_cons (pe_glob (v := .ref f) hg h2 rfl hdb) pa rfl
theorem unF {p : Addr} {o : HO} (nF : F p = none) (hh : Same X.hx F) (g : G X Z (upd F p o) r σ H) : G X Z F r σ H := g.less (Same.upd nF) hh
theorem unE {p : Addr} {o : HO} {Z' : Hp} (nF : F p = none) (x : Ext Z Z' (upd F p o)) : Ext Z Z' F := ⟨x.1, fun b u e t n => x.2 b u (by rw [upd_ne (fun hb => by rw [hb, nF] at e; cases e)]; exact e) t n⟩
/-- a new thing, that nobody else has, is framed -/
theorem G.framed (g : G X Z F r σ H) {p : Addr} {o : HO} (n : H p = none) (hn : ∀ ps, o ≠ .tbl ps := by exact fun _ h => nomatch h) : G X Z (upd F p o) r σ (upd H p o) :=
  (g.grow (Same.upd n) (Grown.refl Z H) (g.zh.trans (Same.upd n))).frame upd_same (none_of g.fh n) ((g.out (.inl n)).grow g (Same.upd n) (Grown.refl Z H)) hn
theorem de_callT {np : Nat} {fns : List Expr} {gs : List Fn} {e : Expr} {es : List Expr} {ix : M Val} {ms : List (M Val)} {p1 p2 : Pos} (d : DefT C X np fns gs) (tk : L2N.Takes C W) (hi : DE C X W b ix) (ha : DVs C X W (e :: es) ms) (hnp : ms.length = np := by rfl) (hl : gs.length ≤ 1000 := by decide)
    (hs : PlainIx b := by intro _ _; rfl) (hcall : eval (.Call (.Subscript (.List fns p1) b p2) (e :: es) [] pos) C.env = (do callWith pos (← eval (.Subscript (.List fns p1) b p2) C.env) [] (backTo pos (starEach (e :: es) C.env)) (backToKw pos (keywordEach [] C.env))) := by rfl)
    (he : starEach (e :: es) C.env = (false, eval e C.env) :: starEach es C.env := by rfl) (hpl : (backTo pos (starEach es C.env)).any (·.1) = false := by rfl) (hK : X.K = C.K := by rfl) : DE C X W (.Call (.Subscript (.List fns p1) b p2) (e :: es) [] pos) (callT gs ix ms) := by
  obtain ⟨fs, lf, hf, pa⟩ := dt_pa d
  have hfun := pe_ix ix_list (pe_lst pa (pos := p1)) hi hs (pos := p2)
  have hgo : PE C (.Call (.Subscript (.List fns p1) b p2) (e :: es) [] pos) (fun σ H Q => tOp (rIxL C.K) (tLst (fun σ H Q => Q (fs.map V.ref) H)) (rdE X W ix) σ H fun v H1 => ∃ f g, v = .ref f ∧ FnAt C X np f g ∧ tCallS (spF C.K X.ex np g) (L2.WE W) (rdVs X W ms) σ H1 Q) := by
    refine ⟨fun pins s σ H Q I h => Call_ (thn (hfun.run pins s σ H _ I h) fun u s1 ⟨v, H1, I1, rv, f, g, ev, ⟨k, fd, ps, enp, hr, F1, kp, bd⟩, q⟩ => ?_) hcall⟩
    subst ev enp
    cases rv
    refine PySem.W.callWith_K (h₀ := C.base) I1.ok.mod.kin kp (thn (ha.run pos pins s1 σ H1 _ I1 q) fun us s2 ⟨vs, H2, I2, r2, q2⟩ => ⟨I2.kIn, ?_⟩) he hpl
    exact run_fnG F1 hr bd (L2N.passAt tk σ) I2 r2 q2
  refine PE.imp hgo fun σ H Q h => ?_
  obtain ⟨Z, F, r, g, h⟩ := h
  refine ⟨by rw [List.length_map, lf]; exact small_len hl, fun p np => ?_⟩
  have nF : F p = none := none_of g.fh np
  have g1 := g.framed (o := .lst (fs.map V.ref)) np
  refine frz_run g1 ?_
  revert h
  unfold callT
  cases e1 : frz ix r with
  | exc c ds r' => exact fun h cls d Z' H' x ex g' => h cls d Z' H' x (unE nF ex) (unF nF g.hh g')
  | err => exact fun h => h
  | ok dd r1 =>
    cases dd with
    | int i =>
      simp only
      cases e2 : L2.atI gs i with
      | none => exact fun h => h.elim
      | some gf =>
        intro h Z2 H2 ex2 g2 y ry
        cases ry
        have hH : H2 p = some (.lst (fs.map V.ref)) := g2.fh p _ upd_same
        have g3 := unF nF g.hh g2
        unfold L2.atI at e2
        cases e3 : L2.ixN gs.length i with
        | none => rw [e3] at e2; cases e2
        | some j =>
          rw [e3] at e2
          obtain ⟨f, ef, hF⟩ := hf j gf e2
          refine ⟨p, fs.map V.ref, i, .ref f, rfl, rfl, .inl (.inl hH), ?_, f, gf, rfl, hF, ?_⟩
          · unfold L2.atI
            rw [List.length_map, lf, e3]
            show (fs.map V.ref)[j]? = _
            rw [List.getElem?_map, ef]
            rfl
          · rw [← hK]
            exact callV_run hnp ⟨Z2, F, r1, g3, h.ext (unE nF ex2)⟩
    | _ => exact fun h => h.elim
end
end MS

/-! part v: try, with one clause that has a name -/
namespace MS
open PySem PySem.Spec PyProof.Rows L2
def allC : List String := ["NoNumber", "NoSet", "NoHues", "NoLot", "NoMap", "NoTurn", "NoWeights", "NoRow", "NoText", "NoLine", "NoDeed", "TooGreat"]
/-- a class of refusals that is raised, as the clauses know it -/
structure ClsX (K : PySem.W.Frag) (mg : Str → Option Value) (c : String) (D : Addr) : Prop where
  gl : mg (Str.ofString c) = some (.ref D)
  ec : ExcC K D
  ve : PySem.W.kitOne K (.ref D) (.type "ValueError") = some true
  is : ∀ T ∈ allC, ∃ DT : Addr, mg (Str.ofString T) = some (.ref DT) ∧ PySem.W.kitOne K (.ref D) (.ref DT) = some (T == c)
  em : ∀ DM : Addr, mg "MissError" = some (.ref DM) → PySem.W.exmOne K (.ref D) (.ref DM) = some true
/-- what an exception's own dict tells: there is none, or two numbers -/
def XdF (K : PySem.W.Frag) (C : Addr) (d : Option Addr) (ds : List D) (H : Hp) : Prop := (d = none ∧ ds = []) ∨ ∃ (dd : Addr) (fs : List (Str × V)) (i j : Int), d = some dd ∧ ds = [.int i, .int j] ∧ H dd = some (.xd fs) ∧
  fs.lookup ("many" : Str) = some (.int i) ∧ fs.lookup ("most" : Str) = some (.int j) ∧ PySem.W.findIn K (.ref C) "many" = some none ∧ PySem.W.findIn K (.ref C) "most" = some none
def XdOk (d : Option Addr) (H : Hp) : Prop := ∀ dd, d = some dd → ∃ fs, H dd = some (.xd fs)
theorem XdOk.mono {d : Option Addr} {H H' : Hp} (h : XdOk d H) (s : Same H H') : XdOk d H' := fun dd e => (h dd e).imp fun _ z => s _ _ z
theorem XdF.ok {K : PySem.W.Frag} {C : Addr} {d : Option Addr} {ds : List D} {H : Hp} (h : XdF K C d ds H) : XdOk d H := fun dd e => by
  rcases h with ⟨rfl, _⟩ | ⟨dd', fs, i, j, rfl, _, z, _⟩
  · cases e
  · cases e; exact ⟨fs, z⟩
/-- the part of a heap that such a dict is -/
def dxH (d : Option Addr) (H : Hp) : Hp := fun b => if d = some b then H b else none
theorem XdF.part {K : PySem.W.Frag} {C : Addr} {d : Option Addr} {ds : List D} {H : Hp} (h : XdF K C d ds H) : XdF K C d ds (dxH d H) := by
  rcases h with h | ⟨dd, fs, i, j, rfl, e, z, r⟩
  · exact .inl h
  · exact .inr ⟨dd, fs, i, j, rfl, e, (if_pos rfl).trans z, r⟩
def exNT (K : PySem.W.Frag) (mg : Str → Option Value) (T : List (Addr × Str)) : Ex := { x := fun c ds cls d H => ∃ D : Addr, cls = .ref D ∧ ClsX K mg c D ∧ XdF K D d ds H, dk := fun C => mg "Desk" = some (.ref C), tb := T }
abbrev exN (K : PySem.W.Frag) (mg : Str → Option Value) : Ex := exNT K mg []
theorem exN.part {K : PySem.W.Frag} {mg : Str → Option Value} {T : List (Addr × Str)} {c : String} {ds : List D} {cls : Value} {d : Option Addr} {H : Hp} (h : exNT K mg T c ds cls d H) : exNT K mg T c ds cls d (dxH d H) := by
  obtain ⟨D, e, cx, x⟩ := h
  exact ⟨D, e, cx, x.part⟩

/-! ### a def that is called in a clause, with the exception -/
structure FnP (P : Program) (w : World) (K : PySem.W.Frag) (mg : Str → Option Value) (base : Heap) (k : Nat) (f : Addr) (fd : FuncData) (ps : List Str) (sp : (Addr × Obj) → Sp) : Prop where
  len : ∀ p vs H Q E, sp p vs H Q E → vs.length = ps.length
  run : ∀ (A : Around) (outer : List Env) (s : Shared) (H : Hp) (args : Args) (us : List Value) (vs : List V) (Q : VK) (E : XK) (p : Addr × Obj), L2H.RoomH k A → L2H.Hot1 A p → L2H.PinOk outer H s p → Env0 P w K mg base A outer s H → BindsTo s fd args (ps.zip us) → Vals vs us → sp p vs H Q E →
    codeAny (model P w) A (.call (.ref f) args) (CR (L2N.CX P w) outer P w H s Q E) s
theorem fn_ofP {P : Program} {w : World} {K : PySem.W.Frag} {mg : Str → Option Value} {base : Heap} {k : Nat} {f : Addr} {name qual : Str} {params : Arguments} {body : List Stmt} {scope : Scope} {dV kV doc pm cdv ct oc : Value} {an od : Option Addr}
    {osl : Array (Option Value)} {N ps : List Str} {sp : (Addr × Obj) → Sp} (lk : K.lookup f = some ⟨oc, od, .func (PySem.W.fnOf name qual params body scope dV kV doc pm an cdv ct), osl⟩) (hcd : PySem.W.codeIn K cdv qual = true) (S : FnScope N ps scope)
    (len : ∀ p vs H Q E, sp p vs H Q E → vs.length = ps.length)
    (hbody : ∀ (A : Around) (outer : List Env) (s : Shared) (H : Hp) (vs : List V) (Q : VK) (E : XK) (p : Addr × Obj), L2H.Hot1 A p → L2H.RoomH k (A.deeper (envOfC qual scope s.heap.objs.size f cdv)) → sp p vs H Q E →
      ∃ t, PSs (L2H.cxH (L2N.CX P w) P w K mg base N qual scope f cdv A outer s H E p) body t ∧ t { nx := fun _ H' => Q .non H', rt := Q } (L2.start N vs) H) :
    FnP P w K mg base (k + 1) f (PySem.W.fnOf name qual params body scope dV kV doc pm an cdv ct) ps sp := by
  refine ⟨len, fun A outer s H args us vs Q E p hr hot hpin e0 hb r hsp => ?_⟩
  have hl := len _ _ _ _ _ hsp
  have KX : K.In s.heap := e0.mod.kin.keeps fun b o e => (e0.bs b o e).1
  have lim : s.heap.NoLimit := e0.mod.nolimit.keeps fun b o e => (e0.bs b o e).1
  have hkind : ∀ y ∈ ps.zip us, scope.names.lookup y.1 = some .local ∨ (scope.names.lookup y.1 = some .cell ∧ ((cellsFrom (s.heap.objs.size + 1) scope.names []).lookup y.1).isSome = true) := fun ⟨n, v⟩ hy => by
    rcases S.par n (List.of_mem_zip hy).1 with q | q
    · exact .inl q
    · exact .inr ⟨q, PySem.W.cellsFrom_some _ _ _ (.inl q)⟩
  refine codeAny_call_function hr.depth (KX _ _ lk) rfl S.co S.gen rfl (PySem.W.codeRec_of KX hcd) (hb _ _ _ _ ?_)
  refine wpAny_newFunctionEnv_cells S.kind hkind fun env he s1 x => ?_
  subst he
  refine ⟨lim.keeps x.toInCall.keep, codeAny_func ?_⟩
  obtain ⟨t, ht, hq⟩ := hbody A outer s H vs Q E p hot (hr.deeper _) hsp
  have I : Inv (L2H.cxH (L2N.CX P w) P w K mg base N qual scope f cdv A outer s H E p) [] (L2.start N vs) H s1 := L2H.inv_startH S hpin e0 hl r x
  refine wpAny_mono (ht.run [] s1 (L2.start N vs) H _ I hq) (fun fl s' hs => ?_) fun e s' hs => hs
  have fin : ∀ {σ' : L2.St} {H' : Hp} {v : V} {u : Value}, Inv (L2H.cxH (L2N.CX P w) P w K mg base N qual scope f cdv A outer s H E p) [] σ' H' s' → RelV v u → Q v H' → CE outer P w H s Q u s' :=
    fun {σ' H' v u} J rv q => ⟨v, H', J.os, J.bare, J.base, J.hok, rv, q⟩
  cases fl with
  | ret u =>
    obtain ⟨v, σ', H', J, rv, q⟩ := hs
    exact fin J rv q
  | next =>
    obtain ⟨σ', H', J, q⟩ := hs
    exact fin (v := V.non) (u := Value.none) J rfl q
  | brk =>
    obtain ⟨_, _, _, q⟩ := hs
    exact False.elim q
  | cont =>
    obtain ⟨_, _, _, q⟩ := hs
    exact False.elim q
/-- such a def tells a word by the class -/
def spE (K : PySem.W.Frag) (mg : Str → Option Value) (kw : String → Option Str) : (Addr × Obj) → Sp := fun p vs H Q _ => vs = [.ref p.1] ∧ (∃ os, p.2.data = .fields os) ∧ ∃ (c : String) (D : Addr) (d : Option Addr) (w : Str), ClsX K mg c D ∧ Zc (.ref D) d p.2 ∧ XdOk d H ∧ kw c = some w ∧ ∃ T, LamX.Tabs T H ∧ ∀ H', Same (noT T H) H' → LamX.Tabs T H' → Q (.str w) H'
def kwOf (body : String → M Fl) (n : Nat) (c : String) : Option Str := match body c (List.replicate n .un) with
  | .ok (.rt (.fz (.str w))) _ => some w
  | _ => none
def DefE (P : Program) (w : World) (K : PySem.W.Frag) (mg : Str → Option Value) (base : Heap) (k : Nat) (x : Str) (kw : String → Option Str) : Prop :=
  ∃ (f : Addr) (fd : FuncData) (ps : List Str), FnP P w K mg base k f fd ps (spE K mg kw) ∧ ps.length = 1 ∧ mg x = some (.ref f) ∧ PySem.W.keepIn K (.ref f) = true ∧ Binds K fd ps []
theorem xd_noT {T : List (Addr × Str)} {d : Option Addr} {H : Hp} (h : XdOk d H) (t : LamX.Tabs T H) : XdOk d (noT T H) := fun b e => by
  obtain ⟨fs, q⟩ := h b e
  exact ⟨fs, noT_at q t fun _ z => nomatch z⟩
theorem fn_okE {P : Program} {w : World} {K : PySem.W.Frag} {mg : Str → Option Value} {base : Heap} {x qual : Str} {st : Stmt} {f : Addr} {fd : FuncData} {N ps : List Str} {k : Nat} {body : String → M Fl} (F : Fun K x qual st f fd) (S : FnScope N ps (defScope st)) (hps : ps.length = 1)
    (hbody : ∀ (T : List (Addr × Str)) (cdv : Value) (A : Around) (outer : List Env) (s : Shared) (H : Hp) (E : XK) (a : Addr) (oe : Obj) (c : String) (D : Addr) (d : Option Addr), L2H.RoomH k (A.deeper (envOfC qual (defScope st) s.heap.objs.size f cdv)) → ClsX K mg c D → Zc (.ref D) d oe → (∃ os, oe.data = .fields os) → XdOk d (noT T H) →
      DSs (L2H.cxH (L2N.CX P w) P w K mg base N qual (defScope st) f cdv A outer s H E (a, oe)) ⟨K, [0], L2.start N [.ref a], { exAll with tb := T }, noT T H⟩ WN (defBody st) (body c)) : FnP P w K mg base (k + 1) f fd ps (spE K mg (kwOf body N.length)) := by
  obtain ⟨oc, od, kV, doc, pm, an, cdv, ct, osl, rfl, lk, hcd⟩ := F.ex
  have hpl : ps.length ≤ N.length := by have := congrArg List.length S.pre; rw [List.length_take] at this; omega
  refine fn_ofP lk hcd S (fun p vs H Q E h => by rw [h.1, hps]; rfl) fun A outer s H vs Q E p hot hr hsp => ?_
  obtain ⟨rfl, hf, c, D, d, w, cx, hz, hxd, hk, T, hT, hq⟩ := hsp
  obtain ⟨a, oe⟩ := p
  refine ⟨_, hbody T cdv A outer s H E a oe c D d hr cx hz hf (xd_noT hxd hT), noT T H, noT T H, List.replicate N.length .un, ?_, ?_⟩
  · refine ⟨noT_same, noT_same, ?_, fun i v e => ?_, fun i j v u p e1 e2 o1 o2 => ?_, fun i _ => rfl, Same.refl _, noT_no, noT_no, hT⟩
    · unfold L2.start
      rw [List.length_append, List.length_map, List.length_replicate, List.length_replicate]
      show N.length = 1 + (N.length - 1)
      omega
    · obtain rfl := List.eq_of_mem_replicate (List.mem_of_getElem? e)
      exact True.intro
    · obtain rfl := List.eq_of_mem_replicate (List.mem_of_getElem? e1)
      rw [foot_un] at o1; cases o1
  · unfold kwOf at hk
    revert hk
    cases body c (List.replicate N.length .un) with
    | err => exact fun h => nomatch h
    | exc c ds r' => exact fun h => nomatch h
    | ok fl r' =>
      cases fl with
      | nx => exact fun h => nomatch h
      | bk => exact fun h => nomatch h
      | ct => exact fun h => nomatch h
      | rt v =>
        cases v with
        | un => exact fun h => nomatch h
        | ol xs => exact fun h => nomatch h
        | od xs => exact fun h => nomatch h
        | ow xs => exact fun h => nomatch h
        | fz d =>
          cases d with
          | str w' =>
            intro h
            cases h
            intro σ' Z' H' ex g' x rv
            cases rv
            exact hq H' g'.fh g'.tb
          | _ => exact fun h => nomatch h

section
variable {C : Cx} {X : Fx} {W : WX} {Z F H : Hp} {r : List Val} {σ : L2.St} {pos : Pos}
/-- isinstance(e, c), e's object pinned -/
def rIsP (K : PySem.W.Frag) (D a : Addr) (d : Option Addr) : List V → Hp → VK → Prop := fun xs H Q => ∃ (c : V) (cv : Value) (b : Bool), xs = [.ref a, c] ∧ (∀ u, RelV c u → u = cv) ∧ PySem.W.kitOne K (.ref D) cv = some b ∧ XdOk d H ∧ Q (.bl b) H
theorem inst_xd {pins : List (Addr × Obj)} {s : Shared} {a D : Addr} {d : Option Addr} {oe : Obj} (I : Inv C pins σ H s) (ha : s.heap.get? a = some oe) (hz : Zc (.ref D) d oe) (hf : ∃ vs, oe.data = .fields vs) (hx : XdOk d H) : ∃ od, PySem.W.InstAt s.heap a oe D od := by
  obtain ⟨vs, hv⟩ := hf
  cases d with
  | none =>
    obtain ⟨oc, od, oda, osl⟩ := oe
    obtain ⟨h1, h2⟩ := hz
    dsimp only at h1 h2 hv
    subst h1 h2 hv
    exact ⟨none, ha, rfl, rfl, trivial⟩
  | some dd =>
    obtain ⟨fs, hfs⟩ := hx dd rfl
    have hx' : ObjOk C.prog C.w H s.heap dd (.xd fs) := I.hok dd _ hfs
    obtain ⟨mA, hns, hr⟩ := hx'
    obtain ⟨od, ho, hl⟩ := lookIn_ns hns
    exact ⟨some od, ha, hz.1, by unfold PySem.W.notCls; rw [hv] <;> rfl, by rw [hz.2]; exact ho⟩
theorem call_isP {a D : Addr} {d : Option Addr} {oe : Obj} (hp : (a, oe) ∈ C.pn) (Ce : ExcC C.K D) (hz : Zc (.ref D) d oe) (hf : ∃ vs, oe.data = .fields vs) : CallR C (.builtin "isinstance") (rIsP C.K D a d) := by
  intro pins s σ H xs us Q I r h
  obtain ⟨c, cv, b, rfl, hcv, e, hx, q⟩ := h
  cases r with
  | cons rx rr =>
    cases rr with
    | cons rt rr =>
      cases rr
      cases rx
      have ec := hcv _ rt
      subst ec
      obtain ⟨hget, _⟩ := I.pin (a, oe) (List.mem_append.mpr (.inl hp))
      obtain ⟨od, J⟩ := inst_xd I hget hz hf hx
      have hcl : (PySem.W.clsIn C.K D).isSome = true := by
        have hd := Ce.hd
        unfold PySem.W.hasDictIn at hd
        cases hc : PySem.W.clsIn C.K D with
        | none => rw [hc] at hd; cases hd
        | some cd => rfl
      exact PySem.W.kia_one (PySem.W.kitx_exc hcl Ce.hg Ce.hk Ce.hs Ce.ha Ce.hn Ce.ht Ce.hm) I.kIn J e (fun z => nomatch z) fun tk => ⟨.bl b, H, I.kept (t' := tk) fun _ _ z => z, rfl, q⟩
theorem de_isE0 {a D : Addr} {d : Option Addr} {oe : Obj} {i : Nat} {x T : Str} {c : V} {cv : Value} {bb : Bool} {p p1 p2 : Pos} (hp : (a, oe) ∈ C.pn) (ec : ExcC C.K D) (hz : Zc (.ref D) d oe) (hf : ∃ vs, oe.data = .fields vs) (hxd : XdOk d X.hx) (hB : i ∈ X.B) (ht : X.t[i]? = some (some (.ref a)))
    (hN : C.N[i]? = some x) (hv : Vis C.env.scope x) (hT : PE C (.Name T p2) (tC c)) (hcv : ∀ u, RelV c u → u = cv) (kit : PySem.W.kitOne C.K (.ref D) cv = some bb) (hg : Gl C "isinstance") (hm : C.mg "isinstance" = none) (hbi : bootBuiltins "isinstance" = some (.builtin "isinstance") := by decide +kernel)
    (hd : (x == ("__debug__" : Str)) = false := by decide) (hcd : (x == ("__classdict__" : Str)) = false := by decide)
    (hs1 : starEach [.Name x p1, .Name T p2] C.env = (false, eval (.Name x p1) C.env) :: starEach [.Name T p2] C.env := by rfl) (hs2 : starEach [.Name T p2] C.env = (false, eval (.Name T p2) C.env) :: starEach [] C.env := by rfl)
    (hpl : (backTo pos (starEach [.Name T p2] C.env)).any (·.1) = false := by rfl) : DE C X W (.Call (.Name "isinstance" p) [.Name x p1, .Name T p2] [] pos) (eK (.bool bb)) := by
  refine PE.imp (pe_callB (call_isP hp ec hz hf) hg hm hbi (pa_cons (pe_var hN hv hd hcd) (pa_cons hT pa_nil hs2) hs1) (by decide) (by decide) hs1 hpl) fun σ H Q h => ?_
  obtain ⟨Z, F, r, g, h⟩ := h
  exact ⟨.ref a, (g.kp i hB).trans ht, c, cv, bb, rfl, hcv, kit, hxd.mono (g.hh.trans g.fh), ret_run g h (.bl bb) (.bl bb)⟩
/-- an own class -/
theorem de_isE {a D : Addr} {d : Option Addr} {oe : Obj} {i : Nat} {x T : Str} {c Tn : String} {p p1 p2 : Pos} (hp : (a, oe) ∈ C.pn) (cx : ClsX C.K C.mg c D) (hz : Zc (.ref D) d oe) (hf : ∃ vs, oe.data = .fields vs) (hxd : XdOk d X.hx) (hB : i ∈ X.B) (ht : X.t[i]? = some (some (.ref a)))
    (hN : C.N[i]? = some x) (hv : Vis C.env.scope x) (hTn : Tn ∈ allC) (eT : Str.ofString Tn = T) (hgT : Gl C T) (hg : Gl C "isinstance") (hm : C.mg "isinstance" = none) (hdT : (T == ("__debug__" : Str)) = false := by decide)
    (hd : (x == ("__debug__" : Str)) = false := by decide) (hcd : (x == ("__classdict__" : Str)) = false := by decide)
    (hs1 : starEach [.Name x p1, .Name T p2] C.env = (false, eval (.Name x p1) C.env) :: starEach [.Name T p2] C.env := by rfl) (hs2 : starEach [.Name T p2] C.env = (false, eval (.Name T p2) C.env) :: starEach [] C.env := by rfl)
    (hpl : (backTo pos (starEach [.Name T p2] C.env)).any (·.1) = false := by rfl) : DE C X W (.Call (.Name "isinstance" p) [.Name x p1, .Name T p2] [] pos) (eK (.bool (Tn == c))) := by
  obtain ⟨DT, e1, e2⟩ := cx.is Tn hTn
  rw [eT] at e1
  exact de_isE0 (c := .ref DT) hp cx.ec hz hf hxd hB ht hN hv (pe_glob (v := .ref DT) hgT e1 rfl hdT) (fun u e => e) e2 hg hm (by decide +kernel) hd hcd hs1 hs2 hpl
/-- ValueError -/
theorem de_isV {a D : Addr} {d : Option Addr} {oe : Obj} {i : Nat} {x : Str} {c : String} {p p1 p2 : Pos} (hp : (a, oe) ∈ C.pn) (cx : ClsX C.K C.mg c D) (hz : Zc (.ref D) d oe) (hf : ∃ vs, oe.data = .fields vs) (hxd : XdOk d X.hx) (hB : i ∈ X.B) (ht : X.t[i]? = some (some (.ref a)))
    (hN : C.N[i]? = some x) (hv : Vis C.env.scope x) (hgT : Gl C "ValueError") (hmT : C.mg "ValueError" = none) (hg : Gl C "isinstance") (hm : C.mg "isinstance" = none)
    (hd : (x == ("__debug__" : Str)) = false := by decide) (hcd : (x == ("__classdict__" : Str)) = false := by decide)
    (hs1 : starEach [.Name x p1, .Name "ValueError" p2] C.env = (false, eval (.Name x p1) C.env) :: starEach [.Name "ValueError" p2] C.env := by rfl) (hs2 : starEach [.Name "ValueError" p2] C.env = (false, eval (.Name "ValueError" p2) C.env) :: starEach [] C.env := by rfl)
    (hpl : (backTo pos (starEach [.Name "ValueError" p2] C.env)).any (·.1) = false := by rfl) : DE C X W (.Call (.Name "isinstance" p) [.Name x p1, .Name "ValueError" p2] [] pos) (eK (.bool true)) :=
  de_isE0 (c := .ty "ValueError") (cv := .type "ValueError") hp cx.ec hz hf hxd hB ht hN hv (pe_bltn hgT hmT (by decide +kernel) (show RelV (.ty "ValueError") (.type "ValueError") from rfl) (by decide) (by decide)) (fun u e => e) cx.ve hg hm (by decide +kernel) hd hcd hs1 hs2 hpl
/-- the call of such a def in the clause -/
def kwE (kw : String → Option Str) (c : String) : M Val := match kw c with
  | some w => eK (.str w)
  | none => fun _ => .err
theorem de_kind {k : Nat} {x n : Str} {kw : String → Option Str} {i : Nat} {a D : Addr} {dx : Option Addr} {oe : Obj} {c : String} {p p2 : Pos} (d : DefE C.prog C.w C.K C.mg C.base k x kw) (hr : L2H.RoomH k C.A) (hp : (a, oe) ∈ C.pn) (hot : L2H.Hot1 C.A (a, oe)) (cx : ClsX C.K C.mg c D) (hz : Zc (.ref D) dx oe) (hf : ∃ vs, oe.data = .fields vs) (hxd : XdOk dx X.hx)
    (hB : i ∈ X.B) (ht : X.t[i]? = some (some (.ref a))) (hN : C.N[i]? = some n) (hv : Vis C.env.scope n) (hg : Gl C x) (hdb : (x == ("__debug__" : Str)) = false := by decide)
    (hd : (n == ("__debug__" : Str)) = false := by decide) (hcd : (n == ("__classdict__" : Str)) = false := by decide)
    (he : starEach [.Name n p2] C.env = (false, eval (.Name n p2) C.env) :: starEach [] C.env := by rfl) (hpl : (backTo pos (starEach [] C.env)).any (·.1) = false := by rfl) : DE C X W (.Call (.Name x p) [.Name n p2] [] pos) (kwE kw c) := by
  obtain ⟨f, fd, ps, FP, lp, hm, hk, hb⟩ := d
  refine ⟨fun pins s σ H Q I h => ?_⟩
  obtain ⟨Z, F, r, g, h⟩ := h
  revert h
  unfold kwE
  cases ew : kw c with
  | none => exact fun h => h.elim
  | some w =>
    intro h
    have hσ : σ[i]? = some (some (.ref a)) := (g.kp i hB).trans ht
    have ha : PA C [.Name n p2] (tCons (tVar i) tNil) := pa_cons (pe_var hN hv hd hcd) pa_nil he
    refine wpAny_Call_Name_kw (ld_glob I hg hm ?_ hdb)
    refine PySem.W.callWith_K (h₀ := C.base) I.ok.mod.kin hk (thn (ha.run pos pins s σ H (fun vs H1 => vs = [V.ref a] ∧ H1 = H) I ⟨.ref a, hσ, rfl, rfl⟩) fun us s1 ⟨vs, H1, I1, rv, ev, eH⟩ => ⟨I1.kIn, ?_⟩) he hpl
    subst ev eH
    have hl : us.length = ps.length := by rw [← rv.length, lp]; rfl
    have b := hb s1 us I1.kIn (by rw [List.append_nil]; exact hl)
    rw [List.append_nil] at b
    have P1 := I1.pin (a, oe) (List.mem_append_left _ hp)
    have hpin : L2H.PinOk C.stack H1 s1 (a, oe) := ⟨P1.1, P1.2.1, fun hm => (List.mem_cons.mp (I1.stkSub a hm)).elim P1.2.2.1 P1.2.2.2.1, P1.2.2.2.2⟩
    refine wpAny_call (codeAny_mono (FP.run C.A C.stack s1 H1 ⟨us, []⟩ us [.ref a] Q (fun _ _ _ => False) (a, oe) hr hot hpin I1.env0 b rv ⟨rfl, hf, c, D, dx, w, cx, hz, hxd.mono (g.hh.trans g.fh), ew, X.ex.tb, g.tb, fun H' s t => ?_⟩) fun rr s' hq => ?_)
    · exact h Z H' (Ext.refl Z F) (g.growT s t) (.str w) (.str w)
    · cases rr with
      | error e =>
        obtain ⟨_, _, _, _, _, _, _, _, _, _, _, _, z⟩ := hq
        exact z.elim
      | ok fl =>
        cases fl with
        | ret u => exact I1.after hq
        | next => exact False.elim hq
        | brk => exact False.elim hq
        | cont => exact False.elim hq
/-! ### try -/
def sTry (i : Nat) (body : M Fl) (hd : String → List D → M Fl) : M Fl := fun r => match body r with
  | .ok f r' => .ok f r'
  | .exc c ds r' => if i < r'.length then match hd c ds (r'.set i .un) with
    | .ok (.rt v) r2 => .ok (.rt v) r2
    | _ => .err
    else .err
  | .err => .err
theorem G.bindx (g : G X Z F r σ H) {i : Nat} {w : Option V} (hB : i ∉ X.B) : G X Z F (r.set i .un) (σ.set i w) H := by
  have at' : ∀ {j : Nat} {u : Val}, (r.set i .un)[j]? = some u → u = .un ∨ (r[j]? = some u ∧ (σ.set i w)[j]? = σ[j]?) := fun {j u} h => by
    rcases set_get h with ⟨_, _, q⟩ | ⟨hj, h⟩
    · exact .inl q
    · exact .inr ⟨h, List.getElem?_set_ne hj⟩
  refine ⟨g.zh, g.fh, by rw [List.length_set, List.length_set]; exact g.len, fun j u h => ?_, fun j k u w p h1 h2 e1 e2 => ?_, fun j hj => ?_, g.hh, g.nz, g.nf, g.tb⟩
  · rcases at' h with rfl | ⟨q, e⟩
    · exact True.intro
    · rw [e]; exact g.sl j u q
  · rcases at' h1 with z | ⟨q1, a1⟩
    · rw [z, foot_un] at e1; cases e1
    · rcases at' h2 with z | ⟨q2, a2⟩
      · rw [z, foot_un] at e2; cases e2
      · rw [a1] at e1; rw [a2] at e2
        exact g.di j k u w p q1 q2 e1 e2
  · rw [List.getElem?_set_ne (fun q => hB (by rw [q]; exact hj))]
    exact g.kp j hj
/-- other things are fixed -/
theorem G.re {B' : List Nat} {t' : L2.St} {hx' : Hp} (g : G X Z F r σ H) (kp : ∀ i ∈ B', σ[i]? = t'[i]?) (hh : Same hx' F) : G ⟨X.K, B', t', X.ex, hx'⟩ Z F r σ H := ⟨g.zh, g.fh, g.len, g.sl, g.di, kp, hh, g.nz, g.nf, g.tb⟩
/-- what a clause asks of the state in which it begins -/
def rdH (X : Fx) (i : Nat) (hd : String → List D → M Fl) (a : Addr) (cls : Value) (d : Option Addr) : TS := fun Dd σ H => ∃ c ds hx, X.ex c ds cls d hx ∧ σ[i]? = some (some (.ref a)) ∧ rdS ⟨X.K, i :: X.B, σ, X.ex, hx⟩ WN (hd c ds) Dd σ H
theorem ds_try {body suite : List Stmt} {b₀ : Stmt} {x n : Str} {cM : Value} {i : Nat} {mb : M Fl} {hd : String → List D → M Fl} {np pos' : Pos} (hs : C.stack = C.env :: C.outer) (hf : C.env.frame = some C.env.locals) (hN : C.N.Nodup) (hi : C.N[i]? = some n) (hln : C.env.kindOf n = some .local) (hc : Names C x cM) (tk : L2N.Takes C W) (hB : i ∉ X.B)
    (hb : ∀ (W : WX) (pn : List (Addr × Obj)) (xe : Value → Shared → Prop), L2N.Takes (C.tr pn xe) W → PassesOwn (model C.prog C.w) C.A C.env xe → DSs (C.tr pn xe) X W body mb)
    (hm : ∀ c ds cls d H, X.ex c ds cls d H → PySem.W.exmOne C.K cls cM = some true)
    (hpx : ∀ c ds cls d H, X.ex c ds cls d H → X.ex c ds cls d (dxH d H)) (hxd : ∀ c ds cls d H, X.ex c ds cls d H → XdOk d H)
    (hsu : ∀ (a : Addr) (oe : Obj) (cls : Value) (d : Option Addr) (pn : List (Addr × Obj)) (c : String) (ds : List D) (H : Hp) (σ : L2.St), L2N.Zn cls d oe → (∃ vs, oe.data = .fields vs) → X.ex c ds cls d H → σ[i]? = some (some (.ref a)) → DSs (C.suite a ((a, oe) :: pn)) ⟨X.K, i :: X.B, σ, X.ex, H⟩ WN (b₀ :: suite) (hd c ds)) :
    DS C X W (.Try body [.ExceptHandler (some (.Name x np)) (some n) (b₀ :: suite) pos'] [] [] pos) (sTry i mb hd) := by
  refine PS.imp (L2N.ps_try_as (tb := fun W => rdS X W mb) (ts := rdH X i hd) hs hf hN hi hln hc tk hb fun a oe cls d pn hz hv => ⟨fun pins s σ H Dd I h => ?_⟩) fun Dd σ H h => ?_
  · obtain ⟨c, ds, hx, hxx, hσ, h⟩ := h
    exact (hsu a oe cls d pn c ds hx σ hz hv hxx hσ).run pins s σ H Dd I h
  · obtain ⟨Z, F, r, g, h⟩ := h
    refine ⟨Z, F, r, g, ?_⟩
    revert h
    unfold sTry
    cases e : mb r with
    | ok f r' => exact fun h => h
    | err => exact fun h => h
    | exc c ds r' =>
      simp only
      by_cases hlr : i < r'.length
      · rw [if_pos hlr]
        intro h cls d σ' Z' H' hx ex g'
        refine ⟨true, hm c ds cls d H' hx, fun _ a na => ?_, fun z => nomatch z⟩
        have g2 := g'.bindx (w := some (.ref a)) hB
        let F2 : Hp := fun b => if d = some b then H' b else F b
        have FF : Same F F2 := fun b o e => by
          by_cases q : d = some b
          · exact (if_pos q).trans (g'.fh b o e)
          · exact (if_neg q).trans e
        have F2H : Same F2 H' := fun b o e => by
          by_cases q : d = some b
          · exact (if_pos q).symm.trans e
          · exact g'.fh b o ((if_neg q).symm.trans e)
        have xF : Same (dxH d H') F2 := fun b o e => by
          by_cases q : d = some b
          · exact (if_pos q).trans ((if_pos q).symm.trans e)
          · exact absurd e (by unfold dxH; rw [if_neg q]; exact fun z => nomatch z)
        have gF2 : G X Z' F2 (r'.set i .un) (σ'.set i (some (.ref a))) H' := (g2.moved g2.zh F2H (Same.refl _) (g2.hh.trans FF) (fun j v e b hb => by
          obtain ⟨⟨o, h1, nt⟩, z, f⟩ := (g2.sl j v e).at b hb
          refine ⟨rfl, z, ?_⟩
          by_cases q : d = some b
          · obtain ⟨fs, z⟩ := hxd c ds cls d H' hx b q
            rw [z] at h1
            cases h1
            exact nt.elim
          · exact (if_neg q).trans f) g2.nz (fun b hb => by
          by_cases q : d = some b
          · obtain ⟨fs, z⟩ := hxd c ds cls d H' hx b q
            exact absurd hb (tab_ne g'.tb z fun _ z => nomatch z)
          · exact (if_neg q).trans (g'.nf b hb)) g2.tb).1
        refine ⟨c, ds, dxH d H', hpx c ds cls d H' hx, ?_, Z', F2, r'.set i .un, gF2.re (fun j hj => rfl) xF, ?_⟩
        · by_cases hl : i < σ'.length
          · rw [List.getElem?_set_self hl]
          · exact absurd (by rw [← g'.len]; exact hlr) hl
        · revert h
          cases hd c ds (r'.set i .un) with
          | err => exact fun h => h
          | exc c ds r' => exact fun h => h.elim
          | ok fl r2 =>
            cases fl with
            | nx => exact fun h => h.elim
            | bk => exact fun h => h.elim
            | ct => exact fun h => h.elim
            | rt v =>
              intro h σ3 Z3 H3 ex3 g3 y rv
              have g4 : G X Z3 F r2 σ3 H3 := ((g3.re (B' := []) (t' := σ3) (fun j hj => nomatch hj) (no_hx F2)).less FF (no_hx F)).re (fun j hj => by
                have := g3.kp j (List.mem_cons_of_mem _ hj)
                rw [this]
                show (σ'.set i (some (.ref a)))[j]? = _
                rw [List.getElem?_set_ne (fun q => hB (by rw [q]; exact hj))]
                exact g'.kp j hj) g'.hh
              exact h σ3 Z3 H3 (ex.trans ⟨ex3.1, fun b o e t n => ex3.2 b o (FF b o e) t n⟩) g4 y (rv.to fun b _ n o => ⟨none_of FF n, o⟩)
      · rw [if_neg hlr]; exact fun h => h.elim
/-- a field of the exception that the suite holds -/
def xfE (j : Nat) (ds : List D) : M Val := match ds[j]? with
  | some d => eK d
  | none => fun _ => .err
theorem de_xf {pn : List (Addr × Obj)} {a D : Addr} {oe : Obj} {d : Option Addr} {ds : List MS.D} {i j : Nat} {x f : Str} {c : String} {p pos : Pos} (hjf : (j = 0 ∧ f = "many") ∨ (j = 1 ∧ f = "most")) (cx : ClsX C.K C.mg c D) (hz : Zc (.ref D) d oe) (hf : ∃ vs, oe.data = .fields vs) (hxf : XdF C.K D d ds X.hx)
    (hB : i ∈ X.B) (ht : X.t[i]? = some (some (.ref a))) (hN : C.N[i]? = some x) (hv : Vis C.env.scope x) (hd : (x == ("__debug__" : Str)) = false := by decide) (hcd : (x == ("__classdict__" : Str)) = false := by decide)
    (hb : attributeBase (.Name x p) f C.env (eval (.Name x p) C.env) = eval (.Name x p) C.env := by rfl) : DE (C.suite a ((a, oe) :: pn)) X W (.Attribute (.Name x p) f pos) (xfE j ds) := by
  rcases hxf with ⟨rfl, rfl⟩ | ⟨dd, fs, i0, j0, rfl, rfl, h1, l1, l2, n1, n2⟩
  · refine ⟨fun pins s σ H Q I h => ?_⟩
    obtain ⟨Z, F, r, g, h⟩ := h
    exact False.elim h
  · have T : XfC C.K D := ⟨cx.ec.hg, cx.ec.hk, cx.ec.hs, cx.ec.hd⟩
    rcases hjf with ⟨rfl, rfl⟩ | ⟨rfl, rfl⟩
    · refine PE.imp (pe_xf T n1 hz hf (pe_var (X := C.suite a ((a, oe) :: pn)) hN hv hd hcd) hb) fun σ H Q h => ?_
      obtain ⟨Z, F, r, g, h⟩ := h
      exact ⟨.ref a, (g.kp i hB).trans ht, rfl, rfl, dd, fs, .int i0, rfl, g.fh _ _ (g.hh _ _ h1), l1, ret_run g h (.int i0) (.int i0)⟩
    · refine PE.imp (pe_xf T n2 hz hf (pe_var (X := C.suite a ((a, oe) :: pn)) hN hv hd hcd) hb) fun σ H Q h => ?_
      obtain ⟨Z, F, r, g, h⟩ := h
      exact ⟨.ref a, (g.kp i hB).trans ht, rfl, rfl, dd, fs, .int j0, rfl, g.fh _ _ (g.hh _ _ h1), l2, ret_run g h (.int j0) (.int j0)⟩
/-! ### a refusal with two numbers -/
/-- self.many = many, self.most = most -/
def spI (K : PySem.W.Frag) : Sp := fun vs H Q _ => ∃ (a C : Addr) (i j : Int), vs = [.ref a, .int i, .int j] ∧ OexC K C ∧ PySem.W.findIn K (.ref C) "many" = some none ∧ PySem.W.findIn K (.ref C) "most" = some none ∧ H a = some (exo a C none) ∧
  ∀ dx, H dx = none → dx ≠ a → Q .non (upd (upd (upd H dx (exd dx [(("many" : Str), V.int i)])) a (exo a C (some dx))) dx (exd dx [(("most" : Str), V.int j), (("many" : Str), V.int i)]))
theorem fn_init {P : Program} {w : World} {K : PySem.W.Frag} {mg : Str → Option Value} {base : Heap} {st : Stmt} {f : Addr} {fd : FuncData} {k : Nat} {p1 p2 p3 p4 p5 p6 p7 p8 : Pos} (F : Fun K "__init__" "TooGreat.__init__" st f fd) (S : FnScope ["self", "many", "most"] ["self", "many", "most"] (defScope st))
    (hB : defBody st = [.Assign [.Attribute (.Name "self" p1) "many" p2] (.Name "many" p3) p4, .Assign [.Attribute (.Name "self" p5) "most" p6] (.Name "most" p7) p8])
    (v1 : Vis (defScope st) "self") (v2 : Vis (defScope st) "many") (v3 : Vis (defScope st) "most") :
    FnOk P w K mg base (L2N.CX P w) (k + 1) f fd ["self", "many", "most"] (spI K) := by
  obtain ⟨oc, od, kV, doc, pm, an, cdv, ct, osl, rfl, lk, hcd⟩ := F.ex
  refine fn_of lk hcd S (fun vs H Q E h => by obtain ⟨a, C, i, j, rfl, _⟩ := h; rfl) fun A outer s H vs Q E hr hsp => ?_
  obtain ⟨a, C, i, j, rfl, T, n1, n2, ha, q⟩ := hsp
  rw [hB]
  refine ⟨_, pss_cons (ps_ost (pe_var (i := 0) rfl v1) (pe_var (i := 1) rfl v2)) (pss_cons (ps_ost (pe_var (i := 0) rfl v1) (pe_var (i := 2) rfl v3)) pss_nil), ?_⟩
  refine ⟨.int i, rfl, .ref a, rfl, a, C, rfl, T, n1, .inl ⟨ha, fun dx nd ne => ?_⟩⟩
  refine ⟨.int j, rfl, .ref a, rfl, a, C, rfl, T, n2, .inr ⟨dx, [(("many" : Str), V.int i)], upd_same .., ?_, (show 1 ≤ 900 by decide), q dx nd ne⟩⟩
  rw [upd_ne ne, upd_same]
theorem pmk_oexN {x : Str} {D fI : Addr} {k : Nat} {fd : FuncData} {ps : List Str} {sp : Sp} {e : Expr} {es : List Expr} {ta : TA} {p pos : Pos} (T : OexC C.K D) (iC : PySem.W.findIn C.K (.ref D) "__init__" = some (some (.ref fI))) (tI : PySem.W.typeIn C.K (.ref fI) = some (.type "function"))
    (F1 : FnOk C.prog C.w C.K C.mg C.base (L2N.CX C.prog C.w) k fI fd ps sp) (hr : L2.Room (k + 1) C.A) (hb : L2.Binds C.K fd ps []) (hg : Gl C x) (hm : C.mg x = some (.ref D)) (ha : PA C (e :: es) ta)
    (hdb : (x == ("__debug__" : Str)) = false := by decide) (he : starEach (e :: es) C.env = (false, eval e C.env) :: starEach es C.env := by rfl) (hpl : (backTo pos (starEach es C.env)).any (·.1) = false := by rfl) :
    L2N.PMk C (.Call (.Name x p) (e :: es) [] pos) (tMkO D sp [] ta) := by
  intro pins s σ H Q I h
  obtain ⟨nm, q, N, bs, bm, sn, sub, ab, col, dd, k0, k1, k2, k3, k5, hC, hbm⟩ := T.cls
  refine wpAny_Call_Name_kw (ld_glob I hg hm ?_ hdb)
  refine PySem.W.callWith_K (h₀ := C.base) I.ok.mod.kin T.kC (thn (ha.run pos pins s σ H _ I h) fun us s1 ⟨vs, H1, I1, r1, hz, q1⟩ => ⟨I1.kIn, ?_⟩) he hpl
  show wpAny _ _ (call (.ref D) us) _ _ _
  obtain ⟨hp, g, dr, tk, os⟩ := s1
  have hsz : hp.objs.size ≤ hp.objs.size + 1 := Nat.le_succ _
  have hn : H1 (hp.objs.size + 1) = none := I1.hok.fresh hsz
  have hq := q1 (hp.objs.size + 1) hn
  have kk : ∀ b o, hp.get? b = some o → ((hp.push (PySem.W.kdv_tup us)).push (PySem.HandSPX.excO D hp.objs.size)).get? b = some o := fun b o e => Heap.get?_push_of_some _ (Heap.get?_push_of_some _ e)
  have hget : ((hp.push (PySem.W.kdv_tup us)).push (PySem.HandSPX.excO D hp.objs.size)).get? (hp.objs.size + 1) = some (PySem.HandSPX.excO D hp.objs.size) := by heap_get
  have I2 : Inv C pins σ (upd H1 (hp.objs.size + 1) (exo (hp.objs.size + 1) D none)) ⟨(hp.push (PySem.W.kdv_tup us)).push (PySem.HandSPX.excO D hp.objs.size), g, dr, tk, os⟩ :=
    I1.laid (t' := tk) (a := hp.objs.size + 1) (o := exo (hp.objs.size + 1) D none) (h' := (hp.push (PySem.W.kdv_tup us)).push (PySem.HandSPX.excO D hp.objs.size)) kk hsz (exo_ok hget)
  have r2 : Vals (V.ref (hp.objs.size + 1) :: (vs ++ [])) (Value.ref (hp.objs.size + 1) :: (us ++ [])) := .cons rfl (r1.append .nil)
  have hl : (Value.ref (hp.objs.size + 1) :: us ++ []).length = ps.length := by
    have e := r2.length
    rw [F1.len _ _ _ _ hq] at e
    exact e.symm
  have hus : us.length ≤ sizeLine := by
    rw [← Paired.length r1, sizeLine_eq]
    omega
  have hbt : BindsTo ⟨(hp.push (PySem.W.kdv_tup us)).push (PySem.HandSPX.excO D hp.objs.size), g, dr, tk, os⟩ fd ⟨Value.ref (hp.objs.size + 1) :: us, []⟩ (ps.zip (Value.ref (hp.objs.size + 1) :: (us ++ []))) := by
    have b := hb ⟨(hp.push (PySem.W.kdv_tup us)).push (PySem.HandSPX.excO D hp.objs.size), g, dr, tk, os⟩ (Value.ref (hp.objs.size + 1) :: us) I2.kIn hl
    rw [List.cons_append] at b
    exact b
  refine wpAny_call (PySem.HandSPX.call_own F.excBase_ValueError (fun Y => PySem.HandSPX.refsVE_contains Y bm hbm) (I1.kIn _ _ hC) (PySem.W.looks_findIn I1.kIn iC) (fun self => PySem.W.bind_fn I1.kIn self tI) hus
    (codeAny_mono (F1.run _ C.stack _ _ ⟨Value.ref (hp.objs.size + 1) :: us, []⟩ (Value.ref (hp.objs.size + 1) :: (us ++ [])) _ _ (fun _ _ _ => False) (hr.make D us []) (I2.env0.make D us []) hbt r2 hq) fun r s' hq' => ?_))
  cases r with
  | error er =>
    obtain ⟨_, _, _, _, _, _, _, _, _, _, _, _, z⟩ := hq'
    exact z.elim
  | ok fl =>
    cases fl with
    | ret u =>
      obtain ⟨v, H2, os2, bare2, un2, hok2, rv, ev, d, fs, ea, ed, hd1, q2⟩ := hq'
      subst ev
      obtain ⟨h2, g2, d2, t2, os'⟩ := s'
      obtain ⟨t0, G, J, kG, ge, hoe, na⟩ := mk_end0 (d2 := d2) (t2 := t2) I1 hsz kk un2 hok2 os2 bare2 ea ed hd1
      exact ⟨rv, hp.objs.size + 1, _, _, ⟨G, g2, d2, t2, os'⟩, _, .ref D, some d, rfl, J, kG, ge, hoe, ⟨rfl, rfl, fun vs e => by cases e; rfl⟩, rfl, rfl, na, rfl, bare2, raises_own T.exC T.tyC, q2⟩
    | next => exact False.elim hq'
    | brk => exact False.elim hq'
    | cont => exact False.elim hq'
/-- a class of refusals with two numbers, as it stands behind the top -/
structure ClsV (K : PySem.W.Frag) (mg : Str → Option Value) (ex : Ex) (x : Str) (nm : String) (st : Stmt) : Prop where
  at_ : ∃ (D fI : Addr) (fd : FuncData), mg x = some (.ref D) ∧ OexC K D ∧ PySem.W.findIn K (.ref D) "__init__" = some (some (.ref fI)) ∧ PySem.W.typeIn K (.ref fI) = some (.type "function") ∧ Fun K "__init__" "TooGreat.__init__" st fI fd ∧ L2.Binds K fd ["self", "many", "most"] [] ∧
    PySem.W.findIn K (.ref D) "many" = some none ∧ PySem.W.findIn K (.ref D) "most" = some none ∧
    ∀ (dd : Addr) (fs : List (Str × V)) (i j : Int) (H : Hp), H dd = some (.xd fs) → fs.lookup ("many" : Str) = some (.int i) → fs.lookup ("most" : Str) = some (.int j) → ex nm [.int i, .int j] (.ref D) (some dd) H
def twoI : List D → Option (Int × Int)
  | [.int i, .int j] => some (i, j)
  | _ => none
theorem twoI_some {ds : List D} {i j : Int} (h : twoI ds = some (i, j)) : ds = [.int i, .int j] := by
  unfold twoI at h
  split at h
  · cases h; rfl
  · cases h
def sRaiseV (nm : String) (ms : List (M Val)) : M Fl := M.bind (vals ms) fun ds => match twoI ds with
  | some (i, j) => fun r => .exc nm [.int i, .int j] r
  | none => fun _ => .err
theorem ds_raiseV {x : Str} {nm : String} {st : Stmt} {e : Expr} {es : List Expr} {ms : List (M Val)} {p pos2 pos : Pos} {p1 p2 p3 p4 p5 p6 p7 p8 : Pos} (R : ClsV C.K C.mg X.ex x nm st) (S : FnScope ["self", "many", "most"] ["self", "many", "most"] (defScope st))
    (hB : defBody st = [.Assign [.Attribute (.Name "self" p1) "many" p2] (.Name "many" p3) p4, .Assign [.Attribute (.Name "self" p5) "most" p6] (.Name "most" p7) p8])
    (v1 : Vis (defScope st) "self") (v2 : Vis (defScope st) "many") (v3 : Vis (defScope st) "most") (hr : Room 2 C.A) (hc : C.calm = true) (tk : L2N.Takes C W) (hg : Gl C x) (ha : DVs C X W (e :: es) ms)
    (hdb : (x == ("__debug__" : Str)) = false := by decide) (he : starEach (e :: es) C.env = (false, eval e C.env) :: starEach es C.env := by rfl) (hpl : (backTo pos2 (starEach es C.env)).any (·.1) = false := by rfl) :
    DS C X W (.Raise (some (.Call (.Name x p) (e :: es) [] pos2)) none pos) (sRaiseV nm ms) := by
  obtain ⟨D, fI, fd, gC, T, iC, tI, F, hb, n1, n2, hx⟩ := R.at_
  refine PS.imp (L2N.ps_raise hc tk (pmk_oexN T iC tI (fn_init (k := 0) F S hB v1 v2 v3) hr.r hb hg gC ha hdb he hpl)) fun Dd σ H h => ?_
  obtain ⟨Z, F, r, g, h⟩ := h
  refine ⟨Z, F, r, g, ?_⟩
  revert h
  unfold sRaiseV M.bind
  cases vals ms r with
  | err => exact fun h => h
  | exc c ds r' => exact fun h cls d Z' H' x ex g' => h cls d σ Z' H' x ex g'
  | ok ds r' =>
    simp only
    cases e2 : twoI ds with
    | none => exact fun h => h.elim
    | some ij =>
      obtain ⟨i, j⟩ := ij
      obtain rfl := twoI_some e2
      intro h Z' H1 ex g' xs rs
      cases rs with
      | cons ra rs =>
      cases rs with
      | cons rb rs =>
      cases rs
      cases ra
      cases rb
      refine ⟨(show 2 ≤ 1000 by decide), fun a na => ⟨a, D, i, j, rfl, T, n1, n2, upd_same .., fun dx nd ne => ?_⟩⟩
      rw [upd_ne ne] at nd
      refine ⟨rfl, dx, [(("most" : Str), V.int j), (("many" : Str), V.int i)], ?_, upd_same .., nd, ?_⟩
      · rw [upd_ne (Ne.symm ne), upd_same]
      have eH : ∀ b, b ≠ a → b ≠ dx → (upd (del (upd (upd (upd (upd H1 a (exo a D none)) dx (exd dx [(("many" : Str), V.int i)])) a (exo a D (some dx))) dx (exd dx [(("most" : Str), V.int j), (("many" : Str), V.int i)])) a) dx (.xd [(("most" : Str), V.int j), (("many" : Str), V.int i)])) b = H1 b := fun b h1 h2 => by
        rw [upd_ne h2, del_ne h1, upd_ne h2, upd_ne h1, upd_ne h2, upd_ne h1]
      have sH : Same H1 (upd (del (upd (upd (upd (upd H1 a (exo a D none)) dx (exd dx [(("many" : Str), V.int i)])) a (exo a D (some dx))) dx (exd dx [(("most" : Str), V.int j), (("many" : Str), V.int i)])) a) dx (.xd [(("most" : Str), V.int j), (("many" : Str), V.int i)])) := fun b o e =>
        (eH b (ne_of_none e na) (ne_of_none e nd)).trans e
      exact h (.ref D) (some dx) σ Z' _ (hx dx _ i j _ (upd_same ..) (by rw [lookup_put, if_neg (by decide), lookup_put, if_pos rfl]) (by rw [lookup_put, if_pos rfl])) ex (g'.grow sH (Grown.refl _ _) (g'.zh.trans sH))
end
end MS

/-! part w: {}, sum(lists, []), the end of a law with refusals -/
namespace MS
open PySem PySem.Spec PyProof.Rows L2
theorem huH64 {k : Nat} {A : Around} (r : L2H.RoomH k A) : A.units + 64 < cLine := by have := r.un; omega
theorem huH65 {k : Nat} {A : Around} (r : L2H.RoomH k A) : A.units + 65 < cLine := by have := r.un; omega
theorem huH0 {k : Nat} {A : Around} (r : L2H.RoomH k A) : A.units < cLine := by have := r.un; omega
theorem hotS {C : Cx} {a : Addr} {oe : Obj} {cls : Value} {d : Option Addr} {pn : List (Addr × Obj)} (hz : L2N.Zn cls d oe) (hv : ∃ vs, oe.data = .fields vs) : L2H.Hot1 (C.suite a ((a, oe) :: pn)).A (a, oe) := by
  obtain ⟨vs, h⟩ := hv
  exact ⟨rfl, vs, h, hz.2.2 vs h⟩
theorem roomS {C : Cx} {a : Addr} {pn : List (Addr × Obj)} {k : Nat} (hr : Room k C.A) : L2H.RoomH k (C.suite a pn).A := ⟨hr.dp, hr.un⟩
section
variable {C : Cx} {X : Fx} {W : WX} {Z F H : Hp} {r : List Val} {σ : L2.St} {pos : Pos}
def eDn : M Val := M.ret (.od [])
theorem de_dn : DE C X W (.Dict [] [] pos) eDn := PE.imp pe_dnewT fun σ H Q h => by
  obtain ⟨Z, F, r, g, h⟩ := h
  exact fun p np => Fresh.dct (Fresh.of (v := .od []) g fun Z2 H2 ex2 g2 x rv => h Z2 H2 ex2 g2 x rv) g.zh .nil p np
end
/-! sum(lists, []) -/
section
variable {prog : Program} {w : World} {A : Around} {E : Value → Shared → Prop} {s : Shared}
theorem sum_startP (b : Addr) : Builtin.Builtins.bindParams "sum" ["start"] 0 ⟨[.ref b], []⟩ = pure [some (.ref b)] := by rfl
theorem args_sum_startP (a b : Value) : argsOk "sum" ⟨[a, b], []⟩ := by unfold argsOk; kernel_rfl
theorem call_sum_listsP {a b : Addr} {items : Array Value} {its : List Value} {c : Nat} {Q : Value → Shared → Prop} (hh : A.handled = none) (vs : Nat → List Value) (ca : Nat → Nat) (ad : Nat → Addr) (hl : s.heap.IsList a items) (hb : s.heap.get? b = some (lstO its c))
    (hval : ∀ i v, items[i]? = some v → v = .ref (ad i) ∧ s.heap.get? (ad i) = some (lstO (vs i) (ca i))) (hsz : its.length + (flatV ((List.range' 0 items.size).map vs)).length ≤ sizeLine)
    (h : ∀ h' tk l c', (∀ b o, s.heap.get? b = some o → h'.get? b = some o) → h'.get? l = some (lstO (its ++ flatV ((List.range' 0 items.size).map vs)) c') → ((items.size = 0 ∧ l = b) ∨ s.heap.objs.size ≤ l) → Q (.ref l) { s with heap := h', toks := tk }) :
    wpAny (model prog w) A (call (.builtin "sum") [.ref a, .ref b]) Q E s := by
  refine kmk_tree F.kind_sum F.plain_sum F.entry_sum (args_sum_startP _ _) ?_
  unfold Builtin.«sum»
  simp only [List.length_cons, List.length_nil]
  rw [if_neg (by decide)]
  refine wpAny_bind (wpAny_of_eq (sum_startP b) ?_)
  have la : a < s.heap.objs.size := by obtain ⟨_, e, _⟩ := hl; exact Heap.lt_size e
  refine wpAny_bind (wpAny_pyIter_list hl ?_)
  refine wpAny_bind (wpAny_pure ?_)
  simp only [List.forIn_cons, List.forIn_nil]
  have hb2 : (s.heap.push { cls := .type "list_iterator", data := .fields #[.ref a, .int 0 0] }).get? b = some (lstO its c) := Heap.get?_push_of_some _ hb
  have ty : ({ s with heap := s.heap.push { cls := .type "list_iterator", data := .fields #[.ref a, .int 0 0] } } : Shared).TypeIs (.ref b) "list" := ⟨_, hb2, rfl⟩
  refine wpAny_bind (wpAny_bind (wpAny_bind (wpAny_isInstance (T := "list") (b := false) ty F.sub_list_str ?_)))
  simp only [Bool.false_eq_true, if_false]
  refine wpAny_pure (wpAny_bind (wpAny_bind (wpAny_isInstance (T := "list") (b := false) ty F.sub_list_bytes ?_)))
  simp only [Bool.false_eq_true, if_false]
  refine wpAny_pure (wpAny_bind (wpAny_bind (wpAny_isInstance (T := "list") (b := false) ty F.sub_list_bytearray ?_)))
  simp only [Bool.false_eq_true, if_false]
  refine wpAny_pure (wpAny_pure ?_)
  refine wpAny_bind (wpAny_newObj_type ?_)
  have lb : b < s.heap.objs.size := Heap.lt_size hb
  have sz1 : (s.heap.push { cls := .type "list_iterator", data := .fields #[.ref a, .int 0 0] }).objs.size = s.heap.objs.size + 1 := by simp [Heap.push]
  refine wpAny_pure ⟨plainId_quiet F.plain_sum_loop _, codeAny_sum_lists (h0 := s.heap) hh (Nat.ne_of_lt la) vs ca ad (s.heap.push { cls := .type "list_iterator", data := .fields #[.ref a, .int 0 0] }).objs.size ?_ ?_ hval (Heap.get?_none_of_le (Nat.le_refl _)) (Heap.get?_none_of_le (by rw [sz1]; exact Nat.le_succ _)) items.size 0 _ b its c 0 rfl (Nat.zero_le _) ⟨?_, ?_⟩ (Heap.get?_push_size _ rfl) (Nat.ne_of_lt lb) ?_ (Heap.get?_push_of_some _ hb2) (fun b o e => Heap.get?_push_of_some _ (Heap.get?_push_of_some _ e)) hsz fun h' tk l c' hk hl' hor => ?_⟩
  · rw [sz1]; exact Nat.succ_ne_self _
  · rw [sz1]; exact Nat.ne_of_gt (Nat.lt_succ_of_lt la)
  · exact ⟨_, Heap.get?_push_of_some _ (Heap.get?_push_size _ rfl), rfl, rfl⟩
  · obtain ⟨o, e, r⟩ := hl
    exact ⟨o, Heap.get?_push_of_some _ (Heap.get?_push_of_some _ e), r⟩
  · rw [sz1]; exact Nat.ne_of_lt (Nat.lt_succ_of_lt lb)
  · refine h h' tk l c' hk hl' ?_
    rcases hor with q | ⟨_, q⟩
    · exact .inl q
    · rw [sz1] at q
      exact .inr (Nat.le_of_lt (Nat.lt_of_succ_lt q))
end
section
variable {C : Cx} {X : Fx} {W : WX} {pos : Pos}
def rSumP (K : PySem.W.Frag) : List V → Hp → VK → Prop := fun xs H Q => ∃ Z a b vs xss ys, xs = [.ref a, .ref b] ∧ Same Z H ∧ LiL K H a vs ∧ Reps K Z vs xss ∧ flatD xss = some ys ∧ ys.length ≤ sizeLine ∧ LiL K H b [] ∧
  (ys = [] → Q (.ref b) H) ∧ ∀ ws p, Reps K Z ws ys → H p = none → Q (.ref p) (upd H p (.lst ws))
theorem cr_sumP (hc : C.calm = true) : CallR C (.builtin "sum") (rSumP C.K) := by
  intro pins s σ H xs us Q I rx ⟨Z, a, b, vs, xss, ys, ex, z, ra, q, hf, hl, rb, h0, h1⟩
  subst ex
  have hd : C.A.handled = none := I.ok.hd hc
  obtain ⟨u1, u2, rfl, r1, r2⟩ := vals2 rx
  cases r1
  cases r2
  obtain ⟨its, n, rv, _, ea⟩ := inv_rdL I ra
  obtain ⟨itb, nb, rvb, _, eb⟩ := inv_rdL I rb
  cases rvb
  obtain ⟨tab, wl, rfl, t1, t2, t3⟩ := tab_of I z xss vs its ys q rv hf
  have isz : (tab.map fun p => Value.ref p.1).toArray.size = tab.length := by simp
  have rt := range_tab tab []
  rw [List.length_nil, List.nil_append] at rt
  have fl : (flatV (tab.map fun p => p.2.1)).length = ys.length := by rw [← t3.length, t2.length]
  refine call_sum_listsP (its := []) (c := nb) hd (fun i => (tab.getD i (0, [], 0)).2.1) (fun i => (tab.getD i (0, [], 0)).2.2) (fun i => (tab.getD i (0, [], 0)).1) ⟨_, ea, rfl, _, rfl⟩ eb (fun i v hv => ?_) ?_ fun h' tk l c' hk hl' hor => ?_
  · rw [List.getElem?_toArray, List.getElem?_map] at hv
    obtain ⟨p, e1, rfl⟩ := Option.map_eq_some_iff.mp hv
    have e2 : tab.getD i (0, [], 0) = p := by rw [List.getD_eq_getElem?_getD, e1]; rfl
    rw [e2]
    exact ⟨rfl, t1 p (List.mem_of_getElem? e1)⟩
  · rw [isz, rt, fl]
    simpa using hl
  · rw [isz, rt] at hl'
    rcases hor with ⟨e0, rfl⟩ | hge
    · rw [isz] at e0
      obtain rfl := List.length_eq_zero_iff.mp e0
      have : ys = [] := by
        have := fl
        simpa [flatV] using this.symm
      exact ⟨.ref _, H, I.kept hk, rfl, h0 this⟩
    · refine ⟨.ref l, _, I.laid (a := l) hk hge (show ObjOk C.prog C.w _ h' l (.lst wl) from ⟨by rw [t2.length]; exact hl, _, c', t3, hl'⟩), rfl, h1 wl l t2 (I.hok.fresh hge)⟩
theorem de_sumP {e : Expr} {m : M Val} {p p2 : Pos} (hc : C.calm = true) (hg : Gl C "sum") (hm : C.mg "sum" = none) (he : DE C X W e m) (hv : bootBuiltins "sum" = some (.builtin "sum") := by decide +kernel)
    (he1 : starEach [e, .List [] p2] C.env = (false, eval e C.env) :: starEach [.List [] p2] C.env := by rfl) (he2 : starEach [.List [] p2] C.env = (false, eval (.List [] p2) C.env) :: starEach [] C.env := by rfl)
    (hpl : (backTo pos (starEach [.List [] p2] C.env)).any (·.1) = false := by rfl)
    (hK : X.K = C.K := by rfl) : DE C X W (.Call (.Name "sum" p) [e, .List [] p2] [] pos) (eSumL m) := by
  refine PE.imp (pe_callB (cr_sumP hc) hg hm hv (pa_cons (te := fun σ H Q => rdVs X W [m] σ H fun xs H1 => ∀ x, xs = [x] → Q x H1) ?_ (pa_cons (de_lst (X := X) (W := W) (ms := []) dvs_nil) pa_nil he2) he1) (by decide) (by decide) he1 hpl) fun σ H Q h => ?_
  · exact PE.imp he fun σ H Q h => by
      obtain ⟨Z, F, r, g, h⟩ := h
      refine frz_run g ?_
      revert h
      simp only [vals, M.bind, M.ret]
      cases frz m r with
      | exc c ds r' => exact fun h => h
      | err => exact fun h => h
      | ok d r' => exact fun h Z' H' ex g' x rp => h Z' H' ex g' [x] (.cons rp .nil) x rfl
  refine vs_run h fun ds Z F H r xs ln g rs h' => ?_
  intro x0 ex0
  subst ex0
  revert h'
  cases e1 : sumLD ds with
  | none => exact fun h => h.elim
  | some ys =>
    intro h'
    refine ⟨Z, F, r, g, fun Z2 H2 ex2 g2 b rvb => ?_⟩
    unfold sumLD at e1
    split at e1
    · rename_i xss
      obtain ⟨ys', e2, e3⟩ := Option.bind_eq_some_iff.mp e1
      split at e3
      · rename_i hl
        cases e3
        obtain ⟨bb, vs0, rfl, hb1, _, qb, zb, fb, db⟩ := rvb
        cases qb
        cases rs with
        | cons r1 r2 =>
          cases r2
          cases r1 with
          | lst r1 l q =>
            have q' := q.up ex2.1
            rw [hK] at q'
            refine ⟨Z2, _, bb, _, xss, ys, rfl, g2.zh, by rw [← hK]; exact LiL.same (ex2.1.trans g2.zh) r1, q', e2, by rw [line_eq]; exact hl, .inl (.inl hb1), fun h0 => ?_, fun ws p rw' np => ?_⟩
            · subst h0
              exact h' Z2 H2 ex2 g2 _ ⟨bb, [], rfl, hb1, Nat.zero_le _, .nil, zb, fb, db⟩
            · refine Fresh.lst (Fresh.of (v := .ol ys) g2 fun Z3 H3 ex3 g3 x rv => h' Z3 H3 (ex2.trans ex3) g3 x rv) g2.zh ?_ ?_ p np
              · rw [hK]; exact rw'
              · rw [rw'.length, line_eq]; exact hl
      · cases e3
    · cases e1
end
/-! the classes -/
theorem kit_own {K : PySem.W.Frag} {D DT : Addr} {b : Bool} {T c : String} (e : (T == c) = b) (h1 : PySem.W.subIn K (.ref D) (.ref DT) = some b) (hself : PySem.W.subIn K (.ref D) (.ref D) = some true) (h2 : PySem.W.hasDictIn K DT = true) (h3 : PySem.W.typeIn K (.ref DT) = some (.type "type")) : PySem.W.kitOne K (.ref D) (.ref DT) = some (T == c) := by
  rw [e]
  unfold PySem.W.kitOne
  split
  · rename_i h
    have h' := beq_iff_eq.mp h
    cases h'
    rw [hself] at h1
    exact h1
  · obtain ⟨cd, hc, _⟩ := PySem.W.any_some h2
    have e2 : ((PySem.W.clsIn K DT).isSome && PySem.W.typeIn K (.ref DT) == some (.type "type")) = true := by rw [hc, h3] <;> rfl
    show (if ((PySem.W.clsIn K DT).isSome && PySem.W.typeIn K (.ref DT) == some (.type "type")) = true then PySem.W.subIn K (.ref D) (.ref DT) else none) = some b
    rw [if_pos e2]
    exact h1
theorem kit_ve {K : PySem.W.Frag} {D : Addr} (h : PySem.W.subIn K (.ref D) (.type "ValueError") = some true) : PySem.W.kitOne K (.ref D) (.type "ValueError") = some true := by
  unfold PySem.W.kitOne
  split
  · rfl
  · show (if PySem.W.kitMeta "ValueError" = true then PySem.W.subIn K (.ref D) (.type "ValueError") else none) = some true
    rw [if_pos (by decide +kernel)]
    exact h
theorem em_mk {K : PySem.W.Frag} {mg : Str → Option Value} {D DM : Addr} (hm : mg "MissError" = some (.ref DM)) (h1 : PySem.W.subIn K (.ref DM) (.type "BaseException") = some true) (h2 : PySem.W.hasDictIn K DM = true) (h3 : PySem.W.typeIn K (.ref DM) = some (.type "type")) (h4 : PySem.W.subIn K (.ref D) (.ref DM) = some true) :
    ∀ DM : Addr, mg "MissError" = some (.ref DM) → PySem.W.exmOne K (.ref D) (.ref DM) = some true := fun DM' h => by
  rw [hm] at h
  cases h
  exact PySem.W.exm_ref h1 h2 h3 h4
/-- the law's row, with what is thrown told -/
theorem law_walkX {l : PySem.W.OpenLaw} {n k : Nat} {q : Program} {loose : List Str} {XP : (Str → Option Value) → Heap → Prop} {YP : World → Heap → Prop} {d : DefRec} {K : Params → PySem.W.Frag} {gf : Fn} {x : Str} (hn : l.most = some n) (h2 : n ≤ sizeLine) (hdf : d.params.defaults = []) (hr : Room k callerA)
    (kin : ∀ (w : World) (h : Heap), YP w h → (K w.params).In h) (run : ∀ ns : List Int, ns.length ≤ n → ∃ r, gf [.fz (scriptD ns)] = .ok (.fz (.bool true)) r)
    (top : ∀ (w : World) (mg : Str → Option Value) (fa : Addr) (h : Heap), (K w.params).In h → h.Ns mainGlobals mg → mg d.name = some (.ref fa) →
      ∃ fd : FuncData, (∀ (s : Shared) (u : Value), BindsTo s fd ⟨[u], []⟩ [(x, u)]) ∧ ∀ base : Heap, (K w.params).In base → base.Ns mainGlobals mg → FnM l.prog w (K w.params) mg base (exN (K w.params) mg) k fa fd [x] gf) :
    PySem.W.WalkO q loose XP YP l.row.toRowW d [] (fun f vs => PySem.call f vs) := by
  refine Att.attach_call hn hdf fun w s₀ s₁ mg mb fa o pm cd doc a vs ns G Y ho hd hcd hmg hobj hints hlen hg => ?_
  have inK := kin w _ Y
  obtain ⟨fd, hb, hF⟩ := top w mg fa _ inK G.T.g hmg
  obtain ⟨r, hrun⟩ := run ns hlen
  have hle : ns.length ≤ sizeLine := Nat.le_trans hlen h2
  refine law_callG inK G.T.g G.T.b G.T.builtins G.T.nolimit hg hobj hints hle hr hF hb (fun H _ hS => sp_law (liL_of inK hobj hS) hle hrun fun p hp => nomatch hp) fun H e s' c => ?_
  obtain ⟨_, _, _, _, _, _, _, _, _, _, _, _, z⟩ := c
  exact z
end MS

/-! part x: t[::-1] of a tuple -/
namespace MS
open PySem PySem.Spec PyProof.Rows L2 HT
section
variable {prog : Program} {w : World} {A : Around} {E : Value → Shared → Prop} {s : Shared}
theorem applied_rev {sl : Addr} {vl vu vs : Value} {n : Nat} {Q : Int × Int × Nat → Shared → Prop} (hs : s.heap.IsSliceOf sl vl vu vs) (pl : IsPart vl none) (pu : IsPart vu none) (ps : IsPart vs (some (-1)))
    (h : Q ((n : Int) - 1, -1, n) s) : wpAny (model prog w) A (Builtin.Slice.sliceApplied (.ref sl) (pure (n : Int))) Q E s := by
  obtain ⟨os, hos, hcs, hds⟩ := id hs
  unfold Builtin.Slice.sliceApplied Builtin.Slice.sliceFields
  refine wpAny_bind (wpAny_bind (wpAny_field hos hds (x := vl) rfl (wpAny_bind (wpAny_field hos hds (x := vu) rfl (wpAny_bind (wpAny_field hos hds (x := vs) rfl (wpAny_pure ?_)))))))
  refine wpAny_bind (slicePart_ ps ?_)
  show wpAny _ _ (if ((-1 : Int) == 0) = true then _ else _) _ _ s
  rw [if_neg (by decide)]
  refine wpAny_bind (slicePart_ pl (wpAny_bind (slicePart_ pu (wpAny_bind (wpAny_pure ?_)))))
  show wpAny _ _ (pure ((n : Int) - 1, (-1 : Int), Builtin.Slice.slicePlaces ((n : Int) - 1) (-1) (-1))) _ _ s
  have e : Builtin.Slice.slicePlaces ((n : Int) - 1) (-1) (-1) = n := by
    unfold Builtin.Slice.slicePlaces
    rw [if_neg (by decide)]
    split
    · show (((n : Int) - 1 - -1 - 1) / (- -1) + 1).toNat = n
      rw [show (- -1 : Int) = 1 by decide, Int.ediv_one]
      omega
    · omega
  rw [e]
  exact wpAny_pure h
theorem fm_congr {α β : Type} {f g : α → Option β} : ∀ {l : List α}, (∀ x ∈ l, f x = g x) → l.filterMap f = l.filterMap g
  | [], _ => rfl
  | x :: l, h => by
    have ih := fm_congr (l := l) fun y hy => h y (List.mem_cons_of_mem _ hy)
    rw [List.filterMap_cons, List.filterMap_cons, h x List.mem_cons_self, ih]
theorem pick_rev (xs : Array Value) : ((List.range xs.size).filterMap fun (m : Nat) => xs[((xs.size : Int) - 1 + (m : Int) * (-1)).toNat]?) = xs.toList.reverse := by
  apply List.ext_getElem?
  intro k
  have e : ((List.range xs.size).filterMap fun (m : Nat) => xs[((xs.size : Int) - 1 + (m : Int) * (-1)).toNat]?) = (List.range xs.size).filterMap fun m => xs.toList.reverse[m]? := by
    refine fm_congr fun m hm => ?_
    have hm' := List.mem_range.mp hm
    rw [List.getElem?_reverse (by simpa using hm')]
    rw [show ((xs.size : Int) - 1 + (m : Int) * (-1)).toNat = xs.toList.length - 1 - m by simp; omega]
    simp
  rw [e]
  have p := pick_run xs.toList.reverse.toArray 0 xs.size
  rw [List.filterMap_map] at p
  have e2 : ((fun x => xs.toList.reverse.toArray[x]?) ∘ fun x => 0 + x) = fun m => xs.toList.reverse[m]? := by
    funext m
    simp
  rw [e2] at p
  rw [p]
  congr 1
  exact List.take_of_length_le (by simp)
theorem item_tuple_rev {t sl : Addr} {items : Array Value} {vl vu vs : Value} {Q : Value → Shared → Prop} (ht : IsTup s.heap t items) (hs : s.heap.IsSliceOf sl vl vu vs) (pl : IsPart vl none) (pu : IsPart vu none) (ps : IsPart vs (some (-1)))
    (h : Q (.ref s.heap.objs.size) { s with heap := s.heap.push { cls := .type "tuple", data := .seq items.toList.reverse.toArray } })
    (hsz : items.size ≤ sizeLine) : wpAny (model prog w) A (getItem (.ref t) (.ref sl)) Q E s := by
  have htake : sizeOk (.seq items.toList.reverse.toArray) := by
    show items.toList.reverse.toArray.size ≤ sizeLine
    rw [List.size_toArray, List.length_reverse, Array.length_toList]
    exact hsz
  obtain ⟨os, hos, hcs, hds⟩ := id hs
  have hTs : s.TypeIs (.ref sl) "slice" := ⟨os, hos, hcs⟩
  unfold getItem
  try with_reducible refine wpAny_holding ?_
  first | refine wpAny_bind (wpAny_pure ?_) | skip
  refine wpAny_bind (wpAny_sequenceKey ht.typeIs (by decide) ?_)
  refine wpAny_bind (wpAny_callSpecial?_slot (name := Str.ofString "__getitem__") ht.typeIs PyProof.Rows.slot_tuple_getitem
    (wpAny_call_entry PyProof.Rows.slot_tuple_getitem ht.typeIs entry_tuple_getitem ?_ (args_tuple_getitem _ _)))
  show wpAny _ _ (Builtin.Tuple.tupleItemsOf (.ref t) >>= _) _ _ s
  refine wpAny_bind (tupleItemsOf_ ht ?_)
  refine wpAny_bind (wpAny_typeOf hTs ?_)
  rw [if_pos (by decide)]
  refine wpAny_bind (applied_rev hs pl pu ps ?_)
  have hno : ¬ ((((items.size : Int) - 1) == 0 && (-1 : Int) == 1 && items.size == items.size) = true) := by simp
  show wpAny _ _ (if (((items.size : Int) - 1) == 0 && (-1 : Int) == 1 && items.size == items.size) = true then _ else _) _ _ s
  rw [if_neg hno, pick_rev]
  first
    | exact wpAny_bind (m := Builtin.Tuple.tupleExact _) (wpAny_newObj_type (wpAny_pure ⟨_, rfl, wpAny_pure h⟩) htake)
    | exact wpAny_bind (m := Builtin.Tuple.tupleExact _) (wpAny_newObj_type (wpAny_bind (wpAny_pure (wpAny_pure ⟨_, rfl, wpAny_pure h⟩))) htake)
    | exact wpAny_bind (wpAny_bind (m := Builtin.Tuple.tupleExact _) (wpAny_newObj_type (wpAny_pure (wpAny_pure ⟨_, rfl, wpAny_pure h⟩)) htake))
    | exact wpAny_bind (wpAny_bind (m := Builtin.Tuple.tupleExact _) (wpAny_newObj_type (wpAny_pure ⟨_, rfl, wpAny_pure h⟩) htake))
end
section
variable {C : Cx} {X : Fx} {W : WX} {e : Expr} {te : TE}
def tRevT (K : PySem.W.Frag) (te : TE) : TE := fun σ H Q => te σ H fun x H1 => ∃ a xs, x = .ref a ∧ ((SqL K H1 a xs ∧ ∀ p, H1 p = none → Q (.ref p) (upd H1 p (.lst xs.reverse))) ∨ (SqT K H1 a xs ∧ ∀ p, H1 p = none → Q (.ref p) (upd H1 p (.tup xs.reverse))))
theorem pe_revT {k : Nat} {p1 p2 p3 pos : Pos} (he : PE C e te) : PE C (.Subscript e (.Slice none none (some (.UnaryOp .USub (.Constant (.int 1) k p1) p2)) p3) pos) (tRevT C.K te) := by
  refine ⟨fun pins s σ H Q I h => ?_⟩
  refine Subscript_ (thn (he.run pins s σ H _ I h) fun v s1 ⟨x, H1, I1, r1, q1⟩ => ?_)
  obtain ⟨a, xs, ex, q⟩ := q1
  subst ex
  cases r1
  have hst : PO C (some (.UnaryOp .USub (.Constant (.int 1) k p1) p2)) (tPart (tUn (rU fun i => .int (-i)) (tC (.int 1)))) := po_some (pe_un un_neg pe_int)
  refine wpAny_Slice (thn (po_none.run pins s1 σ H1 (fun o H2 => o = none ∧ H2 = H1) I1 ⟨rfl, rfl⟩) fun vl s2 ⟨l, H2, I2, pl, el, e2⟩ => ?_)
  subst el e2
  refine thn (po_none.run pins s2 σ H2 (fun o H3 => o = none ∧ H3 = H2) I2 ⟨rfl, rfl⟩) fun vu s3 ⟨u, H3, I3, pu, eu, e3⟩ => ?_
  subst eu e3
  refine thn (hst.run pins s3 σ H3 (fun o H4 => o = some (-1) ∧ H4 = H3) I3 ⟨1, rfl, -1, rfl, rfl, rfl⟩) fun vs s4 ⟨o, H4, I4, ps, eo, e4⟩ => ?_
  subst eo e4
  have I5 : Inv C pins σ H4 { s4 with heap := s4.heap.push { cls := .type "slice", data := .fields #[vl, vu, vs] } } := I4.kept (t' := s4.toks) fun b ob q => Heap.get?_push_of_some _ q
  rcases q with ⟨hx, q⟩ | ⟨hx, q⟩
  · obtain ⟨its, r, ht, hz⟩ := I5.list hx
    have hlen := r.length
    show wpAny (model C.prog C.w) C.A (subscriptTail e (.Slice none none (some (.UnaryOp .USub (.Constant (.int 1) k p1) p2)) p3) (.ref a) (.ref s4.heap.objs.size)) (EP C pins σ Q) C.xe { s4 with heap := s4.heap.push { cls := .type "slice", data := .fields #[vl, vu, vs] } }
    refine tail_any (ops := [.ref a, .ref s4.heap.objs.size]) ht.isList.typeIs (PySem.slot_list_getitem.lookup) ?_ (by with_unfolding_all rfl)
    refine wpAny_getItem_list_slice ht.isList (Heap.IsSliceOf.new _ vl vu vs) pl pu ps (by decide) ?_ (by rw [List.size_toArray]; omega)
    rw [PySem.W.krv_pick]
    refine ⟨.ref _, _, I5.laid (t' := s4.toks) (o := .lst xs.reverse) (fun b ob q => Heap.get?_push_of_some _ q) (Nat.le_refl _) ?_, rfl, q _ (I5.hok.fresh (Nat.le_refl _))⟩
    exact ⟨by rw [List.length_reverse]; exact hz, _, 0, r.reverse, Heap.get?_push_size _ rfl⟩
  · obtain ⟨its, r, ht, hz⟩ := I5.tuple hx
    have hlen := r.length
    show wpAny (model C.prog C.w) C.A (subscriptTail e (.Slice none none (some (.UnaryOp .USub (.Constant (.int 1) k p1) p2)) p3) (.ref a) (.ref s4.heap.objs.size)) (EP C pins σ Q) C.xe { s4 with heap := s4.heap.push { cls := .type "slice", data := .fields #[vl, vu, vs] } }
    refine tail_any (ops := [.ref a, .ref s4.heap.objs.size]) ht.typeIs (PyProof.Rows.slot_tuple_getitem.lookup) ?_ (by with_unfolding_all rfl)
    refine item_tuple_rev ht (Heap.IsSliceOf.new _ vl vu vs) pl pu ps ?_ (by rw [List.size_toArray]; omega)
    refine ⟨.ref _, _, I5.laid (t' := s4.toks) (o := .tup xs.reverse) (fun b ob q => Heap.get?_push_of_some _ q) (Nat.le_refl _) ?_, rfl, q _ (I5.hok.fresh (Nat.le_refl _))⟩
    exact ⟨by rw [List.length_reverse]; exact hz, _, r.reverse, IsTup.new _ _⟩
def revT : D → Option Val
  | .list xs => some (.ol xs.reverse)
  | .tuple xs => some (.fz (.tuple xs.reverse))
  | _ => none
theorem de_revT {o : Opd} {k : Nat} {p1 p2 p3 pos : Pos} (he : DO C X W e o) (hK : X.K = C.K := by rfl) : DE C X W (.Subscript e (.Slice none none (some (.UnaryOp .USub (.Constant (.int 1) k p1) p2)) p3) pos) (una revT o) :=
  PE.imp (pe_revT he) fun σ H Q h => una_run h fun x H1 q => by
    obtain ⟨Z, d, v, hz, hx, hf, fr⟩ := q
    unfold revT at hf
    split at hf
    · cases hf
      obtain ⟨a, vs, rfl, r1, l, q⟩ := hx
      rw [← hK]
      exact ⟨a, vs, rfl, .inl ⟨LiL.sq r1, fr.lst hz q.reverse (by rw [List.length_reverse]; exact l)⟩⟩
    · cases hf
      cases hx with
      | tup s1 l q =>
        rw [← hK]
        exact ⟨_, _, rfl, .inr ⟨SqT.at hz s1, fr.tup hz q.reverse (by rw [List.length_reverse]; exact l)⟩⟩
    · cases hf
end
end MS

/-! part y: a call that only looks at its arguments -/
namespace MS
open PySem PySem.Spec PyProof.Rows L2
def flatB : D → Bool
  | .none => true
  | .bool _ => true
  | .int _ => true
  | .str _ => true
  | _ => false
/-- names are looked at, what is told holds nothing of them -/
def callL (g : Fn) (os : List Opd) : M Val := fun r => match evs os r with
  | .ok ds r' => match g (ds.map .fz) with
    | .ok (.fz d) _ => if flatB d = true then .ok (.fz d) r' else .err
    | .ok _ _ => .err
    | .exc c es _ => .exc c es r'
    | .err => .err
  | .exc c ds r' => .exc c ds r'
  | .err => .err
theorem flat_rep {K : PySem.W.Frag} {Z Z' : Hp} {x : V} {d : D} (hf : flatB d = true) (h : Rep K Z x d) : Rep K Z' x d := by
  cases h with
  | non => exact .non
  | bl b => exact .bl b
  | int i => exact .int i
  | str s => exact .str s
  | lst _ _ _ => cases hf
  | tup _ _ _ => cases hf
  | dct _ _ => cases hf
section
variable {C : Cx} {X : Fx} {W : WX} {Z F H : Hp} {r : List Val} {σ : L2.St} {e : Expr} {pos : Pos}
theorem repHs_all {K : PySem.W.Frag} (s : Same Z H) : ∀ {xs : List V} {ds : List D}, RepHs K Z H xs ds → Reps K H xs ds
  | [], [], _ => .nil
  | x :: xs, d :: ds, h => .cons (h.1.all s) (repHs_all s h.2)
  | [], _ :: _, h => h.elim
  | _ :: _, [], h => h.elim
theorem repHs_noT {T : List (Addr × Str)} {K : PySem.W.Frag} (t : LamX.Tabs T H) : ∀ {xs : List V} {ds : List D}, RepHs K Z H xs ds → RepHs K Z (noT T H) xs ds
  | [], [], _ => trivial
  | x :: xs, d :: ds, h => ⟨by
      have h1 := h.1
      cases d with
      | list ds => obtain ⟨a, vs, rfl, r, l, q⟩ := h1; exact ⟨a, vs, rfl, r.noT t, l, q⟩
      | dict es =>
        obtain ⟨a, kvs, rfl, r, q⟩ := h1
        refine ⟨a, kvs, rfl, ?_, q⟩
        rcases r with r | ⟨o, r⟩
        · exact .inl (noT_at r t fun _ e => nomatch e)
        · exact .inr ⟨o, noT_at r t fun _ e => nomatch e⟩
      | _ => exact h1, repHs_noT t h.2⟩
  | [], _ :: _, h => h.elim
  | _ :: _, [], h => h.elim
theorem callL_run {np : Nat} {gf : Fn} {os : List Opd} {Q : VK} (hnp : os.length = np) (h : rdE X W (callL gf os) σ H Q) : tCallS (spF X.K X.ex np gf) (L2.WE W) (rdPs X W os) σ H Q := by
  obtain ⟨Z, F, r, g, h⟩ := h
  refine ⟨Z, F, r, g, ?_⟩
  revert h
  unfold callL evs
  cases e1 : pres os r with
  | exc c ds r' => exact fun h => h
  | err => exact fun h => h
  | ok ds r' =>
    simp only
    cases e : looks os ds r' with
    | none => exact fun h => h.elim
    | some es =>
      simp only
      intro h Z1 H1 ex1 g1 xs hx
      have rs := repHs_all (g1.nz.same g1.zh) (repHs_noT g1.tb (Helds.look g1 hx e))
      have ln : es.length = np := by
        have : ∀ (os : List Opd) (ds es : List D), looks os ds r' = some es → es.length = os.length := by
          intro os
          induction os with
          | nil =>
            intro ds es h
            cases ds with
            | nil => cases h; rfl
            | cons d ds => cases h
          | cons o os ih =>
            intro ds es h
            cases ds with
            | nil => cases h
            | cons d ds =>
              unfold looks at h
              cases e : o.look d r' with
              | none => rw [e] at h; cases h
              | some z =>
                rw [e] at h
                obtain ⟨es', e2, rfl⟩ := Option.map_eq_some_iff.mp h
                rw [List.length_cons, List.length_cons, ih ds es' e2]
        rw [this os ds es e, hnp]
      have gin : G (X0 X.K X.ex) (noT X.ex.tb H1) (noT X.ex.tb H1) (es.map .fz) (xs.map some) H1 := by
        refine ⟨noT_same, noT_same, by rw [List.length_map, List.length_map, rs.length], fun i v e => ?_, fun i j v u p e1 e2 o1 o2 => ?_, fun i hi => absurd hi (by show ¬ i ∈ ([] : List Nat); simp), no_hx _, noT_no, noT_no, g1.tb⟩
        · obtain ⟨d, x, rfl, e2, rp⟩ := reps_map rs i v e
          exact ⟨x, e2, rp⟩
        · obtain ⟨d, x, rfl, _⟩ := reps_map rs i v e1
          rw [foot_fz] at o1; cases o1
      refine ⟨by rw [rs.length, ln], noT X.ex.tb H1, noT X.ex.tb H1, es.map .fz, gin, ?_⟩
      have back : ∀ {Z' H' : Hp} {outs : List Val} {τ : L2.St}, G (X0 X.K X.ex) Z' (noT X.ex.tb H1) outs τ H' → G X Z1 F r' σ H' := fun {Z' H' outs τ} g' => g1.growT g'.fh g'.tb
      revert h
      cases gf (es.map .fz) with
      | err => exact fun h => h
      | exc c ds2 outs => exact fun h cls d Z' H' x ex g' => h cls d Z1 H' x ex1 (back g')
      | ok v outs =>
        cases v with
        | un => exact fun h => h.elim
        | ol zs => exact fun h => h.elim
        | od zs => exact fun h => h.elim
        | ow zs => exact fun h => h.elim
        | fz d =>
          simp only
          split
          · rename_i hf
            intro h Z' H' ex g' x rv
            exact h Z1 H' ex1 (back g') x (flat_rep hf (show Rep X.K Z' x d from rv))
          · exact fun h => h.elim
theorem de_callLD {k : Nat} {ps : List Str} {x : Str} {gf : Fn} {p : Pos} {es : List Expr} {os : List Opd} (d : DefM C.prog C.w C.K C.mg C.base X.ex k x ps gf) (hr : Room k C.A) (hg : Gl C x) (tk : L2N.Takes C W) (ha : DOs C X W (e :: es) os) (hnp : os.length = ps.length := by rfl)
    (hdb : (x == ("__debug__" : Str)) = false := by decide) (he : starEach (e :: es) C.env = (false, eval e C.env) :: starEach es C.env := by rfl) (hpl : (backTo pos (starEach es C.env)).any (·.1) = false := by rfl) (hK : X.K = C.K := by rfl) : DE C X W (.Call (.Name x p) (e :: es) [] pos) (callL gf os) := by
  obtain ⟨f, fd, h1, h2, h3, h4⟩ := d
  exact PE.imp (pe_callG h1 hr hg h2 h3 h4 (fun σ => L2N.passAt tk σ) ha hdb he hpl) fun _ _ _ h => by rw [← hK]; exact callL_run hnp h
end
@[simp] theorem x_callL (g : Fn) (os : List Opd) (r : List Val) : callL g os r = (match evs os r with
  | .ok ds r' => (match g (ds.map .fz) with
    | .ok (.fz d) _ => if flatB d = true then .ok (.fz d) r' else .err
    | .ok _ _ => .err
    | .exc c es _ => .exc c es r'
    | .err => .err)
  | .exc c ds r' => .exc c ds r'
  | .err => .err) := (rfl)
end MS

/-! part z: a list so many times -/
namespace MS
open PySem PySem.Spec PyProof.Rows L2
section
variable {C : Cx}
def rRepL (K : PySem.W.Frag) : R2 := fun x y H Q => ∃ l k xs, x = .ref l ∧ y = .int k ∧ LiL K H l xs ∧ -(2 ^ 63) ≤ k ∧ k < 2 ^ 63 ∧ xs.length * k.toNat ≤ sizeLine ∧
  ∀ p, H p = none → Q (.ref p) (upd H p (.lst (List.replicate k.toNat xs).flatten))
theorem op_repL : OpR C (binaryOp .Mult) (rRepL C.K) := by
  intro pins s σ H x y v u Q I rx ry h
  obtain ⟨l, k, xs, rfl, rfl, hH, h1, h2, hz, q⟩ := h
  cases rx
  obtain ⟨t, rfl⟩ := ry
  obtain ⟨its, n, r, hl, e⟩ := inv_rdL I hH
  have hlen : its.toArray.size * k.toNat ≤ sizeLine := by rw [List.size_toArray, ← hl]; exact hz
  have hcap : ¬ its.toArray.size * k.toNat > (2 ^ 63 - 1) / 8 := by
    have : (sizeLine : Nat) ≤ (2 ^ 63 - 1) / 8 := by decide
    omega
  have hfit : ¬ (!Builtin.List.listFitsIndex k) = true := by
    rw [fitsIndex_both h1 h2]
    exact Bool.false_ne_true
  have hlong : ¬ Builtin.List.listTooLong (its.toArray.size * k.toNat) = true := by
    rw [notLongL hlen]
    exact Bool.false_ne_true
  have hnew : List.foldl (fun x1 x2 => x1 ++ x2) #[] (List.replicate (if its.toArray.isEmpty = true then 0 else k.toNat) its.toArray) = (List.replicate k.toNat its).flatten.toArray := by
    have f0 : ∀ m : Nat, List.foldl (fun x1 x2 => x1 ++ x2) #[] (List.replicate m its.toArray) = (List.replicate m its).flatten.toArray := fun m => by
      have := foldl_rep its m []
      rw [List.nil_append] at this
      exact this
    rw [f0]
    cases its with
    | nil => simp
    | cons a r' => rw [if_neg (by simp)]
  refine wpAny_binaryOp_repeat_ref (T := "list") (U := "int") (by decide) ⟨_, e, rfl⟩ (fun s' => typeIs_int s' k t) noFill_list_mul F.fills_int_mul F.slot_int_rmul repeat_list F.slot_int_index.lookup
    (call_meets F.slot_int_rmul (typeIs_int s k t) F.entry_int_rmul (F.args_int_rmul_2 _ _) (int___rmul___int_list k t l its.toArray n)
      ⟨e, rfl, ⟨_, e, rfl⟩, call_meets F.slot_list_mul ⟨_, e, rfl⟩ F.entry_list_mul (F.args_list_mul_2 _ _) (AutoListH.list___mul___list_int_3 l its.toArray n k t hfit hcap hlong) ⟨e, ?_⟩⟩)
  rw [hnew]
  exact ⟨.ref _, _, I.lnew (t' := s.toks) (r.rep k.toNat) (by rw [PyProof.Rows.lm_len_rep_flat, Nat.mul_comm]; exact hz), rfl, q _ I.fresh⟩
def repN {α : Type} (xs : List α) : Nat → List α
  | 0 => []
  | n + 1 => xs ++ repN xs n
theorem repN_eq {α : Type} (xs : List α) : ∀ n, (List.replicate n xs).flatten = repN xs n
  | 0 => rfl
  | n + 1 => by rw [List.replicate_succ, List.flatten_cons, repN_eq xs n]; rfl
theorem repN_len {α : Type} (xs : List α) : ∀ n, (repN xs n).length = xs.length * n
  | 0 => rfl
  | n + 1 => by
    show (xs ++ repN xs n).length = _
    rw [List.length_append, repN_len xs n, Nat.mul_succ]
    omega
theorem Reps.rep {K : PySem.W.Frag} {Z : Hp} {vs : List V} {ds : List D} (h : Reps K Z vs ds) : ∀ n, Reps K Z (repN vs n) (repN ds n)
  | 0 => .nil
  | n + 1 => h.append (Reps.rep h n)
/-- a list times an int -/
def mulL : D → D → Option Val
  | .list xs, .int k => if (smI k && Nat.ble (xs.length * k.toNat) LINE) = true then some (.ol (repN xs k.toNat)) else none
  | _, _ => none
theorem op_mulL : OpR C (binaryOp .Mult) (rF C.K mulL) := op_by fun d e v x y H Z Q hf hz hx hy fr => by
  unfold mulL at hf
  split at hf
  · rename_i xs k
    split at hf
    · rename_i hc
      cases hf
      rw [Bool.and_eq_true] at hc
      obtain ⟨a, vs, rfl, r1, l1, q1⟩ := hx
      cases hy
      have b := smI_of hc.1
      have hlen : vs.length * k.toNat ≤ sizeLine := by rw [q1.length, line_eq]; exact Nat.le_of_ble_eq_true hc.2
      refine ⟨_, op_repL, a, k, vs, rfl, rfl, r1, by omega, by omega, hlen, ?_⟩
      rw [repN_eq]
      exact fr.lst hz (q1.rep k.toNat) (by rw [repN_len]; exact hlen)
    · cases hf
  · cases hf
end
end MS

/-! part 0: len(set(t)), t a tuple of ints -/
namespace MS
open PySem PySem.Spec PyProof.Rows L2
section
variable {C : Cx} {X : Fx} {W : WX} {e : Expr} {pos : Pos}
def tLenSetT (K : PySem.W.Frag) (ta : TE) : TE := fun σ H Q => ta σ H fun x H1 => ∃ (l : Addr) (ns : List Int), x = V.ref l ∧ SqT K H1 l (ns.map V.int) ∧ ns.length ≤ 1000 ∧ Q (.int ((usort ns).length : Nat)) H1
theorem pe_lenSetT {a : Expr} {ta : TE} {p p2 q : Pos} (hc : C.calm = true) (hg : Gl C "len") (hm : C.mg "len" = none) (hg2 : Gl C "set") (hm2 : C.mg "set" = none) (ha : PE C a ta)
    (na : starEach [a] C.env = (false, eval a C.env) :: starEach [] C.env := by rfl) : PE C (.Call (.Name "len" p) [.Call (.Name "set" p2) [a] [] q] [] pos) (tLenSetT C.K ta) := by
  refine ⟨fun pins s σ H Q I h => ?_⟩
  refine Call_ (ld_blt I hg hm PySem.boot_len ?_)
  refine PyProof.Rows.callWith_builtin1 (PyProof.Rows.args_cons ?_ rfl) rfl rfl
  refine Call_ (ld_blt I hg2 hm2 PyProof.Rows.boot_set ?_)
  refine PyProof.Rows.callWith_type1 (PyProof.Rows.args_cons (thn (ha.run pins s σ H _ I h) fun v s1 ⟨x, H1, I1, r1, q1⟩ => PyProof.Rows.args_nil ?_) na) na rfl
  obtain ⟨l, ns, rfl, hq, h1, q1⟩ := q1
  cases r1
  obtain ⟨its, rv, pt, hz⟩ := I1.tuple hq
  have hi : IntsAre its.toArray.toList ns := ints_of_vals rv
  refine call_set_tupI ns (I1.ok.hd hc) (show s1.heap.IsTuple l its.toArray from pt) hi (by unfold scanBound; omega) fun h' tk c hS hcn hk => ?_
  refine PyProof.Rows.args_nil ?_
  obtain ⟨o, es, ep, t, ho, hex, hd, hge, hnd, hmem, _, hf, hn, _⟩ := hS
  have I2 : Inv C pins σ H1 { s1 with heap := h', toks := tk } := I1.kept hk
  have pm : (es.toList.map keyOf).Perm (usort ns) := (List.perm_ext_iff_of_nodup hnd ((usort_pair ns).imp fun {a b} q e => by omega)).mpr fun k => by
    rw [← hmem k, usort_mem]
    exact decide_eq_true_iff
  have el : es.size = (usort ns).length := by
    have := pm.length_eq
    rw [List.length_map, Array.length_toList] at this
    exact this
  refine call_len_set ho hex hd hf (by rw [hn] <;> omega) ⟨.int ((usort ns).length : Nat), H1, I2.tok _, ⟨_, by rw [el]⟩, q1⟩
def lenSetD : D → Option Val
  | .tuple ds => (intsD ds).bind fun ns => if Nat.ble ns.length 1000 = true then some (.fz (.int ((usort ns).length : Nat))) else none
  | _ => none
theorem de_lenSet {a : Expr} {o : Opd} {p p2 q : Pos} (hc : C.calm = true) (hg : Gl C "len") (hm : C.mg "len" = none) (hg2 : Gl C "set") (hm2 : C.mg "set" = none) (ha : DO C X W a o)
    (na : starEach [a] C.env = (false, eval a C.env) :: starEach [] C.env := by rfl) (hK : X.K = C.K := by rfl) : DE C X W (.Call (.Name "len" p) [.Call (.Name "set" p2) [a] [] q] [] pos) (una lenSetD o) := by
  refine PE.imp (pe_lenSetT hc hg hm hg2 hm2 ha na) fun σ H Q h => ?_
  refine una_run h fun x H1 hq => ?_
  obtain ⟨Z, d, v, hz, hx, hf, fr⟩ := hq
  unfold lenSetD at hf
  split at hf
  · rename_i ds
    obtain ⟨ns, e1, e2⟩ := Option.bind_eq_some_iff.mp hf
    split at e2
    · rename_i hl
      cases e2
      cases hx with
      | tup s1 l q =>
        rename_i a vs
        obtain rfl := q.ints e1
        exact ⟨a, ns, rfl, SqT.at hz s1, Nat.le_of_ble_eq_true hl, fr.sc hz (.int _)⟩
    · cases e2
  · cases hf
end
end MS

/-! part 1: sorted(t), t a tuple of ints -/
namespace MS
open PySem PySem.Spec PyProof.Rows L2
section
variable {C : Cx} {X : Fx} {W : WX} {pins : List (Addr × Obj)} {σ : L2.St} {H Z : Hp} {s : Shared}
abbrev inC (C : Cx) : Cx := { C with A := C.A.in1 }
theorem okIn {C : Cx} (ok : C.Ok) : (inC C).Ok :=
  ⟨ok.mod, ok.kind, ok.glob, ok.blt, ok.above, ok.inj, ok.has, ok.cab, ok.hd, ok.frames, ok.stk, ok.exf, ok.bs, ok.bsz, ok.noex, ok.exfs, ok.funs, ok.frf⟩
theorem invIn (I : Inv C pins σ H s) : Inv (inC C) pins σ H s :=
  ⟨okIn I.ok, I.os, I.bare, I.base, I.loc, I.cell, I.free, I.freeC, I.pin, I.hok, I.len⟩
theorem invOut (I : Inv (inC C) pins σ H s) (ok : C.Ok) : Inv C pins σ H s :=
  ⟨ok, I.os, I.bare, I.base, I.loc, I.cell, I.free, I.freeC, I.pin, I.hok, I.len⟩
def rSortTI (K : PySem.W.Frag) : List V → Hp → VK → Prop := fun vs H Q => ∃ (a : Addr) (ns : List Int), vs = [V.ref a] ∧ SqT K H a (ns.map V.int) ∧ ∀ (ns' : List Int) (p : Addr), ns'.Perm ns → ns'.Pairwise (· ≤ ·) → H p = none → Q (.ref p) (upd H p (.lst (ns'.map V.int)))
theorem cr_sortTI : CallR C (.builtin "sorted") (rSortTI C.K) := by
  intro pins s σ H xs us Q I rx ⟨a, ns, ex, hq, q⟩
  subst ex
  rw [Vals.ref1 rx]
  obtain ⟨its, rv, ⟨o, ho, hc, n, hd⟩, hz⟩ := I.tuple hq
  have hzi : its.length ≤ sizeLine := by rw [← rv.length]; exact hz
  refine call_function_entry_kw kind_sorted plain_sorted entry_sorted (args_sorted1 _) ?_
  unfold Builtin.«sorted»
  refine wpAny_bind (m := checkCount "sorted" 1 1 _) (wpAny_pure ?_)
  refine wpAny_bind (wpAny_collect_seq a (.inr rfl) ho hc hd (fun h' hk => ?_) (by simpa using hzi))
  refine wpAny_bind (wpAny_newList ?_ (by simpa using hzi))
  have I2 : Inv C pins σ H { s with heap := h' } := I.kept hk
  have fr : H h'.objs.size = none := I2.hok.fresh (Nat.le_refl _)
  have I3 : Inv C pins σ (upd H h'.objs.size (.lst (ns.map V.int))) { s with heap := h'.push { cls := .type "list", data := .seq its.toArray.toList.toArray } } := I2.laid (t' := s.toks) (fun b ob q => Heap.get?_push_of_some _ q) (Nat.le_refl _) ⟨hz, its, 0, rv, Heap.get?_push_size _ rfl⟩
  refine wpAny_bind (wpAny_holding (wpAny_mono (mt_sortI (X := inC C) pins _ σ _ (.ref h'.objs.size) [] _ [] (fun v H' => ∃ ns' : List Int, ns'.Perm ns ∧ ns'.Pairwise (· ≤ ·) ∧ H' = upd H h'.objs.size (.lst (ns'.map V.int))) (invIn I3) rfl .nil ⟨h'.objs.size, ns, rfl, rfl, upd_same, fun ns' h1 h2 => ⟨ns', h1, h2, ?_⟩⟩) (fun u s' hu => ?_) fun _ _ e => e))
  · funext b
    by_cases hb : b = h'.objs.size
    · subst hb; rw [upd_same, upd_same]
    · rw [upd_ne hb, upd_ne hb, upd_ne hb]
  · obtain ⟨v, H', J, _, ns', h1, h2, eH⟩ := hu
    subst eH
    exact wpAny_pure ⟨_, rfl, .ref h'.objs.size, _, invOut J I.ok, rfl, q ns' _ h1 h2 fr⟩
def sortTD : D → Option Val
  | .tuple ds => (intsD ds).map fun ns => .ol ((sortI ns).map .int)
  | _ => none
theorem de_sortT {a : Expr} {o : Opd} {p pos : Pos} (hg : Gl C "sorted") (hm : C.mg "sorted" = none) (ha : DO C X W a o) (hv : bootBuiltins "sorted" = some (.builtin "sorted") := by decide +kernel)
    (na : starEach [a] C.env = (false, eval a C.env) :: starEach [] C.env := by rfl) (hpl : (backTo pos (starEach [] C.env)).any (·.1) = false := by rfl) (hK : X.K = C.K := by rfl) : DE C X W (.Call (.Name "sorted" p) [a] [] pos) (una sortTD o) := by
  refine PE.imp (pe_callB cr_sortTI hg hm hv (pa_cons ha pa_nil na) (by decide) (by decide) na hpl) fun σ H Q h => ?_
  refine una_run h fun x H1 hq => ?_
  obtain ⟨Z, d, v, hz, hx, hf, fr⟩ := hq
  unfold sortTD at hf
  split at hf
  · rename_i ds
    obtain ⟨ns, e1, e2⟩ := Option.map_eq_some_iff.mp hf
    cases e2
    cases hx with
    | tup s1 l q =>
      rename_i a vs
      obtain rfl := q.ints e1
      refine ⟨a, ns, rfl, SqT.at hz s1, fun ns' p h1 h2 np => ?_⟩
      obtain rfl := sortI_uniq h1 h2
      refine fr.lst hz (reps_ints _) ?_ p np
      rw [List.length_map, h1.length_eq]
      rw [List.length_map] at l
      exact l
  · cases hf
/-- a list, or a tuple of ints -/
def sortedW : List D → Option Val
  | [.tuple ds] => sortTD (.tuple ds)
  | ds => sortedV ds
theorem call_sortedW (hu : C.A.units + 64 < cLine) : CallR C (.builtin "sorted") (rApp C.K sortedW) := by
  intro pins s σ H xs us Q I rx ⟨Z, ds, v, hz, hx, hf, fr⟩
  unfold sortedW at hf
  split at hf
  · rename_i ds
    unfold sortTD at hf
    simp only at hf
    obtain ⟨ns, e1, e2⟩ := Option.map_eq_some_iff.mp hf
    cases e2
    obtain ⟨x, rfl, hx1⟩ := RepHs.one hx
    cases hx1 with
    | tup s1 l q =>
      rename_i a vs
      obtain rfl := q.ints e1
      refine cr_sortTI pins s σ H _ us Q I rx ⟨a, ns, rfl, SqT.at hz s1, fun ns' p h1 h2 np => ?_⟩
      obtain rfl := sortI_uniq h1 h2
      refine fr.lst hz (reps_ints _) ?_ p np
      rw [List.length_map, h1.length_eq]
      rw [List.length_map] at l
      exact l
  · exact call_sortedV hu pins s σ H xs us Q I rx ⟨Z, ds, v, hz, hx, hf, fr⟩
end
@[simp] theorem sortedW_l (ds : List D) : sortedW [.list ds] = sortedV [.list ds] := (rfl)
@[simp] theorem sortedW_t (ds : List D) : sortedW [.tuple ds] = (intsD ds).map fun ns => .ol ((sortI ns).map .int) := (rfl)
end MS

/-! part 2: is a list, of any things, empty: x == [] -/
namespace MS
open PySem PySem.Spec PyProof.Rows L2
def eq0D (d e : D) : Option Val := match d, e with
  | .list xs, .list [] => some (.fz (.bool xs.isEmpty))
  | _, _ => none
section
variable {C : Cx}
theorem op_eq0 (hu : C.A.units + 64 < cLine) : OpR C (compareOp .Eq) (rF C.K eq0D) := by
  intro pins s σ H x y v u Q I rx ry ⟨Z, d, e, z, hz, hx, hy, hf, fr⟩
  unfold eq0D at hf
  split at hf
  · rename_i xs
    cases hf
    cases xs with
    | nil =>
      obtain ⟨as, r1⟩ := Rep.reads I (.list []) x v (hx.all hz) rx rfl
      obtain ⟨bs, r2⟩ := Rep.reads I (.list []) y u (hy.all hz) ry rfl
      exact SeqAt.eq_plain r1 r2 rfl rfl (Nat.lt_of_le_of_lt (Nat.add_le_add_left (by decide : min (PyData.list []).depth (PyData.list []).depth ≤ 64) _) hu) ⟨.bl _, H, I, rfl, fr.sc hz (.bl _)⟩
    | cons x0 xs =>
      obtain ⟨a, vs, rfl, l1, _, q1⟩ := hx
      obtain ⟨b, ws, rfl, l2, _, q2⟩ := hy
      cases rx
      cases ry
      obtain ⟨its, n, rv, hl, e1⟩ := inv_rdL I l1
      obtain ⟨its2, n2, rv2, hl2, e2⟩ := inv_rdL I l2
      cases q1 with
      | cons q1 q1s =>
        cases q2
        have hsz : (its.toArray.size != its2.toArray.size) = true := by
          simp only [List.size_toArray, ← hl, ← hl2, List.length_cons, List.length_nil]
          simp
        exact SeqAt.RcAt.lists_lengths (s := s) ⟨_, e1, rfl, _, rfl⟩ ⟨_, e2, rfl, _, rfl⟩ hsz (by omega) C.prog C.w _ _ ⟨.bl _, H, I, rfl, fr.sc hz (.bl _)⟩
  · cases hf
end
end MS

/-! part 3: min and max of two tuples of ints -/
namespace MS
open PySem PySem.Spec PyProof.Rows L2
/-- tuples of ints, rising -/
def ltI : List Int → List Int → Bool
  | [], [] => false
  | [], _ :: _ => true
  | _ :: _, [] => false
  | x :: xs, y :: ys => if x = y then ltI xs ys else decide (x < y)
theorem toks_ltI : ∀ a b : List Int, lexLt PyProof.Rows.itemOrd (PySem.W.keyToksAll (a.map .int)) (PySem.W.keyToksAll (b.map .int)) = ltI a b
  | [], [] => by
    show lexLt PyProof.Rows.itemOrd [.inl 0] [.inl 0] = false
    rw [PySem.W.lex_one]
    decide
  | [], y :: b => by
    rw [List.map_cons, PySem.W.toks_all_cons]
    show lexLt PyProof.Rows.itemOrd (.inl 0 :: []) (.inl 1 :: _) = true
    rw [PySem.W.lex_atom (by decide), PySem.W.lex_one]
    decide
  | x :: a, [] => by
    rw [List.map_cons, PySem.W.toks_all_cons]
    show lexLt PyProof.Rows.itemOrd (.inl 1 :: _) (.inl 0 :: []) = false
    rw [PySem.W.lex_atom (by decide), PySem.W.lex_one]
    decide
  | x :: a, y :: b => by
    have ih := toks_ltI a b
    have al : PySem.W.alike (.int x) (.int y) = true := by simp only [PySem.W.alike]
    rw [List.map_cons, List.map_cons]
    unfold ltI
    by_cases h : x = y
    · subst h
      rw [if_pos rfl, ← ih]
      exact PySem.W.dataLt_all_yes al (by simp [PyData.eqv])
    · rw [if_neg h, PySem.W.dataLt_all_no al (by simp [PyData.eqv, h]), PySem.W.dataLt_int]
theorem dataLt_ltI (a b : List Int) : PySem.W.dataLt (.tuple (a.map .int)) (.tuple (b.map .int)) = ltI a b := toks_ltI a b
def maxT : List D → Option Val
  | [.tuple a, .tuple b] => match intsD a, intsD b with
    | some ns, some ms => some (.fz (if ltI ns ms = true then .tuple b else .tuple a))
    | _, _ => none
  | _ => none
def minT : List D → Option Val
  | [.tuple a, .tuple b] => match intsD a, intsD b with
    | some ns, some ms => some (.fz (if ltI ms ns = true then .tuple b else .tuple a))
    | _, _ => none
  | _ => none
section
open PySem.W
variable {prog : Program} {w : World} {A : Around} {E : Value → Shared → Prop} {s : Shared}
theorem call_max_twoH {a b : Value} {Q : Value → Shared → Prop}
    (h : wpAny (model prog w) A.in1 (pyIter (.ref s.heap.objs.size)) (fun it s₂ => ∃ I fp wr G n P St H bt, it = .ref I ∧ WalksS prog w A.in1 I fp wr G n P St ∧ St 0 s₂ ∧ (∀ b ∈ fp, b < s₂.heap.objs.size) ∧ 0 < n ∧
      (∀ b o, H.get? b = some o → b ∉ wr) ∧ (∀ b o, H.get? b = some o → s₂.heap.get? b = some o) ∧ CmpIn prog w A.in1 .Gt H P bt ∧ ∀ v s', P (argBest bt (n - 1)) v → Moved wr G s₂ s' → Q v s') E
      { s with heap := s.heap.push { cls := .type "tuple", data := .seq #[a, b] } }) :
    wpAny (model prog w) A (call (.builtin "max") [a, b]) Q E s := by
  have hname : (toString "max" ++ toString ".loop" : String) = "max.loop" := by decide
  refine call_function_tree F.kind_max F.plain_max F.entry_max (F.args_max2 _ _) ?_
  show wpAny _ A.in1 (Builtin.Builtins.bindParams "max" ["key", "default"] 0 ⟨[], []⟩ >>= _) _ _ s
  refine wpAny_bind (wpAny_of_eq (show Builtin.Builtins.bindParams "max" ["key", "default"] 0 ⟨[], []⟩ = pure [none, none] from rfl) ?_)
  show wpAny _ A.in1 (newTuple [a, b] >>= _) _ _ s
  refine wpAny_bind (wpAny_newObj_type ?_)
  refine wpAny_bind (wpAny_mono h (fun it s₂ h₂ => ?_) fun _ _ e => e)
  obtain ⟨I, fp, wr, G, n, P, St, H, bt, rfl, W, hst, hfp, hn, hw, hkeep, hcmp, hQ⟩ := h₂
  refine wpAny_bind (wpAny_newObj_type ?_)
  have hSf : s₂.heap.objs.size ∉ fp := fun hm => Nat.lt_irrefl _ (hfp _ hm)
  rw [hname]
  refine wpAny_pure ⟨plainId_quiet F.plain_max_loop _, codeAny_max_loop_firstH W H hw bt hcmp s₂.heap.objs.size hSf (fresh_in hkeep) _ hn (fun b o e => Heap.get?_push_of_some _ (hkeep b o e)) (W.frame 0 s₂ _ s₂.toks hst (Nat.le_refl _) fun b _ o e => Heap.get?_push_of_some _ e) (Heap.get?_push_size _ rfl) fun v s' hP hm => ?_⟩
  exact hQ v s' hP (Moved.drop_new (tk := s₂.toks) hm (Nat.le_refl _))
theorem call_min_twoH {a b : Value} {Q : Value → Shared → Prop}
    (h : wpAny (model prog w) A.in1 (pyIter (.ref s.heap.objs.size)) (fun it s₂ => ∃ I fp wr G n P St H bt, it = .ref I ∧ WalksS prog w A.in1 I fp wr G n P St ∧ St 0 s₂ ∧ (∀ b ∈ fp, b < s₂.heap.objs.size) ∧ 0 < n ∧
      (∀ b o, H.get? b = some o → b ∉ wr) ∧ (∀ b o, H.get? b = some o → s₂.heap.get? b = some o) ∧ CmpIn prog w A.in1 .Lt H P bt ∧ ∀ v s', P (argBest bt (n - 1)) v → Moved wr G s₂ s' → Q v s') E
      { s with heap := s.heap.push { cls := .type "tuple", data := .seq #[a, b] } }) :
    wpAny (model prog w) A (call (.builtin "min") [a, b]) Q E s := by
  have hname : (toString "min" ++ toString ".loop" : String) = "min.loop" := by decide
  refine call_function_tree F.kind_min F.plain_min F.entry_min (F.args_min2 _ _) ?_
  show wpAny _ A.in1 (Builtin.Builtins.bindParams "min" ["key", "default"] 0 ⟨[], []⟩ >>= _) _ _ s
  refine wpAny_bind (wpAny_of_eq (show Builtin.Builtins.bindParams "min" ["key", "default"] 0 ⟨[], []⟩ = pure [none, none] from rfl) ?_)
  show wpAny _ A.in1 (newTuple [a, b] >>= _) _ _ s
  refine wpAny_bind (wpAny_newObj_type ?_)
  refine wpAny_bind (wpAny_mono h (fun it s₂ h₂ => ?_) fun _ _ e => e)
  obtain ⟨I, fp, wr, G, n, P, St, H, bt, rfl, W, hst, hfp, hn, hw, hkeep, hcmp, hQ⟩ := h₂
  refine wpAny_bind (wpAny_newObj_type ?_)
  have hSf : s₂.heap.objs.size ∉ fp := fun hm => Nat.lt_irrefl _ (hfp _ hm)
  rw [hname]
  refine wpAny_pure ⟨plainId_quiet F.plain_min_loop _, codeAny_min_loop_firstH W H hw bt hcmp s₂.heap.objs.size hSf (fresh_in hkeep) _ hn (fun b o e => Heap.get?_push_of_some _ (hkeep b o e)) (W.frame 0 s₂ _ s₂.toks hst (Nat.le_refl _) fun b _ o e => Heap.get?_push_of_some _ e) (Heap.get?_push_size _ rfl) fun v s' hP hm => ?_⟩
  exact hQ v s' hP (Moved.drop_new (tk := s₂.toks) hm (Nat.le_refl _))
theorem max_two_data {a b : Value} {da db : PyData} {as bs : List Addr} {Q : Value → Shared → Prop} (hh : A.handled = none) (ra : Reads s.heap a da as) (rb : Reads s.heap b db bs) (ha : AlikeAll [da, db]) (hu : A.units + 1 + PyData.depthAll [da, db] < cLine)
    (h : ∀ h' tk, (∀ b o, s.heap.get? b = some o → h'.get? b = some o) → Q (if dataLt da db = true then b else a) { s with heap := h', toks := tk }) :
    wpAny (model prog w) A (call (.builtin "max") [a, b]) Q E s := by
  have hT : (s.heap.push { cls := .type "tuple", data := .seq #[a, b] }).IsTuple s.heap.objs.size #[a, b] := ⟨_, Heap.get?_push_size _ rfl, rfl, 0, rfl⟩
  have k0 : ∀ c o, s.heap.get? c = some o → (s.heap.push { cls := .type "tuple", data := .seq #[a, b] }).get? c = some o := fun c o e => Heap.get?_push_of_some _ e
  have hr : ReadsAll (s.heap.push { cls := .type "tuple", data := .seq #[a, b] }) (#[a, b] : Array Value).toList [da, db] _ := .cons (reads_keeps k0 ra) (.cons (reads_keeps k0 rb) .nil)
  refine call_max_twoH (iter_tupleW (A := A.in1) hh hT fun s₂ e W st hfp hw hk => ?_)
  refine ⟨_, _, _, _, _, _, _, (s.heap.push { cls := .type "tuple", data := .seq #[a, b] }), _, rfl, W, st, hfp, (Nat.zero_lt_succ 1), hw, hk, cmpIn_gt (A := A.in1) (s := { s with heap := s.heap.push { cls := .type "tuple", data := .seq #[a, b] } }) hr ha (by show A.units + 1 + _ < _; exact hu), fun v s' hP m => ?_⟩
  obtain ⟨h', tk, rfl, hk'⟩ := moved_old e rfl m
  have := h h' tk fun c o q => hk' c o (k0 c o q)
  have e : v = if dataLt da db = true then b else a := by
    have hP' : (#[a, b] : Array Value)[argBest (fun i j => dataLt ([da, db].getD j .none) ([da, db].getD i .none)) 1]? = some v := hP
    cases hb : dataLt da db with
    | true =>
      have e : argBest (fun i j => dataLt ([da, db].getD j .none) ([da, db].getD i .none)) 1 = 1 := by simp [argBest, hb]
      rw [e] at hP'
      simpa using hP'.symm
    | false =>
      have e : argBest (fun i j => dataLt ([da, db].getD j .none) ([da, db].getD i .none)) 1 = 0 := by simp [argBest, hb]
      rw [e] at hP'
      simpa using hP'.symm
  rw [e]
  exact this
theorem min_two_data {a b : Value} {da db : PyData} {as bs : List Addr} {Q : Value → Shared → Prop} (hh : A.handled = none) (ra : Reads s.heap a da as) (rb : Reads s.heap b db bs) (ha : AlikeAll [da, db]) (hu : A.units + 1 + PyData.depthAll [da, db] < cLine)
    (h : ∀ h' tk, (∀ b o, s.heap.get? b = some o → h'.get? b = some o) → Q (if dataLt db da = true then b else a) { s with heap := h', toks := tk }) :
    wpAny (model prog w) A (call (.builtin "min") [a, b]) Q E s := by
  have hT : (s.heap.push { cls := .type "tuple", data := .seq #[a, b] }).IsTuple s.heap.objs.size #[a, b] := ⟨_, Heap.get?_push_size _ rfl, rfl, 0, rfl⟩
  have k0 : ∀ c o, s.heap.get? c = some o → (s.heap.push { cls := .type "tuple", data := .seq #[a, b] }).get? c = some o := fun c o e => Heap.get?_push_of_some _ e
  have hr : ReadsAll (s.heap.push { cls := .type "tuple", data := .seq #[a, b] }) (#[a, b] : Array Value).toList [da, db] _ := .cons (reads_keeps k0 ra) (.cons (reads_keeps k0 rb) .nil)
  refine call_min_twoH (iter_tupleW (A := A.in1) hh hT fun s₂ e W st hfp hw hk => ?_)
  refine ⟨_, _, _, _, _, _, _, (s.heap.push { cls := .type "tuple", data := .seq #[a, b] }), _, rfl, W, st, hfp, (Nat.zero_lt_succ 1), hw, hk, cmpIn_lt (A := A.in1) (s := { s with heap := s.heap.push { cls := .type "tuple", data := .seq #[a, b] } }) hr ha (by show A.units + 1 + _ < _; exact hu), fun v s' hP m => ?_⟩
  obtain ⟨h', tk, rfl, hk'⟩ := moved_old e rfl m
  have := h h' tk fun c o q => hk' c o (k0 c o q)
  have e : v = if dataLt db da = true then b else a := by
    have hP' : (#[a, b] : Array Value)[argBest (fun i j => dataLt ([da, db].getD i .none) ([da, db].getD j .none)) 1]? = some v := hP
    cases hb : dataLt db da with
    | true =>
      have e : argBest (fun i j => dataLt ([da, db].getD i .none) ([da, db].getD j .none)) 1 = 1 := by simp [argBest, hb]
      rw [e] at hP'
      simpa using hP'.symm
    | false =>
      have e : argBest (fun i j => dataLt ([da, db].getD i .none) ([da, db].getD j .none)) 1 = 0 := by simp [argBest, hb]
      rw [e] at hP'
      simpa using hP'.symm
  rw [e]
  exact this
end
theorem ints_like : ∀ ns ms : List Int, PySem.W.alikeAll (ns.map .int) (ms.map .int) = true
  | [], _ => by simp [PySem.W.alikeAll]
  | _ :: _, [] => by simp [PySem.W.alikeAll]
  | x :: ns, y :: ms => by
    have := ints_like ns ms
    simp [PySem.W.alikeAll, PySem.W.alike, this]
theorem two_like (ns ms : List Int) : PySem.W.AlikeAll [.tuple (ns.map .int), .tuple (ms.map .int)] := by
  refine ⟨fun x hx y hy => ?_, fun x hx => ?_⟩
  · simp only [List.mem_cons, List.not_mem_nil, or_false] at hx hy
    rcases hx with rfl | rfl <;> rcases hy with rfl | rfl <;> simp [PySem.W.alike, ints_like]
  · simp only [List.mem_cons, List.not_mem_nil, or_false] at hx
    rcases hx with rfl | rfl <;> simp
theorem ints_plain : ∀ ns : List Int, PyData.plainAll (ns.map PyData.int) = true
  | [] => rfl
  | n :: ns => by
    rw [List.map_cons]
    show (true && PyData.plainAll (ns.map PyData.int)) = true
    rw [ints_plain ns]
    rfl
theorem two_depth (ns ms : List Int) : PyData.depthAll [.tuple (ns.map .int), .tuple (ms.map .int)] ≤ 10 := by
  have h1 := ints_depth ns
  have h2 := ints_depth ms
  simp only [PyData.depthAll, PyData.depth]
  omega
section
variable {C : Cx}
theorem call_maxT (hc : C.calm = true) (hu : C.A.units + 64 < cLine) : CallR C (.builtin "max") (rApp C.K maxT) := by
  intro pins s σ H xs us Q I rx ⟨Z, ds, v, z, hx, hf, fr⟩
  have hd : C.A.handled = none := I.ok.hd hc
  unfold maxT at hf
  split at hf
  · rename_i a b
    split at hf
    · rename_i ns ms h1 h2
      cases hf
      obtain ⟨x, y, rfl, hx1, hy1⟩ := RepHs.two hx
      obtain rfl := intsD_eq h1
      obtain rfl := intsD_eq h2
      cases rx with
      | cons r1 rx =>
        cases rx with
        | cons r2 rx =>
          cases rx
          obtain ⟨as, q1⟩ := Rep.reads I _ x _ (hx1.all z) r1 (by simp only [PyData.plain]; exact ints_plain ns)
          obtain ⟨bs, q2⟩ := Rep.reads I _ y _ (hy1.all z) r2 (by simp only [PyData.plain]; exact ints_plain ms)
          refine max_two_data hd q1 q2 (two_like ns ms) (by have := two_depth ns ms; omega) fun h' tk hk => ?_
          rw [dataLt_ltI]
          cases hb : ltI ns ms with
          | true =>
            rw [hb] at fr
            exact ⟨y, H, I.kept hk, r2, fr.sc z hy1⟩
          | false =>
            rw [hb] at fr
            exact ⟨x, H, I.kept hk, r1, fr.sc z hx1⟩
    · cases hf
  · cases hf
theorem call_minT (hc : C.calm = true) (hu : C.A.units + 64 < cLine) : CallR C (.builtin "min") (rApp C.K minT) := by
  intro pins s σ H xs us Q I rx ⟨Z, ds, v, z, hx, hf, fr⟩
  have hd : C.A.handled = none := I.ok.hd hc
  unfold minT at hf
  split at hf
  · rename_i a b
    split at hf
    · rename_i ns ms h1 h2
      cases hf
      obtain ⟨x, y, rfl, hx1, hy1⟩ := RepHs.two hx
      obtain rfl := intsD_eq h1
      obtain rfl := intsD_eq h2
      cases rx with
      | cons r1 rx =>
        cases rx with
        | cons r2 rx =>
          cases rx
          obtain ⟨as, q1⟩ := Rep.reads I _ x _ (hx1.all z) r1 (by simp only [PyData.plain]; exact ints_plain ns)
          obtain ⟨bs, q2⟩ := Rep.reads I _ y _ (hy1.all z) r2 (by simp only [PyData.plain]; exact ints_plain ms)
          refine min_two_data hd q1 q2 (two_like ns ms) (by have := two_depth ns ms; omega) fun h' tk hk => ?_
          rw [dataLt_ltI]
          cases hb : ltI ms ns with
          | true =>
            rw [hb] at fr
            exact ⟨y, H, I.kept hk, r2, fr.sc z hy1⟩
          | false =>
            rw [hb] at fr
            exact ⟨x, H, I.kept hk, r1, fr.sc z hx1⟩
    · cases hf
  · cases hf
end
end MS

/-! part 4: an expression that only looks at what stands in the slots -/
namespace MS
open PySem PySem.Spec PyProof.Rows L2
def frzS : Val → Val
  | .ol xs => .fz (.list xs)
  | .od es => .fz (.dict es)
  | .ow _ => .un
  | v => v
/-- run with all slots at rest; what is told holds nothing of them; the slots are as they were -/
def lookE (m : M Val) : M Val := fun r => match m (r.map frzS) with
  | .ok (.fz d) _ => if flatB d = true then .ok (.fz d) r else .err
  | _ => .err
section
variable {C : Cx} {X : Fx} {W : WX} {Z F H : Hp} {r : List Val} {σ : L2.St} {e : Expr}
theorem frzS_own (v : Val) : (frzS v).own = false := by cases v <;> rfl
theorem look_run {m : M Val} {Q : VK} (h : rdE X W (lookE m) σ H Q) : rdE X W m σ H Q := by
  obtain ⟨Z, F, r, g, h⟩ := h
  have g2 : G X (noT X.ex.tb H) (noT X.ex.tb H) (r.map frzS) σ H := by
    refine ⟨noT_same, noT_same, by rw [List.length_map]; exact g.len, fun i v e => ?_, fun i j v w a e1 e2 o1 o2 => ?_, g.kp, g.hh.trans (g.nf.same g.fh), noT_no, noT_no, g.tb⟩
    · rw [List.getElem?_map] at e
      obtain ⟨u, eu, rfl⟩ := Option.map_eq_some_iff.mp e
      have q := g.sl i u eu
      cases u with
      | un => exact True.intro
      | fz d => obtain ⟨x, e1, rp⟩ := q; exact ⟨x, e1, rp.up (g.nz.same g.zh)⟩
      | ol xs => obtain ⟨a, vs, e1, h1, l, q, _⟩ := q; exact ⟨.ref a, e1, .lst (.inl (.inl (noT_at h1 g.tb fun _ e => nomatch e))) l (q.up (g.nz.same g.zh))⟩
      | od es => obtain ⟨a, kvs, e1, h1, q, _⟩ := q; exact ⟨.ref a, e1, .dct (.inl (noT_at h1 g.tb fun _ e => nomatch e)) (q.up (g.nz.same g.zh))⟩
      | ow t => exact True.intro
    · rw [List.getElem?_map] at e1
      obtain ⟨u, eu, rfl⟩ := Option.map_eq_some_iff.mp e1
      rw [foot_no (frzS_own u)] at o1
      cases o1
  refine ⟨noT X.ex.tb H, noT X.ex.tb H, r.map frzS, g2, ?_⟩
  revert h
  unfold lookE
  cases m (r.map frzS) with
  | err => exact fun h => h.elim
  | exc c ds r' => exact fun h => h.elim
  | ok v r' =>
    cases v with
    | un => exact fun h => h.elim
    | ol xs => exact fun h => h.elim
    | od es => exact fun h => h.elim
    | ow es => exact fun h => h.elim
    | fz d =>
      simp only
      split
      · rename_i hf
        intro h Z' H' ex g' x rv
        exact h Z H' (Ext.refl _ _) (g.growT g'.fh g'.tb) x (flat_rep hf (show Rep X.K Z' x d from rv))
      · exact fun h => h.elim
theorem de_look {m : M Val} (h : DE C X W e m) : DE C X W e (lookE m) := PE.imp h fun _ _ _ h => look_run h
end
@[simp] theorem x_lookE (m : M Val) (r : List Val) : lookE m r = (match m (r.map frzS) with
  | .ok (.fz d) _ => if flatB d = true then .ok (.fz d) r else .err
  | _ => .err) := (rfl)
end MS

/-! part 5: is not True -/
namespace MS
open PySem PySem.Spec PyProof.Rows L2
def isnB : D → D → Option Val
  | .bool a, .bool b => some (.fz (.bool (!decide (a = b))))
  | _, _ => none
section
variable {C : Cx}
theorem op_notBl : OpR C (compareOp .IsNot) (fun x y H Q => ∃ a b, x = .bl a ∧ y = .bl b ∧ Q (.bl (!decide (a = b))) H) := by
  intro pins s σ H x y v u Q I rx ry h
  obtain ⟨a, b, rfl, rfl, q⟩ := h
  cases (show v = Value.bool a from rx)
  cases (show u = Value.bool b from ry)
  exact wpAny_isNot_plain rfl (fin_bl I q (by cases a <;> cases b <;> rfl))
theorem op_isnB : OpR C (compareOp .IsNot) (rF C.K isnB) := op_by fun d e v x y H Z Q hf hz hx hy fr => by
  cases d with
  | bool a =>
    cases e with
    | bool b =>
      cases hf
      cases hx
      cases hy
      exact ⟨_, op_notBl, a, b, rfl, rfl, fr.sc hz (.bl _)⟩
    | _ => cases hf
  | _ => cases hf
@[simp] theorem isnB_bb (a b : Bool) : isnB (.bool a) (.bool b) = some (.fz (.bool (!decide (a = b)))) := rfl
end
end MS

/-! part 6: dicts whose keys are tuples of ints -/
namespace MS
open PySem PySem.Spec PyProof.Rows L2
def lookI : List (D × D) → List Int → Option D
  | [], _ => none
  | e :: es, is => match e.1 with
    | .tuple ds => if intsD ds = some is then some e.2 else lookI es is
    | _ => lookI es is
def kI (is : List Int) : List Key := is.map Sum.inl
theorem kI_D (is : List Int) : (kI is).map keyD = is.map PyData.int := by
  unfold kI
  rw [List.map_map]
  rfl
theorem kI_V (is : List Int) : (kI is).map kV = is.map V.int := by
  unfold kI
  rw [List.map_map]
  rfl
theorem intsD_ints : ∀ is : List Int, intsD (is.map PyData.int) = some is
  | [] => rfl
  | i :: is => by
    have ih := intsD_ints is
    show (intsD (is.map PyData.int)).map _ = _
    rw [ih]
    rfl
theorem intsD_kI : ∀ (k : List Key) (is : List Int), intsD (k.map keyD) = some is ↔ k = kI is
  | [], [] => ⟨fun _ => rfl, fun _ => rfl⟩
  | [], i :: is => ⟨(fun h => nomatch h), (fun h => nomatch h)⟩
  | .inl j :: k, is => by
    have ih := intsD_kI k
    show (intsD (k.map keyD)).map (j :: ·) = some is ↔ _
    constructor
    · intro h
      obtain ⟨js, e, rfl⟩ := Option.map_eq_some_iff.mp h
      rw [(ih js).mp e]
      rfl
    · intro h
      cases is with
      | nil => cases h
      | cons i is =>
        have h1 : (Sum.inl j : Key) = Sum.inl i := (List.cons.inj h).1
        have h2 : k = kI is := (List.cons.inj h).2
        cases h1
        rw [(ih is).mpr h2]
        rfl
  | .inr x :: k, is => by
    constructor
    · intro h
      cases h
    · intro h
      cases is with
      | nil => cases h
      | cons i is => cases (List.cons.inj h).1
theorem lookI_rep {K : PySem.W.Frag} {Z : Hp} (is : List Int) : ∀ {kvs : List (List Key × V)} {es : List (D × D)}, RepKs K Z kvs es → (∀ d, lookI es is = some d → ∃ v, valV kvs (kI is) = some v ∧ Rep K Z v d) ∧ (lookI es is = none → valV kvs (kI is) = none)
  | _, _, .nil => ⟨(fun d h => nomatch h), fun _ => rfl⟩
  | _, _, .cons (k := k) (v := v) (kvs := kvs) (d := d) (es := es) r rs => by
    have ih := lookI_rep is rs
    have e : lookI ((.tuple (k.map keyD), d) :: es) is = if intsD (k.map keyD) = some is then some d else lookI es is := rfl
    rw [e]
    by_cases h : k = kI is
    · rw [if_pos ((intsD_kI k is).mpr h), valV_pos (p := (k, v)) h]
      exact ⟨(fun d' q => ⟨v, rfl, by cases q; exact r⟩), (fun q => nomatch q)⟩
    · rw [if_neg (fun q => h ((intsD_kI k is).mp q)), valV_neg (p := (k, v)) h]
      exact ih
theorem lookI_some {K : PySem.W.Frag} {Z : Hp} {is : List Int} {kvs : List (List Key × V)} {es : List (D × D)} (h : RepKs K Z kvs es) : (lookI es is).isSome = (valV kvs (kI is)).isSome := by
  obtain ⟨a, b⟩ := lookI_rep is h
  cases e : lookI es is with
  | none => rw [b e]; rfl
  | some d => obtain ⟨v, q, _⟩ := a d e; rw [q]; rfl
/-! in, not in -/
def inK : D → D → Option Val
  | .tuple ds, .dict es => (intsD ds).map fun is => .fz (.bool (lookI es is).isSome)
  | _, _ => none
def ninK : D → D → Option Val
  | .tuple ds, .dict es => (intsD ds).map fun is => .fz (.bool !(lookI es is).isSome)
  | _, _ => none
def ixK : D → D → Option Val
  | .dict es, .tuple ds => (intsD ds).bind fun is => (lookI es is).map .fz
  | _, _ => none
section
variable {C : Cx}
theorem op_dIn (hu : C.A.units + 1 < cLine) : OpR C (compareOp .In) (fun x y H Q => ∃ a o, y = .ref a ∧ DGet H a x o ∧ Q (.bl o.isSome) H) := by
  intro pins s σ H x y v u Q I rx ry h
  obtain ⟨a, o, rfl, g, q⟩ := h
  cases (show u = Value.ref a from ry)
  exact d_in hu I g rx fun s' I' => ⟨.bl o.isSome, H, I', rfl, q⟩
theorem op_dNotIn (hu : C.A.units + 1 < cLine) : OpR C (compareOp .NotIn) (fun x y H Q => ∃ a o, y = .ref a ∧ DGet H a x o ∧ Q (.bl !o.isSome) H) := by
  intro pins s σ H x y v u Q I rx ry h
  obtain ⟨a, o, rfl, g, q⟩ := h
  cases (show u = Value.ref a from ry)
  exact d_notIn hu I g rx fun s' I' => ⟨.bl (!o.isSome), H, I', rfl, q⟩
/-- the key is there as the heap has it -/
theorem key_at {K : PySem.W.Frag} {Z H : Hp} {x : V} {ds : List D} {is : List Int} {a : Addr} {kvs : List (List Key × V)} (hz : Same Z H) (hx : Rep K Z x (.tuple ds)) (hi : intsD ds = some is) (h1 : Rd H a (.dT kvs)) : ∃ b, x = .ref b ∧ H b = some (.tup ((kI is).map kV)) ∧ DGet H a x (valV kvs (kI is)) := by
  cases hx with
  | tup s1 l q =>
    obtain rfl := q.ints hi
    have eb := hz _ _ s1
    rw [← kI_V] at eb
    exact ⟨_, rfl, eb, .inr ⟨_, _, _, h1, rfl, eb, rfl⟩⟩
theorem op_inK (hu : C.A.units + 1 < cLine) : OpR C (compareOp .In) (rF C.K inK) := op_by fun d e v x y H Z Q hf hz hx hy fr => by
  unfold inK at hf
  split at hf
  · rename_i ds es
    obtain ⟨is, hi, e1⟩ := Option.map_eq_some_iff.mp hf
    cases e1
    obtain ⟨a, kvs, rfl, h1, q2⟩ := hy
    obtain ⟨b, rfl, eb, g⟩ := key_at hz hx hi h1
    refine ⟨_, op_dIn hu, a, _, rfl, g, ?_⟩
    rw [← lookI_some q2]
    exact fr.sc hz (.bl _)
  · cases hf
theorem op_ninK (hu : C.A.units + 1 < cLine) : OpR C (compareOp .NotIn) (rF C.K ninK) := op_by fun d e v x y H Z Q hf hz hx hy fr => by
  unfold ninK at hf
  split at hf
  · rename_i ds es
    obtain ⟨is, hi, e1⟩ := Option.map_eq_some_iff.mp hf
    cases e1
    obtain ⟨a, kvs, rfl, h1, q2⟩ := hy
    obtain ⟨b, rfl, eb, g⟩ := key_at hz hx hi h1
    refine ⟨_, op_dNotIn hu, a, _, rfl, g, ?_⟩
    rw [← lookI_some q2]
    exact fr.sc hz (.bl _)
  · cases hf
/-! d[k] -/
theorem ix_K (hu : C.A.units + 1 < cLine) : IxR C (rF C.K ixK) := by
  intro value slice pins s σ H x y v u Q I rx ry ⟨Z, d, e, z, hz, hx, hy, hf, fr⟩ hs
  unfold ixK at hf
  split at hf
  · rename_i es ds
    obtain ⟨is, hi, e1⟩ := Option.bind_eq_some_iff.mp hf
    obtain ⟨d', hd, rfl⟩ := Option.map_eq_some_iff.mp e1
    obtain ⟨a, kvs, rfl, h1, q2⟩ := hx
    obtain ⟨b, rfl, eb, g⟩ := key_at hz hy hi h1
    obtain ⟨w, hw, rw'⟩ := (lookI_rep is q2).1 d' hd
    rw [hw] at g
    obtain rfl : v = Value.ref a := rx
    have hT := dict_typeIs I g
    unfold subscriptTail
    refine wpAny_bind ?_
    rw [getitemInPython_of_ne hT.not_modules]
    refine wpAny_bind (wpAny_specialOf hT PySem.F.slot_dict_getitem.lookup ?_)
    have fin : wpAny (model C.prog C.w) C.A (subscripted slice false (.ref a) u) (fun r s₃ => wpAny (model C.prog C.w) C.A (letTemporaryGo value (.ref a) r >>= fun _ => pure r) (EP C pins σ Q) C.xe s₃) C.xe s := by
      rw [hs]
      exact wpAny_operating (d_getItem hu I g ry fun w' s3 I3 rw2 => wpAny_bind (wpAny_letTemporaryGo (wpAny_pure ⟨w, H, I3, rw2, fr.sc hz rw'⟩)))
    first
      | exact wpAny_pure (wpAny_bind fin)
      | exact wpAny_bind (wpAny_pure (wpAny_bind fin))
      | exact wpAny_bind fin
  · cases hf
/-! d[k] = v -/
def rSetD : V → V → V → Hp → (Hp → Prop) → Prop := fun o i v H Q => ∃ a H', o = .ref a ∧ DPut H a i v H' ∧ Q H'
theorem set_dict (hu : C.A.units + 1 < cLine) : PSet C rSetD := by
  intro pins s σ H o i v ov iv u Q I ro ri rv h
  obtain ⟨a, H', rfl, g, q⟩ := h
  cases (show ov = Value.ref a from ro)
  exact d_setItem hu I g ri rv fun s' I' => ⟨H', I', q⟩
end
def isK (d : D) (is : List Int) : Bool := match d with
  | .tuple ds => decide (intsD ds = some is)
  | _ => false
def putI (es : List (D × D)) (is : List Int) (d : D) : List (D × D) := if (lookI es is).isSome = true then es.map (fun e => if isK e.1 is = true then (e.1, d) else e) else es ++ [(.tuple (is.map PyData.int), d)]
theorem RepKs.length {K : PySem.W.Frag} {Z : Hp} : ∀ {kvs : List (List Key × V)} {es : List (D × D)}, RepKs K Z kvs es → kvs.length = es.length
  | _, _, .nil => rfl
  | _, _, .cons _ rs => by rw [List.length_cons, List.length_cons, RepKs.length rs]
theorem RepKs.repl {K : PySem.W.Frag} {Z : Hp} {is : List Int} {v : V} {d : D} (h : Rep K Z v d) : ∀ {kvs : List (List Key × V)} {es : List (D × D)}, RepKs K Z kvs es → RepKs K Z (kvs.map fun kv => if kv.1 = kI is then (kv.1, v) else kv) (es.map fun e => if isK e.1 is = true then (e.1, d) else e)
  | _, _, .nil => .nil
  | _, _, .cons (k := k) (v := w) (kvs := kvs) (d := e) (es := es) r rs => by
    have ih := RepKs.repl (is := is) h rs
    rw [List.map_cons, List.map_cons]
    by_cases q : k = kI is
    · have e1 : isK (.tuple (k.map keyD)) is = true := decide_eq_true ((intsD_kI k is).mpr q)
      simp only [e1, if_pos q, if_true]
      exact .cons h ih
    · have e1 : isK (.tuple (k.map keyD)) is = false := decide_eq_false fun z => q ((intsD_kI k is).mp z)
      simp only [e1, if_neg q, Bool.false_eq_true, if_false]
      exact .cons r ih
theorem RepKs.snoc {K : PySem.W.Frag} {Z : Hp} {is : List Int} {v : V} {d : D} (h : Rep K Z v d) : ∀ {kvs : List (List Key × V)} {es : List (D × D)}, RepKs K Z kvs es → RepKs K Z (kvs ++ [(kI is, v)]) (es ++ [(.tuple (is.map PyData.int), d)])
  | _, _, .nil => by
    rw [← kI_D]
    exact .cons h .nil
  | _, _, .cons r rs => .cons r (RepKs.snoc h rs)
theorem RepKs.put {K : PySem.W.Frag} {Z : Hp} {is : List Int} {v : V} {d : D} {kvs : List (List Key × V)} {es : List (D × D)} (r : RepKs K Z kvs es) (h : Rep K Z v d) : RepKs K Z (putK kvs (kI is) v) (putI es is d) := by
  unfold putK putI
  rw [lookI_some r, valV_any]
  by_cases q : (valV kvs (kI is)).isSome = true
  · rw [if_pos q, if_pos q]
    exact r.repl h
  · rw [if_neg q, if_neg q]
    exact r.snoc h
/-- x[k] = v, x an own dict -/
def sPutK (i : Nat) (ix : M Val) (m : M Val) : M Fl := fun r => match frz m r with
  | .ok d r1 => match r1[i]? with
    | some (.od _) => match frz ix r1 with
      | .ok (.tuple ds) r2 => match r2[i]? with
        | some (.od es) => match intsD ds with
          | some is => if es.length < LINE then .ok .nx (r2.set i (.od (putI es is d))) else .err
          | none => .err
        | _ => .err
      | .ok _ _ => .err
      | .exc c ds r' => .exc c ds r'
      | .err => .err
    | _ => .err
  | .exc c ds r' => .exc c ds r'
  | .err => .err
section
variable {C : Cx} {X : Fx} {W : WX} {Z F H : Hp} {r : List Val} {σ : L2.St} {pos : Pos}
theorem ds_putK {i : Nat} {x : Str} {ie e : Expr} {ix m : M Val} {p2 p3 : Pos} (hu : C.A.units + 1 < cLine) (hN : C.N[i]? = some x) (hv : Vis C.env.scope x) (hi : DE C X W ie ix) (he : DE C X W e m) (hd : (x == ("__debug__" : Str)) = false := by decide) (hcd : (x == ("__classdict__" : Str)) = false := by decide)
    (ha : ∀ v, assign (.Subscript (.Name x p2) ie p3) C.env v = (do
      let ov ← holding [v] (eval (.Name x p2) C.env)
      let iv ← holding [v, ov] (eval ie C.env)
      standAt p3
      holding [v, ov, iv] (setItem ov iv v)
      release [v, ov, iv] []) := by intro _; rfl)
    (hs : swapsWithSole [.Subscript (.Name x p2) ie p3] e pos.line C.env = pure false := by rfl) (hw : swappedStores [.Subscript (.Name x p2) ie p3] e C.env = pure none := by rfl)
    (h1 : (assignEach [.Subscript (.Name x p2) ie p3] C.env).map (·.2) = [assign (.Subscript (.Name x p2) ie p3) C.env] := by rfl) : DS C X W (.Assign [.Subscript (.Name x p2) ie p3] e pos) (sPutK i ix m) :=
  PS.imp (ps_asg he (pg_sub (pe_var hN hv hd hcd) hi (set_dict hu) ha) hs hw h1) fun D σ H h => by
    obtain ⟨Z, F, r, g, h⟩ := h
    refine frz_run g ?_
    revert h
    unfold sPutK
    cases frz m r with
    | exc c ds r' => exact fun h cls d Z' H' x ex g => h cls d σ Z' H' x ex g
    | err => exact fun h => h
    | ok d r1 =>
      simp only
      intro h Z1 H1 ex1 g1 v rv
      revert h
      cases e1 : r1[i]? with
      | none => exact fun h => h.elim
      | some u =>
        cases u with
        | un => exact fun h => h.elim
        | fz d => exact fun h => h.elim
        | ol d => exact fun h => h.elim
        | ow d => exact fun h => h.elim
        | od es0 =>
          intro h
          obtain ⟨a, vs0, ea, _⟩ := g1.sl i _ e1
          refine ⟨.ref a, ea, frz_run g1 ?_⟩
          revert h
          simp only
          cases frz ix r1 with
          | exc c ds r' => exact fun h cls d Z' H' x ex g => h cls d σ Z' H' x (ex1.trans ex) g
          | err => exact fun h => h
          | ok k r2 =>
            cases k with
            | tuple ds =>
              simp only
              intro h Z2 H2 ex2 g2 y hy
              revert h
              cases e2 : r2[i]? with
              | none => exact fun h => h.elim
              | some u =>
                cases u with
                | un => exact fun h => h.elim
                | fz d => exact fun h => h.elim
                | ol d => exact fun h => h.elim
                | ow d => exact fun h => h.elim
                | od es =>
                  simp only
                  cases e3 : intsD ds with
                  | none => exact fun h => h.elim
                  | some is =>
                    simp only
                    by_cases hl : es.length < LINE
                    · rw [if_pos hl]
                      intro h
                      obtain ⟨a', kvs, ea', ha, qa, za, fa⟩ := g2.sl i _ e2
                      rw [ea] at ea'
                      cases ea'
                      obtain ⟨b, rfl, eb, _⟩ := key_at g2.zh hy e3 (.inl ha)
                      refine ⟨a, _, rfl, DPut.t ha eb (by rw [qa.length, line_eq]; exact hl), ?_⟩
                      refine h σ Z2 _ (ex1.trans ex2) (g2.write e2 (List.mem_singleton.mpr rfl) ea za fa ?_)
                      exact ⟨a, _, rfl, upd_same, qa.put (rv.up ex2.1), za, fa⟩
                    · rw [if_neg hl]
                      exact fun h => h.elim
            | _ => exact fun h => h.elim
theorem de_ixK {a b : Expr} {oa ob : Opd} (hu : C.A.units + 1 < cLine) (ha : DO C X W a oa) (hb : DO C X W b ob) (hs : PlainIx b := by exact fun _ _ => rfl) (hK : X.K = C.K := by rfl) : DE C X W (.Subscript a b pos) (bin ixK oa ob) :=
  PE.imp (pe_ix (ix_K hu) ha hb hs) fun _ _ _ h => by rw [← hK]; exact tOp_of h
end
/-! d.get(k), d.get(k, c) -/
def eGet (a b : Opd) (c : D) : M Val := fun r => match a.pre r with
  | .ok (.dict es0) r1 => match b.pre r1 with
    | .ok (.tuple ds) r2 => match a.look (.dict es0) r2 with
      | some (.dict es) => match intsD ds with
        | some is => .ok (.fz ((lookI es is).getD c)) r2
        | none => .err
      | _ => .err
    | _ => .err
  | _ => .err
section
variable {C : Cx} {X : Fx} {W : WX} {Z F H : Hp} {r : List Val} {σ : L2.St} {a b : Expr} {pos : Pos}
theorem rdO_mono {o : Opd} {Q Q' : VK} (h : rdO X W o σ H Q) (m : ∀ x H', Q x H' → Q' x H') : rdO X W o σ H Q' := by
  cases o with
  | sl i =>
    obtain ⟨x, e, q⟩ := h
    exact ⟨x, e, m _ _ q⟩
  | v k =>
    obtain ⟨Z, F, r, g, h⟩ := h
    refine ⟨Z, F, r, g, ?_⟩
    revert h
    cases k r with
    | ok v r' => exact fun h Z' H' ex g' x rv => m _ _ (h Z' H' ex g' x rv)
    | exc c ds r' => exact fun h => h
    | err => exact fun h => h
theorem get_run {oa ob : Opd} {c : D} {Q : VK} (h : rdE X W (eGet oa ob c) σ H Q) : rdO X W oa σ H fun x H1 => ∃ a, x = .ref a ∧ IsD H1 a ∧ rdO X W ob σ H1 fun y H2 => ∃ (Z F : Hp) (r : List Val), G X Z F r σ H2 ∧ ∀ (Z3 H3 : Hp) (z : V), Ext Z Z3 F → G X Z3 F r σ H3 → Rep X.K Z3 z c → ∃ o : Option V, DGet H3 a y o ∧ Q (o.getD z) H3 := by
  obtain ⟨Z, F, r, gg, h⟩ := h
  refine opd_run gg ?_
  revert h
  unfold eGet
  cases e : oa.pre r with
  | exc c ds r' => exact fun h => h.elim
  | err => exact fun h => h.elim
  | ok d r1 =>
    cases d with
    | dict es0 =>
      intro h Z1 H1 ex1 g1 x hx
      have hx0 : RepH X.K Z1 H1 x (.dict es0) := by
        cases oa with
        | v m => exact Rep.here hx g1.zh
        | sl i =>
          have e2' : (match slotD r i with | some d => (Res.ok d r : Res D) | none => .err) = .ok (.dict es0) r1 := e
          cases e4 : slotD r i with
          | none => rw [e4] at e2'; cases e2'
          | some z => rw [e4] at e2'; cases e2'; exact Held.look (o := .sl i) g1 hx e4
      obtain ⟨p, kvs0, rfl, hp, q0⟩ := hx0
      refine ⟨p, rfl, .inr ⟨kvs0, hp⟩, ?_⟩
      refine opd1_run g1 ?_
      revert h
      simp only
      show After X W (match ob.pre r1 with | .ok (.tuple ds) r2 => (match oa.look (.dict es0) r2 with | some (.dict es) => (match intsD ds with | some is => (Res.ok (Val.fz ((lookI es is).getD c)) r2 : Res Val) | none => .err) | _ => .err) | _ => .err) Z F σ _ → After X W (ob.pre r1) Z1 F σ _
      cases e2 : ob.pre r1 with
      | exc c ds r' => exact fun h => h.elim
      | err => exact fun h => h.elim
      | ok k r2 =>
        cases k with
        | tuple ds =>
          simp only
          cases e3 : oa.look (.dict es0) r2 with
          | none => exact fun h => h.elim
          | some d' =>
            cases d' with
            | dict es =>
              simp only
              cases e5 : intsD ds with
              | none => exact fun h => h.elim
              | some is =>
                intro h Z2 H2 ex2 g2 y hy
                refine ⟨Z2, F, r2, g2, fun Z3 H3 z ex3 g3 rz => ?_⟩
                have hx2 := Held.look g3 (hx.up (ex2.1.trans ex3.1)) e3
                obtain ⟨p', kvs, ep, hp2, q2⟩ := hx2
                cases ep
                have hy' : Rep X.K Z2 y (.tuple ds) := hy
                obtain ⟨b, rfl, eb, g⟩ := key_at g3.zh (hy'.up ex3.1) e5 hp2
                refine ⟨_, g, h Z3 H3 ((ex1.trans ex2).trans ex3) g3 _ ?_⟩
                obtain ⟨l1, l2⟩ := lookI_rep is q2
                cases e6 : lookI es is with
                | none => rw [l2 e6]; exact rz
                | some d6 => obtain ⟨w, hw, rw'⟩ := l1 d6 e6; rw [hw]; exact rw'
            | _ => exact fun h => h.elim
        | _ => exact fun h => h.elim
    | _ => exact fun h => h.elim
theorem de_get1 {oa ob : Opd} {apos : Pos} (hu : C.A.units + 1 < cLine) (ha : DO C X W a oa) (hb : DO C X W b ob)
    (hbase : attributeBase a "get" C.env (eval a C.env) = eval a C.env := by rfl)
    (hfew : ((backTo pos (starEach [b] C.env)).all (fun x => !x.1) && (backToKw pos (keywordEach [] C.env)).all (fun x => x.1.isSome)
      && decide ([b].length + ([] : List Keyword).length + (if ([] : List Keyword).isEmpty then 0 else 1) < 30)) = true := by rfl)
    (hline : (apos.endLine == pos.line) = true := by rfl) (ht : backTo pos (starEach [b] C.env) = [(false, eval b C.env)] := by rfl) :
    DE C X W (.Call (.Attribute a "get" apos) [b] [] pos) (eGet oa ob .none) :=
  PE.imp (pe_dget1 hu ha hb ⟨hbase, hfew, hline, ht⟩) fun σ H Q h => by
    refine rdO_mono (get_run h) fun x H1 ⟨p, e, d, q⟩ => ⟨p, e, d, rdO_mono q fun y H2 ⟨Z, F, r, g, q2⟩ => ?_⟩
    exact q2 Z H2 .non (Ext.refl Z F) g .non
theorem de_get2 {oa ob : Opd} {apos p3 : Pos} {c : D} {f : Expr} (hu : C.A.units + 1 < cLine) (ha : DO C X W a oa) (hb : DO C X W b ob) (hc : DE C X W f (eK c))
    (hbase : attributeBase a "get" C.env (eval a C.env) = eval a C.env := by rfl)
    (hfew : ((backTo pos (starEach [b, f] C.env)).all (fun x => !x.1) && (backToKw pos (keywordEach [] C.env)).all (fun x => x.1.isSome)
      && decide ([b, f].length + ([] : List Keyword).length + (if ([] : List Keyword).isEmpty then 0 else 1) < 30)) = true := by rfl)
    (hline : (apos.endLine == pos.line) = true := by rfl) (ht : backTo pos (starEach [b, f] C.env) = [(false, eval b C.env), (false, eval f C.env)] := by rfl) :
    DE C X W (.Call (.Attribute a "get" apos) [b, f] [] pos) (eGet oa ob c) :=
  PE.imp (pe_dget2 hu ha hb hc ⟨hbase, hfew, hline, ht⟩) fun σ H Q h => by
    refine rdO_mono (get_run h) fun x H1 ⟨p, e, d, q⟩ => ⟨p, e, d, rdO_mono q fun y H2 ⟨Z, F, r, g, q2⟩ => ?_⟩
    exact ⟨Z, F, r, g, fun Z3 H3 ex3 g3 z rz => q2 Z3 H3 z ex3 g3 rz⟩
end
/-! {k: v} -/
section
variable {prog : Program} {w : World} {K : Type} [DecidableEq K] {knd : HeapKind prog w K} {A : Around} {E : Value → Shared → Prop} {s : Shared} {env : Env}
theorem wpAny_Dict1_heap {k v : Expr} {pos : Pos} {Q : Value → Shared → Prop} (hu : knd.room A)
    (h : wpAny (model prog w) A (eval k env) (fun kv s₁ => wpAny (model prog w) A (eval v env) (fun vv s₂ => ∃ a kk, kv = .ref a ∧ knd.is s₂.heap kk a ∧ s₂.heap.DictOfH knd s.heap.objs.size [] ∧
      ∀ h', h'.DictOfH knd s.heap.objs.size (storedH [] kk a vv) → Heap.SameBut s.heap.objs.size s₂.heap h' → Q (.ref s.heap.objs.size) { s₂ with heap := h', toks := s₂.toks + knd.draws kk }) E s₁) E
      { s with heap := s.heap.push { cls := .type "dict", data := .dict #[] } }) :
    wpAny (model prog w) A (eval (.Dict [some k] [v] pos) env) Q E s := by
  rw [arm_eval_Dict, zip_pairTrees [some k] [v] env pos rfl rfl, dictDisplay_pairs (pairTrees [some k] [v] env pos) (by intro q; cases q) (by show 1 < 17; decide)]
  refine wpAny_bind (wpAny_standAt (wpAny_bind ?_))
  unfold subDict
  refine wpAny_bind (wpAny_alloc ?_)
  refine wpAny_bind (wpAny_holding ?_)
  rw [if_pos (by show 1 ≤ 15; decide)]
  refine wpAny_bind (pairTrees_cons_walk (wpAny_mono h (fun kv s₁ h₁ => wpAny_mono h₁ (fun vv s₂ h₂ => ?_) fun _ _ e => e) fun _ _ e => e))
  obtain ⟨a, kk, rfl, hk, hd, hQ⟩ := h₂
  refine pairTrees_nil_walk ?_
  refine wpAny_holding ?_
  refine wpAny_bind ?_
  rw [List.forIn_cons]
  refine wpAny_bind (wpAny_bind (wpAny_dictSet_heap (hsz := by rw [sizeLine_eq]; exact Nat.zero_le _) hu hk hd fun h' hm hs => wpAny_pure ?_))
  show wpAny (model prog w) A (pure PUnit.unit) _ E _
  exact wpAny_pure (wpAny_pure (wpAny_pure (wpAny_pure (hQ h' hm hs))))
end
def tD1 (tk tv : TE) : TE := fun σ H Q => ∀ p, H p = none → tk σ (upd H p (.dT [])) fun x H1 => tv σ H1 fun y H2 => ∃ b k, x = .ref b ∧ H2 b = some (.tup (k.map kV)) ∧ H2 p = some (.dT []) ∧ Q (.ref p) (upd H2 p (.dT [(k, y)]))
section
variable {X : Cx} {k v : Expr} {tk tv : TE} {pos : Pos}
theorem pe_d1 (hu : X.A.units + 2 < cLine) (hk : PE X k tk) (hv : PE X v tv) : PE X (.Dict [some k] [v] pos) (tD1 tk tv) := by
  refine ⟨fun pins s σ H Q I q => ?_⟩
  have hn := I.hok.fresh (Nat.le_refl s.heap.objs.size)
  have I1 := I.laid (a := s.heap.objs.size) (o := .dT []) (h' := s.heap.push { cls := .type "dict", data := .dict #[] }) (t' := s.toks) (fun _ _ q => Heap.get?_push_of_some _ q) (Nat.le_refl _) (dt_empty s.heap I.big)
  refine wpAny_Dict1_heap (knd := tupleKind (mixKind X.prog X.w)) (show X.A.units < cLine by omega) (thn (hk.run pins _ σ _ _ I1 (q _ hn)) fun u s1 ⟨x, H1, I1', rx, q1⟩ => thn (hv.run pins s1 σ H1 _ I1' q1) fun w2 s2 ⟨y, H2, I2, ry, b, kk, ex, eb, ep, q2⟩ => ?_)
  subst ex
  obtain rfl : u = Value.ref b := rx
  obtain ⟨z, hd, xs, rel, dd⟩ := dt_of I2.hok ep
  cases rel
  refine ⟨b, kk, rfl, key_of I2.hok eb, dd, fun h' dd' hs => ⟨.ref s.heap.objs.size, _, ?_, rfl, q2⟩⟩
  have rel : KT H2 [] [] := .nil
  obtain ⟨qo, es, epo, hq, h2, h3, h4, _, h5⟩ := dd'
  have hl : ([(kk, y)] : List (List Key × V)).length ≤ sizeLine := by rw [sizeLine_eq]; show 1 ≤ 16777216; decide
  refine d_write I2 (by rw [ep]; exact True.intro) hs ⟨qo, hq⟩ ⟨hl, hd, _, (rel.put kk eb ry).keeps fun c ys ec => ?_, qo, es, epo, hq, h2, h3, h4, h5⟩
  rw [upd_ne (ne_of ec ep (fun z => nomatch z))]
  exact ec
end
/-- {k: v}, the key a tuple of ints -/
def eD1 (mk mv : M Val) : M Val := fun r => match frz mk r with
  | .ok (.tuple ds) r1 => match intsD ds with
    | some _ => match frz mv r1 with
      | .ok d r2 => .ok (.od [(.tuple ds, d)]) r2
      | _ => .err
    | none => .err
  | _ => .err
section
variable {C : Cx} {X : Fx} {W : WX} {Z F H : Hp} {r : List Val} {σ : L2.St} {pos : Pos} {k v : Expr}
theorem G.hit {p : Addr} {o o' : HO} (nF : F p = none) (nZ : Z p = none) (hh : Same X.hx F) (g : G X Z (upd F p o) r σ H) (w : OwnO o := by exact trivial) : G X Z F r σ (upd H p o') := by
  exact ((unF nF hh g).chg nZ nF (g.out (.inr (.inr (by rw [upd_same]; exact fun z => nomatch z)))) (g.fh p _ upd_same) w).1
theorem de_d1 {mk mv : M Val} (hu : C.A.units + 2 < cLine) (hk : DE C X W k mk) (hv : DE C X W v mv) : DE C X W (.Dict [some k] [v] pos) (eD1 mk mv) :=
  PE.imp (pe_d1 hu hk hv) fun σ H Q h => by
    obtain ⟨Z, F, r, g, h⟩ := h
    intro p np
    have g0 := g.framed (o := .dT []) np
    have nF : F p = none := none_of g.fh np
    have nZ : Z p = none := none_of g.zh np
    refine frz_run g0 ?_
    revert h
    unfold eD1
    cases frz mk r with
    | exc c ds r' => exact fun h => h.elim
    | err => exact fun h => h.elim
    | ok kd r1 =>
      cases kd with
      | tuple ds =>
        simp only
        cases e5 : intsD ds with
        | none => exact fun h => h.elim
        | some is =>
          simp only
          intro h Z1 H1 ex1 g1 x hx
          refine frz_run g1 ?_
          revert h
          cases frz mv r1 with
          | exc c ds r' => exact fun h => h.elim
          | err => exact fun h => h.elim
          | ok d r2 =>
            simp only
            intro h Z2 H2 ex2 g2 y hy
            have hp : H2 p = some (.dT []) := g2.fh _ _ upd_same
            have z2 : Z2 p = none := ex2.2 p _ upd_same trivial (ex1.2 p _ upd_same trivial nZ)
            have hx2 := hx.up ex2.1
            cases hx2 with
            | tup s1 l q =>
              obtain rfl := q.ints e5
              have eb := g2.zh _ _ s1
              rw [← kI_V] at eb
              refine ⟨_, kI is, rfl, eb, hp, ?_⟩
              have own : Out H2 r2 σ p := g2.out (.inr (.inr (by rw [upd_same]; exact fun z => nomatch z)))
              have own := ((unF nF g.hh g2).chg (o := .dT [(kI is, y)]) z2 nF own hp trivial).2 p own
              refine h Z2 _ ((unE nF ex1).trans (unE nF ex2)) (G.hit nF z2 g.hh g2) (.ref p) ⟨p, _, rfl, upd_same, ?_, z2, nF, own⟩
              rw [intsD_eq e5, ← kI_D]
              exact .cons hy .nil
      | _ => exact fun h => h.elim
end
end MS
namespace MS
open PySem PySem.Spec PyProof.Rows L2
theorem hu1 {k : Nat} {A : Around} (r : Room k A) : A.units + 1 < cLine := by have := hu64 r; omega
theorem hu2 {k : Nat} {A : Around} (r : Room k A) : A.units + 2 < cLine := by have := hu64 r; omega
theorem huH1 {k : Nat} {A : Around} (r : L2H.RoomH k A) : A.units + 1 < cLine := by have := huH64 r; omega
theorem huH2 {k : Nat} {A : Around} (r : L2H.RoomH k A) : A.units + 2 < cLine := by have := huH64 r; omega
end MS

/-! part 8: dict(zip(xs, ys)), xs a list of tuples of ints, ys a tuple -/
namespace MS
open PySem
open Sem (wp)
section
variable {prog : Program} {w : World} {A : Around} {E : Value → Shared → Prop} {s : Shared} {z TI TO i1 i2 : Addr} {fp1 fp2 : List Addr} {n1 n2 i : Nat} {P1 P2 : Nat → Value → Prop} {St1 St2 : Nat → Heap → Prop}
theorem zipH_next_item {T : Addr} {f : Bool} {oT : Obj} {Q : Value → Shared → Prop} (S : ZipSep2 z TI TO i1 i2 fp1 fp2) (D1 : Draws prog w A i1 fp1 n1 P1 St1) (D2 : Draws prog w A i2 fp2 n2 P2 St2)
    (hz : IsZipHeld s.heap z TI TO T f) (hT : s.heap.get? T = some oT) (hTI : IsTupOf2 s.heap TI (.ref i1) (.ref i2)) (st1 : St1 i s.heap) (st2 : St2 i s.heap) (hlt1 : i < n1) (hlt2 : i < n2)
    (hQ : ∀ x1 x2 h' tk, P1 i x1 → P2 i x2 → IsZipHeld h' z TI TO T true → St1 (i + 1) h' → St2 (i + 1) h' → IsTupOf2 h' s.heap.objs.size x1 x2 →
      (∀ c o, c ≠ z → c ≠ i1 → c ≠ i2 → s.heap.get? c = some o → h'.get? c = some o) → Q (.ref s.heap.objs.size) { s with heap := h', toks := tk }) :
    wpAny (model prog w) A (Builtin.«zip.__next__» ⟨[.ref z], []⟩) (fun fin s' => ∃ v, fin = .done (.ret v) ∧ Q v s') E s := by
  obtain ⟨hp, g, d, tk0, os⟩ := s
  show wpAny _ _ (field (.ref z) 2 >>= _) _ _ _
  refine wpAny_bind (wpAny_field hz rfl (x := .bool false) rfl ?_)
  show wpAny _ _ (field (.ref z) 3 >>= _) _ _ _
  refine wpAny_bind (wpAny_field hz rfl (x := .ref TI) rfl ?_)
  refine wpAny_bind (wpAny_seqItems hTI rfl ?_)
  show wpAny _ _ (Builtin.SmallTypes.ownedTupleIsFree (.ref z) >>= _) _ _ _
  refine wpAny_bind (wpAny_tupleHeld_zip hz hT fun g0 hz0 hs0 => ?_)
  replace hs0 : Heap.SameBut z hp g0 := hs0
  simp only [Bool.false_eq_true, if_false]
  refine wpAny_bind ?_
  rw [← Array.forIn_toList]
  simp only [List.forIn_cons, List.forIn_nil]
  refine wpAny_bind (wpAny_bind (wpAny_holding ?_))
  show wpAny _ _ (Builtin.SmallTypes.nextOf (.ref i1) >>= _) _ _ ⟨g0, g, d, tk0, os⟩
  refine wpAny_bind (D1.item i _ _ _ hlt1 (D1.over st1 hs0 S.zf1) fun x1 p1 tk1 hx1 sn1 hp1 => wpAny_pure ?_)
  replace hp1 : Heap.SameBut i1 g0 p1 := hp1
  refine wpAny_pure ?_
  refine wpAny_bind (wpAny_bind (wpAny_holding ?_))
  show wpAny _ _ (Builtin.SmallTypes.nextOf (.ref i2) >>= _) _ _ ⟨p1, g, d, tk1, os⟩
  refine wpAny_bind (D2.item i _ _ _ hlt2 (D2.over (D2.over st2 hs0 S.zf2) hp1 S.sep1_2) fun x2 p2 tk2 hx2 sn2 hp2 => wpAny_pure ?_)
  replace hp2 : Heap.SameBut i2 p1 p2 := hp2
  refine wpAny_pure (wpAny_pure ?_)
  show wpAny _ _ (newTuple [x1, x2] >>= _) _ _ ⟨p2, g, d, tk2, os⟩
  refine wpAny_bind (wpAny_newTuple ?_)
  have hsz : p2.objs.size = hp.objs.size := by rw [hp2.1, hp1.1, hs0.1]
  have hzz : IsZipHeld p2 z TI TO T true := hp2.extBut _ _ S.zi2 (hp1.extBut _ _ S.zi1 hz0)
  have hk : ∀ c o, c ≠ z → c ≠ i1 → c ≠ i2 → hp.get? c = some o → p2.get? c = some o := fun c o c1 c2 c3 e => hp2.extBut _ _ c3 (hp1.extBut _ _ c2 (hs0.extBut _ _ c1 e))
  have j1 : St1 (i + 1) p2 := D1.over sn1 hp2 S.sep2_1
  have hpt : IsTupOf2 (p2.push { cls := .type "tuple", data := .seq #[x1, x2] }) p2.objs.size x1 x2 := Heap.get?_push_size _ rfl
  refine wpAny_pure ⟨_, rfl, ?_⟩
  show Q (.ref p2.objs.size) _
  rw [hsz] at hpt ⊢
  exact hQ x1 x2 _ _ hx1 hx2 (Heap.get?_push_of_some _ hzz) (D1.frame _ _ _ j1 fun b _ o e => Heap.get?_push_of_some _ e) (D2.frame _ _ _ sn2 fun b _ o e => Heap.get?_push_of_some _ e) hpt fun c o c1 c2 c3 e => Heap.get?_push_of_some _ (hk c o c1 c2 c3 e)
theorem zipH_next_end {T : Addr} {f : Bool} {oT : Obj} {Q : Fin → Shared → Prop} (S : ZipSep2 z TI TO i1 i2 fp1 fp2) (D1 : Draws prog w A i1 fp1 n1 P1 St1) (D2 : Draws prog w A i2 fp2 n2 P2 St2)
    (hz : IsZipHeld s.heap z TI TO T f) (hT : s.heap.get? T = some oT) (hTI : IsTupOf2 s.heap TI (.ref i1) (.ref i2)) (st1 : St1 i s.heap) (st2 : St2 i s.heap) (hle1 : i ≤ n1) (hle2 : i ≤ n2) (hend : i = n1 ∨ i = n2)
    (hE : ∀ h' tk e, (∀ c o, c ≠ z → c ≠ i1 → c ≠ i2 → s.heap.get? c = some o → h'.get? c = some o) → (∃ o, h'.get? e = some o ∧ o.cls = .type "StopIteration") → E (.ref e) { s with heap := h', toks := tk }) :
    wpAny (model prog w) A (Builtin.«zip.__next__» ⟨[.ref z], []⟩) Q E s := by
  obtain ⟨hp, g, d, tk0, os⟩ := s
  show wpAny _ _ (field (.ref z) 2 >>= _) _ _ _
  refine wpAny_bind (wpAny_field hz rfl (x := .bool false) rfl ?_)
  show wpAny _ _ (field (.ref z) 3 >>= _) _ _ _
  refine wpAny_bind (wpAny_field hz rfl (x := .ref TI) rfl ?_)
  refine wpAny_bind (wpAny_seqItems hTI rfl ?_)
  show wpAny _ _ (Builtin.SmallTypes.ownedTupleIsFree (.ref z) >>= _) _ _ _
  refine wpAny_bind (wpAny_tupleHeld_zip hz hT fun g0 hz0 hs0 => ?_)
  replace hs0 : Heap.SameBut z hp g0 := hs0
  simp only [Bool.false_eq_true, if_false]
  refine wpAny_bind ?_
  rw [← Array.forIn_toList]
  simp only [List.forIn_cons, List.forIn_nil]
  refine wpAny_bind (wpAny_bind (wpAny_holding ?_))
  show wpAny _ _ (Builtin.SmallTypes.nextOf (.ref i1) >>= _) _ _ ⟨g0, g, d, tk0, os⟩
  by_cases hlt1 : i < n1
  · refine wpAny_bind (D1.item i _ _ _ hlt1 (D1.over st1 hs0 S.zf1) fun x1 p1 tk1 hx1 sn1 hp1 => wpAny_pure ?_)
    replace hp1 : Heap.SameBut i1 g0 p1 := hp1
    refine wpAny_pure ?_
    have hi2 : i = n2 := by omega
    refine wpAny_bind (wpAny_bind (wpAny_holding ?_))
    show wpAny _ _ (Builtin.SmallTypes.nextOf (.ref i2) >>= _) _ _ ⟨p1, g, d, tk1, os⟩
    refine wpAny_bind (D2.done ⟨p1, g, d, tk1, os⟩ _ _ (by rw [← hi2]; exact D2.over (D2.over st2 hs0 S.zf2) hp1 S.sep1_2) fun q e hq he => ?_)
    exact hE q tk1 e (fun c o c1 c2 c3 x => hq _ _ c3 (hp1.extBut _ _ c2 (hs0.extBut _ _ c1 x))) he
  · have hi1 : i = n1 := by omega
    refine wpAny_bind (D1.done ⟨g0, g, d, tk0, os⟩ _ _ (by rw [← hi1]; exact D1.over st1 hs0 S.zf1) fun q e hq he => ?_)
    exact hE q tk0 e (fun c o c1 c2 c3 x => hq _ _ c2 (hs0.extBut _ _ c1 x)) he
theorem pyNext_zipH_item {T : Addr} {f : Bool} {oT : Obj} {Q : Option Value → Shared → Prop} (S : ZipSep2 z TI TO i1 i2 fp1 fp2) (D1 : Draws prog w A.in1 i1 fp1 n1 P1 St1) (D2 : Draws prog w A.in1 i2 fp2 n2 P2 St2)
    (hz : IsZipHeld s.heap z TI TO T f) (hT : s.heap.get? T = some oT) (hTI : IsTupOf2 s.heap TI (.ref i1) (.ref i2)) (st1 : St1 i s.heap) (st2 : St2 i s.heap) (hlt1 : i < n1) (hlt2 : i < n2)
    (hQ : ∀ x1 x2 h' tk, P1 i x1 → P2 i x2 → IsZipHeld h' z TI TO T true → St1 (i + 1) h' → St2 (i + 1) h' → IsTupOf2 h' s.heap.objs.size x1 x2 →
      (∀ c o, c ≠ z → c ≠ i1 → c ≠ i2 → s.heap.get? c = some o → h'.get? c = some o) → Q (some (.ref s.heap.objs.size)) { s with heap := h', toks := tk }) :
    wpAny (model prog w) A (pyNext (.ref z)) Q E s := by
  have hTy : s.TypeIs (.ref z) "zip" := ⟨_, hz, rfl⟩
  unfold pyNext
  exact wpAny_bind (wpAny_attempt (wpAny_callSpecial?_slot (name := Str.ofString "__next__") hTy F.slot_zip_next
    (wpAny_call_entry F.slot_zip_next hTy F.entry_zip_next
      (zipH_next_item S D1 D2 hz hT hTI st1 st2 hlt1 hlt2 fun x1 x2 h' tk a1 a2 a3 a4 a5 a6 a7 => wpAny_pure (hQ x1 x2 h' tk a1 a2 a3 a4 a5 a6 a7)) (F.args_zip_next_1 _))))
theorem pyNext_zipH_end {T : Addr} {f : Bool} {oT : Obj} {Q : Option Value → Shared → Prop} (S : ZipSep2 z TI TO i1 i2 fp1 fp2) (D1 : Draws prog w A.in1 i1 fp1 n1 P1 St1) (D2 : Draws prog w A.in1 i2 fp2 n2 P2 St2)
    (hz : IsZipHeld s.heap z TI TO T f) (hT : s.heap.get? T = some oT) (hTI : IsTupOf2 s.heap TI (.ref i1) (.ref i2)) (st1 : St1 i s.heap) (st2 : St2 i s.heap) (hle1 : i ≤ n1) (hle2 : i ≤ n2) (hend : i = n1 ∨ i = n2)
    (hQ : ∀ h' tk, (∀ c o, c ≠ z → c ≠ i1 → c ≠ i2 → s.heap.get? c = some o → h'.get? c = some o) → Q none { s with heap := h', toks := tk }) : wpAny (model prog w) A (pyNext (.ref z)) Q E s := by
  have hTy : s.TypeIs (.ref z) "zip" := ⟨_, hz, rfl⟩
  unfold pyNext
  refine wpAny_bind (wpAny_attempt (wpAny_callSpecial?_slot (name := Str.ofString "__next__") hTy F.slot_zip_next
    (wpAny_call_entry F.slot_zip_next hTy F.entry_zip_next (zipH_next_end S D1 D2 hz hT hTI st1 st2 hle1 hle2 hend fun h' tk e hk he => ?_) (F.args_zip_next_1 _))))
  obtain ⟨o, ho, hc⟩ := he
  refine wpAny_bind (wpAny_isInstance (T := "StopIteration") (b := true) ⟨o, ho, hc⟩ isSubtype_stop ?_)
  exact wpAny_pure (hQ _ _ hk)
end
/-- zip over two iterators of any kind, as dict()'s argument -/
theorem PairArg_zipD {prog : Program} {w : World} {z TI TO i1 i2 : Addr} {fp1 fp2 : List Addr} {n1 n2 : Nat} {P1 P2 : Nat → Value → Prop} {St1 St2 : Nat → Heap → Prop} (S : ZipSep2 z TI TO i1 i2 fp1 fp2)
    (D1 : ∀ A : Around, A.handled = none → Draws prog w A i1 fp1 n1 P1 St1) (D2 : ∀ A : Around, A.handled = none → Draws prog w A i2 fp2 n2 P2 St2)
    (t1 : ∀ i h, St1 i h → ∀ b ∈ fp1, ∃ o, h.get? b = some o) (t2 : ∀ i h, St2 i h → ∀ b ∈ fp2, ∃ o, h.get? b = some o) (hA0 : ∃ A : Around, A.handled = none) :
    PairArg prog w "zip" z (z :: TI :: TO :: (fp1 ++ fp2)) [z, TO, i1, i2] (min n1 n2) (fun i k v => P1 i k ∧ P2 i v)
      (fun h => IsZip h z TI TO .none ∧ IsTupOf2 h TI (.ref i1) (.ref i2) ∧ (∃ a b, IsTupOf2 h TO a b) ∧ St1 0 h ∧ St2 0 h) where
  type := fun s ok => ⟨_, ok.1, rfl⟩
  notDict := by decide
  keep := fun h h' ok hk => by
    obtain ⟨A, hA⟩ := hA0
    obtain ⟨hz, hTI, ⟨a, b, hTO⟩, h1, h2⟩ := ok
    exact ⟨hk _ _ hz, hk _ _ hTI, ⟨a, b, hk _ _ hTO⟩, (D1 A hA).frame _ _ _ h1 fun b _ o e => hk b o e, (D2 A hA).frame _ _ _ h2 fun b _ o e => hk b o e⟩
  there := fun h ok b hb => by
    obtain ⟨hz, hTI, ⟨a, c, hTO⟩, h1, h2⟩ := ok
    rcases List.mem_cons.mp hb with rfl | hb
    · exact ⟨_, hz⟩
    rcases List.mem_cons.mp hb with rfl | hb
    · exact ⟨_, hTI⟩
    rcases List.mem_cons.mp hb with rfl | hb
    · exact ⟨_, hTO⟩
    rcases List.mem_append.mp hb with hb | hb
    · exact t1 _ _ h1 b hb
    · exact t2 _ _ h2 b hb
  sub := fun c hc => by
    have hc' : c = z ∨ c = TO ∨ c = i1 ∨ c = i2 := by simpa using hc
    rcases hc' with rfl | rfl | rfl | rfl
    · exact List.mem_cons_self ..
    · exact List.mem_cons_of_mem _ (List.mem_cons_of_mem _ (List.mem_cons_self ..))
    · exact List.mem_cons_of_mem _ (List.mem_cons_of_mem _ (List.mem_cons_of_mem _ (List.mem_append_left _ S.mem1)))
    · exact List.mem_cons_of_mem _ (List.mem_cons_of_mem _ (List.mem_cons_of_mem _ (List.mem_append_right _ S.mem2)))
  noKeys := fun A s Q E hA ok h => getAttrOr_miss_zip ok.1 rfl rfl rfl zip_no_keys (by decide +kernel) hA h
  iter := fun A s d Q E hA ok hd hdf h => by
    obtain ⟨hz, hTI, ⟨a, b, hTO⟩, h1, h2⟩ := ok
    have E1 := D1 A.in1 hA
    have E2 := D2 A.in1 hA
    have dz : d ≠ z := fun e => hdf (e ▸ List.mem_cons_self ..)
    have dTI : d ≠ TI := fun e => hdf (e ▸ List.mem_cons_of_mem _ (List.mem_cons_self ..))
    have dTO : d ≠ TO := fun e => hdf (e ▸ List.mem_cons_of_mem _ (List.mem_cons_of_mem _ (List.mem_cons_self ..)))
    have df1 : d ∉ fp1 := fun e => hdf (List.mem_cons_of_mem _ (List.mem_cons_of_mem _ (List.mem_cons_of_mem _ (List.mem_append_left _ e))))
    have df2 : d ∉ fp2 := fun e => hdf (List.mem_cons_of_mem _ (List.mem_cons_of_mem _ (List.mem_cons_of_mem _ (List.mem_append_right _ e))))
    refine wpAny_pyIter_zip hz (h z [z, TO, i1, i2] (fun i h => IsTupOf2 h TI (.ref i1) (.ref i2) ∧ St1 i h ∧ St2 i h ∧
      ((IsZip h z TI TO .none ∧ ∃ a b, IsTupOf2 h TO a b) ∨ ∃ T f oT, IsZipHeld h z TI TO T f ∧ h.get? T = some oT ∧ T ≠ z ∧ T ≠ i1 ∧ T ≠ i2 ∧ T ≠ d)) s.heap s.toks ?_
      ⟨hTI, h1, h2, .inl ⟨hz, a, b, hTO⟩⟩ (fun _ _ e => e) fun b hb => .inl hb)
    exact {
      off := fun hm => by
        have hm' : d = z ∨ d = TO ∨ d = i1 ∨ d = i2 := by simpa using hm
        rcases hm' with e | e | e | e
        · exact dz e
        · exact dTO e
        · exact df1 (e ▸ S.mem1)
        · exact df2 (e ▸ S.mem2)
      frame := fun i h₁ h₂ st hk => by
        obtain ⟨hTI, h1, h2, hz⟩ := st
        refine ⟨hk _ _ (Ne.symm dTI) hTI, E1.frame _ _ _ h1 fun b hb o e => hk b o (fun q => df1 (q ▸ hb)) e, E2.frame _ _ _ h2 fun b hb o e => hk b o (fun q => df2 (q ▸ hb)) e, ?_⟩
        rcases hz with ⟨hz, a, b, hTO⟩ | ⟨T, f, oT, hz, hT, r1, r2, r3, r4⟩
        · exact .inl ⟨hk _ _ (Ne.symm dz) hz, a, b, hk _ _ (Ne.symm dTO) hTO⟩
        · exact .inr ⟨T, f, oT, hk _ _ (Ne.symm dz) hz, hk _ _ r4 hT, r1, r2, r3, r4⟩
      item := fun i s₁ Q₁ E₁ hi st hds hQ => by
        obtain ⟨hTI, h1, h2, hz⟩ := st
        have hi1 : i < n1 := Nat.lt_of_lt_of_le hi (Nat.min_le_left ..)
        have hi2 : i < n2 := Nat.lt_of_lt_of_le hi (Nat.min_le_right ..)
        have lt : ∀ {c o}, s₁.heap.get? c = some o → s₁.heap.objs.size ≠ c := fun e => Nat.ne_of_gt (Heap.lt_size e)
        have l1 : s₁.heap.objs.size ≠ i1 := by obtain ⟨_, e⟩ := E1.live _ _ h1; exact lt e
        have l2 : s₁.heap.objs.size ≠ i2 := by obtain ⟨_, e⟩ := E2.live _ _ h2; exact lt e
        rcases hz with ⟨hz, a, b, hTO⟩ | ⟨T, f, oT, hz, hT, r1, r2, r3, r4⟩
        · refine wpAny_pyNext_zipD2_item S E1 E2 hz hTI hTO h1 h2 hi1 hi2 fun x1 x2 h' tk y1 y2 b1 b2 d1 d2 b5 b6 hk => ?_
          exact hQ s₁.heap.objs.size _ _ h' tk ⟨y1, y2⟩ (.inl ⟨_, b5, rfl, _, rfl⟩)
            ⟨hk _ _ S.TIz S.TITO S.TIi1 S.TIi2 hTI, d1, d2, .inr ⟨s₁.heap.objs.size, false, _, b1, b5, lt hz, l1, l2, Nat.ne_of_gt hds⟩⟩
            fun c o hc e => hk c o (fun x => hc (by simp [x])) (fun x => hc (by simp [x])) (fun x => hc (by simp [x])) (fun x => hc (by simp [x])) e
        · refine pyNext_zipH_item S E1 E2 hz hT hTI h1 h2 hi1 hi2 fun x1 x2 h' tk y1 y2 b1 d1 d2 b5 hk => ?_
          exact hQ s₁.heap.objs.size _ _ h' tk ⟨y1, y2⟩ (.inl ⟨_, b5, rfl, _, rfl⟩)
            ⟨hk _ _ S.TIz S.TIi1 S.TIi2 hTI, d1, d2, .inr ⟨T, true, oT, b1, hk _ _ r1 r2 r3 hT, r1, r2, r3, r4⟩⟩
            fun c o hc e => hk c o (fun x => hc (by simp [x])) (fun x => hc (by simp [x])) (fun x => hc (by simp [x])) e
      done := fun s₁ Q₁ E₁ st hQ => by
        obtain ⟨hTI, h1, h2, hz⟩ := st
        rcases hz with ⟨hz, a, b, hTO⟩ | ⟨T, f, oT, hz, hT, r1, r2, r3, r4⟩
        · exact wpAny_pyNext_zipD2_end S E1 E2 hz hTI hTO h1 h2 (by omega) (by omega) (by omega) fun h' tk hk => hQ h' tk fun c o hc e => hk c o (fun x => hc (by simp [x])) (fun x => hc (by simp [x])) (fun x => hc (by simp [x])) (fun x => hc (by simp [x])) e
        · exact pyNext_zipH_end S E1 E2 hz hT hTI h1 h2 (by omega) (by omega) (by omega) fun h' tk hk => hQ h' tk fun c o hc e => hk c o (fun x => hc (by simp [x])) (fun x => hc (by simp [x])) (fun x => hc (by simp [x])) e }
end MS
namespace MS
open PySem PySem.Spec PyProof.Rows L2
/-! the rule -/
def putAll (acc : List (List Key × V)) : List (List Key × V) → List (List Key × V)
  | [] => acc
  | p :: ps => putAll (putK acc p.1 p.2) ps
inductive KsAt (H : Hp) : List V → List (List Key) → Prop
  | nil : KsAt H [] []
  | cons {b : Addr} {k : List Key} {xs : List V} {ks : List (List Key)} : H b = some (.tup (k.map kV)) → KsAt H xs ks → KsAt H (.ref b :: xs) (k :: ks)
inductive KZ (H : Hp) : List (List Key × V) → List (List Key × Addr × Value) → Prop
  | nil : KZ H [] []
  | cons {b : Addr} {k : List Key} {y : V} {u : Value} {ps : List (List Key × V)} {qs : List (List Key × Addr × Value)} : H b = some (.tup (k.map kV)) → RelV y u → KZ H ps qs → KZ H ((k, y) :: ps) ((k, b, u) :: qs)
theorem KZ.length {H : Hp} : ∀ {ps : List (List Key × V)} {qs : List (List Key × Addr × Value)}, KZ H ps qs → ps.length = qs.length
  | _, _, .nil => rfl
  | _, _, .cons _ _ r => by rw [List.length_cons, List.length_cons, KZ.length r]
theorem KZ.kt {H : Hp} {ps : List (List Key × V)} {qs : List (List Key × Addr × Value)} (r : KZ H ps qs) : ∀ {acc : List (List Key × V)} {xs : List (List Key × Addr × Value)}, KT H acc xs → KT H (putAll acc ps) (storedAllH xs qs) := by
  induction r with
  | nil => exact fun h => h
  | cons hb ry _ ih => exact fun h => ih (h.put _ hb ry)
theorem KZ.mem {H : Hp} : ∀ {ps : List (List Key × V)} {qs : List (List Key × Addr × Value)}, KZ H ps qs → ∀ q ∈ qs, H q.2.1 = some (.tup (q.1.map kV))
  | _, _, .nil, _, h => nomatch h
  | _, _, .cons hb _ r, q, h => by
    rcases List.mem_cons.mp h with e | h
    · subst e; exact hb
    · exact KZ.mem r q h
theorem KZ.of {H : Hp} {xs : List V} {ks : List (List Key)} (hk : KsAt H xs ks) : ∀ {ys : List V} {us ws : List Value}, Vals xs us → Vals ys ws → ∃ qs, KZ H (ks.zip ys) qs ∧ qs.length = min us.length ws.length ∧ ∀ (i : Nat) (k v : Value), us[i]? = some k → ws[i]? = some v → ∃ kk b, qs[i]? = some (kk, b, v) ∧ k = Value.ref b := by
  induction hk with
  | nil =>
    intro ys us ws h1 _
    cases h1
    exact ⟨[], .nil, by simp, fun i k v h => nomatch h⟩
  | @cons b kk xs ks hb _ ih =>
    intro ys us ws h1 h2
    cases h1 with
    | cons ru rus =>
      cases h2 with
      | nil => exact ⟨[], .nil, by simp, fun i k v _ h => nomatch h⟩
      | @cons y0 w0 _ _ rw rws =>
        obtain ⟨qs, q1, q2, q3⟩ := ih rus rws
        refine ⟨(kk, b, w0) :: qs, .cons hb rw q1, by simp only [List.length_cons, q2]; omega, fun i k v h1 h2 => ?_⟩
        cases i with
        | zero =>
          cases h1
          cases h2
          exact ⟨kk, b, rfl, ru⟩
        | succ i => exact q3 i k v h1 h2
theorem ltne1 {a n : Nat} (h : a < n) : a ≠ n + 1 := by omega
theorem ltne5 {a n m : Nat} (h : a < n) (e : m = n + 5) : a ≠ m := by omega
theorem putAll_length : ∀ (ps acc : List (List Key × V)), (putAll acc ps).length ≤ acc.length + ps.length
  | [], acc => Nat.le_refl _
  | p :: ps, acc => by
    have h1 := putAll_length ps (putK acc p.1 p.2)
    have h2 := length_putK acc p.1 p.2
    unfold putAll
    rw [List.length_cons]
    omega
def tDZ (K : PySem.W.Frag) (ta : TA) : TE := fun σ H Q => ta σ H fun vs H1 => ∃ a b xs ys ks, vs = [.ref a, .ref b] ∧ SqL K H1 a xs ∧ SqT K H1 b ys ∧ KsAt H1 xs ks ∧ ∀ p, H1 p = none → Q (.ref p) (upd H1 p (.dT (putAll [] (ks.zip ys))))
section
variable {X : Cx}
theorem pe_dzip {e1 e2 : Expr} {ta : TA} {p p2 q pos : Pos} (hc : X.calm = true) (hu : X.A.units + 2 < cLine) (hg : Gl X "dict") (hm : X.mg "dict" = none) (hg2 : Gl X "zip") (hm2 : X.mg "zip" = none) (ha : PA X [e1, e2] ta)
    (hv : bootBuiltins "dict" = some (.type "dict") := by decide +kernel)
    (hs : starEach [e1, e2] X.env = (false, eval e1 X.env) :: starEach [e2] X.env := by rfl) (hpl : (backTo q (starEach [e2] X.env)).any (·.1) = false := by rfl)
    (hs2 : starEach [.Call (.Name "zip" p2) [e1, e2] [] q] X.env = [(false, eval (.Call (.Name "zip" p2) [e1, e2] [] q) X.env)] := by rfl) :
    PE X (.Call (.Name "dict" p) [.Call (.Name "zip" p2) [e1, e2] [] q] [] pos) (tDZ X.K ta) := by
  refine ⟨fun pins s σ H Q I h => ?_⟩
  refine Call_ (ld_blt I hg hm hv ?_)
  rw [hs2]
  refine PySem.callWith_type1 ?_
  refine Call_ (ld_blt I hg2 hm2 PyProof.Rows.boot_zip (PyProof.Rows.callWith_type1 (thn (ha.run q pins s σ H _ I h) fun us s1 ⟨vs, H1, I1, r1, q1⟩ => ?_) hs hpl))
  obtain ⟨a, b, xs, ys, ks, ex, hqx, hqy, hk, q1⟩ := q1
  subst ex
  cases r1 with
  | cons r rr =>
    cases rr with
    | cons r' rr =>
      cases rr
      cases r
      cases r'
      obtain ⟨its, rv, p1, z1⟩ := I1.list hqx
      obtain ⟨its2, rv2, pt2, z2⟩ := I1.tuple hqy
      have l1 : s1.heap.IsList a its.toArray := p1.isList
      have l2 : s1.heap.IsTuple b its2.toArray := pt2
      have la : a < s1.heap.objs.size := p1.lt
      have lb : b < s1.heap.objs.size := by obtain ⟨o, e, _⟩ := id l2; exact Heap.lt_size e
      refine zip_begins2 (begins_list a its.toArray) (begins_tuple b its2.toArray) l1 l2 fun h' hz hTI hTO g1 g2 hsz hk2 => ?_
      have I2 : Inv X pins σ H1 { s1 with heap := h' } := I1.kept (t' := s1.toks) hk2
      obtain ⟨qs, kz, ql, qp⟩ := KZ.of hk rv rv2
      have hd : X.A.handled = none := I1.ok.hd hc
      have S : ZipSep2 (s1.heap.objs.size + 4) (s1.heap.objs.size + 2) (s1.heap.objs.size + 3) s1.heap.objs.size (s1.heap.objs.size + 1) (s1.heap.objs.size :: [a]) ((s1.heap.objs.size + 1) :: [b]) :=
        zip_sep2 (fun c h => by rw [List.mem_singleton.mp h]; exact la) (fun c h => by rw [List.mem_singleton.mp h]; exact lb)
      have P := PairArg_zipD (prog := X.prog) (w := X.w) (P1 := fun i v => its.toArray[i]? = some v) (P2 := fun i v => its2.toArray[i]? = some v) (n1 := its.toArray.size) (n2 := its2.toArray.size) (St1 := fun i h => h.IsListIter s1.heap.objs.size a i ∧ h.IsList a its.toArray) (St2 := fun i h => h.IsTupleIter (s1.heap.objs.size + 1) b i ∧ h.IsTuple b its2.toArray) S
        (fun A hA => Draws.list hA _ _ (Nat.ne_of_lt la) _) (fun A hA => Draws.tuple hA _ _ (ltne1 lb) _)
        (fun i h st c hcm => by
          have e : c = s1.heap.objs.size ∨ c = a := by simpa using hcm
          rcases e with rfl | rfl
          · obtain ⟨o, e, _⟩ := st.1; exact ⟨o, e⟩
          · obtain ⟨o, e, _⟩ := st.2; exact ⟨o, e⟩)
        (fun i h st c hcm => by
          have e : c = s1.heap.objs.size + 1 ∨ c = b := by simpa using hcm
          rcases e with rfl | rfl
          · obtain ⟨o, e, _⟩ := st.1; exact ⟨o, e⟩
          · obtain ⟨o, e, _⟩ := st.2; exact ⟨o, e⟩) ⟨X.A, hd⟩
      have old : ∀ c, c ∈ [s1.heap.objs.size + 4, s1.heap.objs.size + 3, s1.heap.objs.size, s1.heap.objs.size + 1] → s1.heap.objs.size ≤ c := fun c hcm => by
        have e' : c = s1.heap.objs.size + 4 ∨ c = s1.heap.objs.size + 3 ∨ c = s1.heap.objs.size ∨ c = s1.heap.objs.size + 1 := by simpa using hcm
        omega
      have lq : qs.length ≤ sizeLine := by
        rw [ql, ← rv.length]
        exact Nat.le_trans (Nat.min_le_left ..) z1
      have hn := I2.hok.fresh (Nat.le_refl h'.objs.size)
      refine call_dict_pairsH (knd := tupleKind (mixKind X.prog X.w)) (ps := qs) P hd (show X.A.units + 1 + 1 < cLine from hu) ⟨hz, hTI, ⟨_, _, hTO⟩, ⟨⟨_, g1, rfl, rfl⟩, l1.at fun o e => hk2 _ o e⟩, ⟨⟨_, g2, rfl, rfl⟩, l2.at fun o e => hk2 _ o e⟩⟩ ?_ ?_ ?_ ?_
      · refine ⟨by simpa using ql, fun i key v hr => ?_⟩
        exact qp i key v (by simpa using hr.1) (by simpa using hr.2)
      · intro h2 hk3 x hx
        obtain ⟨o, items, n, ho, hcc, hdd, hi⟩ := key_of I1.hok (kz.mem x hx)
        have hlt : x.2.1 < s1.heap.objs.size := Heap.lt_size ho
        exact ⟨o, items, n, hk3 _ _ (ltne5 hlt hsz) (fun hm => absurd (old _ hm) (Nat.not_le_of_lt hlt)) (hk2 _ _ ho), hcc, hdd, hi⟩
      · simpa [ql] using lq
      · intro h2 tk dd hk3
        obtain ⟨qo, es, epo, hq, h3, h4, h5, _, h7⟩ := dd
        have rel : KT H1 (putAll [] (ks.zip ys)) (storedAllH [] qs) := kz.kt .nil
        have hl : (putAll [] (ks.zip ys)).length ≤ sizeLine := by
          have := putAll_length (ks.zip ys) []
          rw [kz.length] at this
          simp only [List.length_nil] at this
          omega
        refine ⟨.ref h'.objs.size, _, I2.turnedNew (t' := tk) (h' := h2) (ch := [s1.heap.objs.size + 4, s1.heap.objs.size + 3, s1.heap.objs.size, s1.heap.objs.size + 1]) (T := h'.objs.size) (ob := .dT (putAll [] (ks.zip ys))) hk3 (fun c hcm => I1.fpOk (old c hcm) (I1.hok.fresh (old c hcm))) (Nat.le_refl _) ?_, rfl, q1 _ hn⟩
        refine ⟨hl, beq_eq_false_iff_ne.mpr (Ne.symm (Nat.ne_of_lt I2.big)), _, rel.keeps fun c ys ec => ?_, qo, es, epo, hq, h3, h4, h5, h7⟩
        rw [upd_ne (ne_of_none ec hn)]
        exact ec
end
/-! the reading -/
def putAllI (es : List (D × D)) : List (List Int) → List D → List (D × D)
  | k :: ks, d :: ds => putAllI (putI es k d) ks ds
  | _, _ => es
def keysI : List D → Option (List (List Int))
  | [] => some []
  | .tuple ds :: xs => (intsD ds).bind fun is => (keysI xs).map (is :: ·)
  | _ => none
def dzD : D → D → Option Val
  | .list xs, .tuple ys => (keysI xs).map fun ks => .od (putAllI [] ks ys)
  | _, _ => none
theorem keysI_at {K : PySem.W.Frag} {Z H : Hp} (hz : Same Z H) : ∀ {xs : List V} {ds : List D} {ks : List (List Int)}, Reps K Z xs ds → keysI ds = some ks → KsAt H xs (ks.map kI)
  | _, [], ks, .nil, h => by cases h; exact .nil
  | _, d :: ds, ks, .cons r rs, h => by
    cases r with
    | tup s1 l q =>
      unfold keysI at h
      obtain ⟨is, h1, h2⟩ := Option.bind_eq_some_iff.mp h
      obtain ⟨ks', h3, rfl⟩ := Option.map_eq_some_iff.mp h2
      obtain rfl := q.ints h1
      have eb := hz _ _ s1
      rw [← kI_V] at eb
      exact .cons eb (keysI_at hz rs h3)
    | _ => cases h
theorem putAll_rep {K : PySem.W.Frag} {Z : Hp} : ∀ (ks : List (List Int)) {ys : List V} {ds : List D} {acc : List (List Key × V)} {es : List (D × D)}, RepKs K Z acc es → Reps K Z ys ds → RepKs K Z (putAll acc ((ks.map kI).zip ys)) (putAllI es ks ds) := by
  intro ks
  induction ks with
  | nil =>
    intro ys ds acc es h _
    unfold putAllI
    exact h
  | cons k ks ih =>
    intro ys ds acc es h q
    cases q with
    | nil =>
      unfold putAllI
      exact h
    | cons r rs => exact ih (h.put r) rs
section
variable {C : Cx} {X : Fx} {W : WX} {Z F H : Hp} {r : List Val} {σ : L2.St}
theorem de_dzip {e1 e2 : Expr} {oa ob : Opd} {p p2 q pos : Pos} (hc : C.calm = true) (hu : C.A.units + 2 < cLine) (hg : Gl C "dict") (hm : C.mg "dict" = none) (hg2 : Gl C "zip") (hm2 : C.mg "zip" = none) (ha : DO C X W e1 oa) (hb : DO C X W e2 ob)
    (hs : starEach [e1, e2] C.env = (false, eval e1 C.env) :: starEach [e2] C.env := by rfl) (hse : starEach [e2] C.env = (false, eval e2 C.env) :: starEach [] C.env := by rfl) (hpl : (backTo q (starEach [e2] C.env)).any (·.1) = false := by rfl)
    (hs2 : starEach [.Call (.Name "zip" p2) [e1, e2] [] q] C.env = [(false, eval (.Call (.Name "zip" p2) [e1, e2] [] q) C.env)] := by rfl)
    (hK : X.K = C.K := by rfl) : DE C X W (.Call (.Name "dict" p) [.Call (.Name "zip" p2) [e1, e2] [] q] [] pos) (bin dzD oa ob) := by
  refine PE.imp (pe_dzip hc hu hg hm hg2 hm2 (pa_cons ha (pa_cons hb pa_nil hse) hs) (hs := hs) (hpl := hpl) (hs2 := hs2)) fun σ H Q h => ?_
  refine bin_run h fun x y H1 hq => ?_
  obtain ⟨Z, d, e, v, hz, hx, hy, hf, fr⟩ := hq
  unfold dzD at hf
  split at hf
  · rename_i dx dy
    obtain ⟨ks, h1, h2⟩ := Option.map_eq_some_iff.mp hf
    cases h2
    obtain ⟨a, vs, rfl, r1, l, qx⟩ := hx
    cases hy with
    | tup s1 l2 qy =>
      refine ⟨a, _, vs, _, ks.map kI, rfl, by rw [← hK]; exact LiL.sq r1, SqT.at hz s1, keysI_at hz qx h1, fun p np => ?_⟩
      refine fr (.ref p) Z _ (Same.upd np) (Grown.refl Z H1) (hz.trans (Same.upd np)) ?_
      exact ⟨p, _, rfl, np, upd_same, putAll_rep ks .nil qy, none_of hz np⟩
  · cases hf
end
/-! xs.insert(k, y) -/
def insG (xs : List D) : List D → Option (D × List D)
  | [.int k, d] => if smI k = true then if 0 ≤ k then if xs.length < LINE then some (.none, xs.take k.toNat ++ [d] ++ xs.drop k.toNat) else none else none else none
  | _ => none
section
variable {C : Cx}
theorem mth_insert : MthR C "list.insert" insG := by
  refine ⟨_, mt_insert, fun Z H a vs ws xs ds ys v Q hg ha la q rs k => ?_⟩
  unfold insG at hg
  split at hg
  · rename_i i d
    split at hg
    · rename_i hs
      split at hg
      · rename_i h0
        split at hg
        · rename_i hl
          cases hg
          cases rs with
          | cons r1 r2 =>
            cases r2 with
            | cons r2 r3 =>
              cases r3
              cases r1
              have b := smI_of hs
              have hl' : vs.length < sizeLine := by rw [q.length, line_eq]; exact hl
              refine ⟨a, vs, i, _, rfl, rfl, ha, hl', h0, by omega, k _ _ ?_ (((q.take i.toNat).append (.one r2)).append (q.drop i.toNat)) .non⟩
              rw [List.length_append, List.length_append, List.length_take, List.length_drop, List.length_singleton]
              omega
        · cases hg
      · cases hg
    · cases hg
  · cases hg
end
end MS

/-! part 9: a tuple so many times -/
namespace MS
open PySem PySem.Spec PyProof.Rows L2
theorem tuple_mul1 (l : Addr) (items : Array Value) (n : Nat) (dd : Option Addr) (sl : Array (Option Value)) (u : Tok) :
    Meets (Builtin.«tuple.__mul__» ⟨[.ref l, .int 1 u], []⟩) (fun _ R s => s.heap.get? l = some { cls := .type "tuple", dict := dd, data := .seq items n, slots := sl } ∧ R (.ok (.ret (Value.ref l))) s) :=
  .of_wp fun prog w A R s h => by
    obtain ⟨hp, g, d, tk, os⟩ := s
    obtain ⟨hl, h⟩ := h
    have f1 := AutoSeq1.idx_int
    wp_walk using wpAny_loadPart' hl
    repeat (first
      | (refine wpAny_ite_true (by simp) ?_; wp_walk using wpAny_loadPart' hl)
      | (refine wpAny_ite_false (decide_eq_false (by decide)) ?_; wp_walk using wpAny_loadPart' hl))
    all_goals exact ⟨_, rfl, h⟩
/-- a tuple times an int from 1 on -/
def mulT : D → D → Option Val
  | .tuple xs, .int k => if (Nat.ble 1 xs.length && Nat.ble xs.length 1000 && smI k && Nat.ble 1 k.toNat && Nat.ble k.toNat 1000) = true then some (.fz (.tuple (repN xs k.toNat))) else none
  | _, _ => none
section
variable {C : Cx}
def rRep1 (K : PySem.W.Frag) : R2 := fun x y H Q => ∃ l xs, x = .ref l ∧ y = .int 1 ∧ SqT K H l xs ∧ Q (.ref l) H
theorem op_rep1 : OpR C (binaryOp .Mult) (rRep1 C.K) := by
  intro pins s σ H x y v u Q I rx ry h
  obtain ⟨l, xs, rfl, rfl, hT, q⟩ := h
  cases rx
  obtain ⟨t, rfl⟩ := ry
  obtain ⟨its, r, ⟨⟨cls, dd, data, sl⟩, ho, hc, n, hd⟩, hs⟩ := I.tuple hT
  simp only at hc hd
  subst hc hd
  refine wpAny_binaryOp_repeat_ref (T := "tuple") (U := "int") (by decide) ⟨_, ho, rfl⟩ (fun s' => typeIs_int s' 1 t) noFill_tuple_mul F.fills_int_mul F.slot_int_rmul repeat_tuple F.slot_int_index.lookup
    (call_meets F.slot_int_rmul (typeIs_int s 1 t) F.entry_int_rmul (F.args_int_rmul_2 _ _) (int_rmul_tuple 1 t l its.toArray n dd sl)
      ⟨ho, rfl, ⟨_, ho, rfl⟩, call_meets F.slot_tuple_mul ⟨_, ho, rfl⟩ F.entry_tuple_mul (F.args_tuple_mul_2 _ _) (tuple_mul1 l its.toArray n dd sl t) ⟨ho, ?_⟩⟩)
  exact ⟨.ref l, H, I, rfl, q⟩
theorem op_mulT : OpR C (binaryOp .Mult) (rF C.K mulT) := op_by fun d e v x y H Z Q hf hz hx hy fr => by
  unfold mulT at hf
  split at hf
  · rename_i xs k
    split at hf
    · rename_i hc
      cases hf
      simp only [Bool.and_eq_true] at hc
      obtain ⟨⟨⟨⟨h1, h2⟩, h3⟩, h4⟩, h5⟩ := hc
      have h1 := Nat.le_of_ble_eq_true h1
      have h2 := Nat.le_of_ble_eq_true h2
      have h4 := Nat.le_of_ble_eq_true h4
      have h5 := Nat.le_of_ble_eq_true h5
      cases hy
      cases hx with
      | tup s1 l q =>
        by_cases hk : k = 1
        · subst hk
          refine ⟨_, op_rep1, _, _, rfl, rfl, SqT.at hz s1, fr.sc hz ?_⟩
          have e : repN xs (1 : Int).toNat = xs := List.append_nil xs
          rw [e]
          exact .tup s1 l q
        · rename_i vs
          have hl := q.length
          refine ⟨_, op_repT, _, k, vs, rfl, rfl, SqT.at hz s1, ?_, by omega, by omega, by omega, ?_⟩
          · intro e
            rw [e] at hl
            simp only [List.length_nil] at hl
            omega
          · rw [repN_eq]
            refine fr.tup hz (q.rep k.toNat) ?_
            rw [repN_len, hl, sizeLine_eq]
            have : xs.length * k.toNat ≤ 1000 * 1000 := Nat.mul_le_mul h2 h5
            omega
    · cases hf
  · cases hf
end
/-! a statement that no run comes to: the plain run tells nothing of it -/
def sBad : M Fl := fun _ => .err
theorem ds_bad {C : Cx} {X : Fx} {W : WX} {st : Stmt} : DS C X W st sBad := ⟨fun _ _ _ _ _ _ h => by
  obtain ⟨_, _, _, _, h⟩ := h
  exact h.elim⟩
end MS

/-! part A: repr -/
namespace MS
open PySem PySem.Spec PyProof.Rows L2
mutual
/-- no list, and no dict but empty ones -/
def dOk : D → Bool
  | .none => true
  | .bool _ => true
  | .int _ => true
  | .str _ => true
  | .list _ => false
  | .tuple ds => dOkAll ds
  | .dict [] => true
  | .dict (_ :: _) => false
def dOkAll : List D → Bool
  | [] => true
  | d :: ds => dOk d && dOkAll ds
end
def noKeys (d : D) : Bool := !d.hasDict || dOk d
/-- small enough to be told by repr -/
def rOk (d : D) : Bool := d.showable && Nat.ble d.depth 60 && d.leavesShort 100 && Nat.ble d.bulk 100000 && noKeys d
def reprV : List D → Option Val
  | [d] => if rOk d = true then some (.fz (.str d.shown)) else none
  | _ => none
section
variable {C : Cx} {pins : List (Addr × Obj)} {σ : L2.St} {H : Hp} {s : Shared}
mutual
theorem reads_of (I : Inv C pins σ H s) : ∀ (d : D) (x : V) (v : Value), Rep C.K H x d → RelV x v → d.hasDict = false → ∃ as, Reads s.heap v d as
  | .none, _, v, h, r, _ => by
    cases h
    cases r
    exact ⟨_, .none⟩
  | .bool b, _, v, h, r, _ => by
    cases h
    cases r
    exact ⟨_, .bool b⟩
  | .int i, _, v, h, r, _ => by
    cases h
    obtain ⟨t, rfl⟩ := r
    exact ⟨_, .int i t⟩
  | .str x, _, v, h, r, _ => by
    cases h
    obtain ⟨t, rfl⟩ := r
    exact ⟨_, .str x t⟩
  | .list ds, _, v, h, r, q => by
    cases h with
    | lst hl l rs =>
      cases r
      obtain ⟨its, ri, ⟨o, n, ho, hc, hd, hs⟩, hz⟩ := I.list hl.sq
      obtain ⟨as, ra⟩ := readsAll_of I ds _ _ rs ri (by simpa only [PyData.hasDict] using q)
      exact ⟨_, .list ho hc hs (by simpa using ra)⟩
  | .tuple ds, _, v, h, r, q => by
    cases h with
    | tup ht l rs =>
      cases r
      obtain ⟨its, ri, ⟨o, ho, hc, n, hd⟩, hz⟩ := I.tuple (.inl (.inl ht))
      obtain ⟨as, ra⟩ := readsAll_of I ds _ _ rs ri (by simpa only [PyData.hasDict] using q)
      exact ⟨_, .tuple ho hc hd (by simpa using ra)⟩
  | .dict es, _, v, h, r, q => by
    simp only [PyData.hasDict] at q
    cases q
theorem readsAll_of (I : Inv C pins σ H s) : ∀ (ds : List D) (xs : List V) (vs : List Value), Reps C.K H xs ds → Vals xs vs → PyData.hasDictAll ds = false → ∃ as, ReadsAll s.heap vs ds as
  | [], _, _, h, r, _ => by
    cases h
    cases r
    exact ⟨_, .nil⟩
  | d :: ds, _, _, h, r, q => by
    cases h with
    | cons h hs =>
      cases r with
      | cons r rs =>
        simp only [PyData.hasDictAll, Bool.or_eq_false_iff] at q
        obtain ⟨as, a⟩ := reads_of I d _ _ h r q.1
        obtain ⟨bs, b⟩ := readsAll_of I ds _ _ hs rs q.2
        exact ⟨_, .cons a b⟩
end
mutual
theorem reads_dOk (I : Inv C pins σ H s) : ∀ (d : D) (x : V) (v : Value), Rep C.K H x d → RelV x v → dOk d = true → ∃ as, Reads s.heap v d as ∧ sysModules ∉ as
  | .none, _, v, h, r, _ => by
    cases h
    cases r
    exact ⟨_, .none, List.not_mem_nil⟩
  | .bool b, _, v, h, r, _ => by
    cases h
    cases r
    exact ⟨_, .bool b, List.not_mem_nil⟩
  | .int i, _, v, h, r, _ => by
    cases h
    obtain ⟨t, rfl⟩ := r
    exact ⟨_, .int i t, List.not_mem_nil⟩
  | .str x, _, v, h, r, _ => by
    cases h
    obtain ⟨t, rfl⟩ := r
    exact ⟨_, .str x t, List.not_mem_nil⟩
  | .list ds, _, v, h, r, q => by
    simp only [dOk] at q
    cases q
  | .tuple ds, _, v, h, r, q => by
    cases h with
    | tup ht l rs =>
      cases r
      obtain ⟨its, ri, ⟨o, ho, hc, n, hd⟩, hz⟩ := I.tuple (.inl (.inl ht))
      obtain ⟨as, ra, na⟩ := readsAll_dOk I ds _ _ rs ri (by simpa only [dOk] using q)
      exact ⟨_, .tuple ho hc hd (by simpa using ra), na⟩
  | .dict [], _, v, h, r, q => by
    cases h with
    | dct hd rk =>
      cases rk
      cases r
      obtain ⟨z, y, ys, r, o, es, ep, h1, h2, h3, h4, _⟩ := dt_rd I.hok hd
      cases r
      have e0 : es.toList = [] := by simpa using h4
      refine ⟨[_] ++ [], .dict h1 h2.1 h3 (by rw [e0]; exact .nil) (by rw [e0]; exact .nil), fun hm => ?_⟩
      simp only [List.append_nil, List.mem_singleton] at hm
      rw [← hm] at y
      simp at y
  | .dict (e :: es), _, v, h, r, q => by
    simp only [dOk] at q
    cases q
theorem readsAll_dOk (I : Inv C pins σ H s) : ∀ (ds : List D) (xs : List V) (vs : List Value), Reps C.K H xs ds → Vals xs vs → dOkAll ds = true → ∃ as, ReadsAll s.heap vs ds as ∧ sysModules ∉ as
  | [], _, _, h, r, _ => by
    cases h
    cases r
    exact ⟨_, .nil, List.not_mem_nil⟩
  | d :: ds, _, _, h, r, q => by
    cases h with
    | cons h hs =>
      cases r with
      | cons r rs =>
        simp only [dOkAll, Bool.and_eq_true] at q
        obtain ⟨as, a, na⟩ := reads_dOk I d _ _ h r q.1
        obtain ⟨bs, b, nb⟩ := readsAll_dOk I ds _ _ hs rs q.2
        exact ⟨_, .cons a b, fun hm => (List.mem_append.mp hm).elim na nb⟩
end
theorem reads_any (I : Inv C pins σ H s) (d : D) (x : V) (v : Value) (h : Rep C.K H x d) (r : RelV x v) (q : noKeys d = true) : ∃ as, Reads s.heap v d as ∧ (d.hasDict = true → sysModules ∉ as) := by
  unfold noKeys at q
  rw [Bool.or_eq_true, Bool.not_eq_true'] at q
  rcases q with q | q
  · obtain ⟨as, a⟩ := reads_of I d x v h r q
    exact ⟨as, a, PyData.noDict_hsm q⟩
  · obtain ⟨as, a, na⟩ := reads_dOk I d x v h r q
    exact ⟨as, a, fun _ => na⟩
def rRepr (K : PySem.W.Frag) : List V → Hp → VK → Prop := fun xs H Q => ∃ x d, xs = [x] ∧ Rep K H x d ∧ rOk d = true ∧ Q (.str d.shown) H
theorem call_reprR (hg : C.A.guards = some []) (hu : C.A.units + 64 < cLine) : CallR C (.builtin "repr") (rRepr C.K) := by
  intro pins s σ H xs us Q I r h
  obtain ⟨x, d, rfl, rx, ok, q⟩ := h
  obtain ⟨v, rfl, rv⟩ := vals1 r
  unfold rOk at ok
  simp only [Bool.and_eq_true] at ok
  obtain ⟨⟨⟨⟨o1, o2⟩, o3⟩, o4⟩, o5⟩ := ok
  have o2 := Nat.le_of_ble_eq_true o2
  have o4 := Nat.le_of_ble_eq_true o4
  have hl : d.shown.length ≤ sizeLine := by
    have := PyData.shown_le_bulk 100 (by decide) d o3
    rw [sizeLine_eq]
    omega
  have fin : ∀ (h' : Heap) (u tk : Nat), (∀ b o, s.heap.get? b = some o → h'.get? b = some o) → EP C pins σ Q (.str d.shown u) { s with heap := h', toks := tk } := fun h' u tk hk => ⟨.str d.shown, H, I.kept (t' := tk) hk, ⟨_, rfl⟩, q⟩
  have big : ∀ {a : Addr} {as : List Addr}, Reads s.heap (.ref a) d as → (d.hasDict = true → sysModules ∉ as) → wpAny (model C.prog C.w) C.A (call (.builtin "repr") [.ref a]) (EP C pins σ Q) C.xe s := fun rd hs =>
    repr_of_reads' rd o1 hs hg (by omega) (fun _ _ e => e) fin hl
  cases d with
  | none =>
    cases rx
    cases rv
    exact PySem.P.repr_of_none ⟨.str _, H, I.tok _, ⟨_, rfl⟩, q⟩
  | bool b =>
    cases rx
    cases rv
    refine PySem.P.repr_of_bool ⟨.str _, H, I.tok _, ⟨_, rfl⟩, q⟩
  | int i =>
    cases rx
    obtain ⟨t, rfl⟩ := rv
    exact PySem.P.repr_of_int (by simpa [PyData.showable] using o1) ⟨.str _, H, I.tok _, ⟨_, rfl⟩, q⟩
  | str x =>
    cases rx
    obtain ⟨t, rfl⟩ := rv
    exact PySem.P.repr_of_str ⟨.str _, H, I.tok _, ⟨_, rfl⟩, q⟩ hl
  | list ds =>
    obtain ⟨as, ra, hs⟩ := reads_any I _ _ _ rx rv o5
    cases rx with
    | lst _ _ _ =>
      cases rv
      exact big ra hs
  | tuple ds =>
    obtain ⟨as, ra, hs⟩ := reads_any I _ _ _ rx rv o5
    cases rx with
    | tup _ _ _ =>
      cases rv
      exact big ra hs
  | dict es =>
    obtain ⟨as, ra, hs⟩ := reads_any I _ _ _ rx rv o5
    cases rx with
    | dct _ _ =>
      cases rv
      exact big ra hs
end
theorem call_reprV {C : Cx} (hg : C.A.guards = some []) (hu : C.A.units + 64 < cLine) : CallR C (.builtin "repr") (rApp C.K reprV) := call_by fun ds v xs H Z Q hf hz hx fr => by
  unfold reprV at hf
  split at hf
  · rename_i d
    split at hf
    · rename_i ok
      cases hf
      obtain ⟨x, rfl, hx⟩ := RepHs.one hx
      exact ⟨_, call_reprR hg hu, x, d, rfl, RepH.all hx.1 hz, ok, fr.sc hz (.str _)⟩
    · cases hf
  · cases hf
end MS

/-! part 5b: is True -/
namespace MS
open PySem PySem.Spec PyProof.Rows L2
def isB : D → D → Option Val
  | .bool a, .bool b => some (.fz (.bool (decide (a = b))))
  | _, _ => none
section
variable {C : Cx}
theorem op_isBl : OpR C (compareOp .Is) (fun x y H Q => ∃ a b, x = .bl a ∧ y = .bl b ∧ Q (.bl (decide (a = b))) H) := by
  intro pins s σ H x y v u Q I rx ry h
  obtain ⟨a, b, rfl, rfl, q⟩ := h
  cases (show v = Value.bool a from rx)
  cases (show u = Value.bool b from ry)
  exact wpAny_is_plain rfl (fin_bl I q (by cases a <;> cases b <;> rfl))
theorem op_isB : OpR C (compareOp .Is) (rF C.K isB) := op_by fun d e v x y H Z Q hf hz hx hy fr => by
  cases d with
  | bool a =>
    cases e with
    | bool b =>
      cases hf
      cases hx
      cases hy
      exact ⟨_, op_isBl, a, b, rfl, rfl, fr.sc hz (.bl _)⟩
    | _ => cases hf
  | _ => cases hf
theorem sum_tupG {l : Addr} {xs : Array (Int × Tok)} {Q : Value → Shared → Prop} {A : Around} {s : Shared} {prog : Program} {w : World} {E : Value → Shared → Prop} (hh : A.handled = none) (hT : s.heap.IsTuple l (intItems xs))
    (h : ∀ h' tk t', (∀ b o, s.heap.get? b = some o → h'.get? b = some o) → Q (.int (preSum (numAt xs) xs.size) t') { s with heap := h', toks := tk }) :
    wpAny (model prog w) A (call (.builtin "sum") [.ref l]) Q E s := by
  have hlt : l < s.heap.objs.size := by
    obtain ⟨o, e, _⟩ := hT
    exact Heap.lt_size e
  refine PySem.call_sum_walkG (wpAny_pyIter_tuple hT ?_)
  refine ⟨_, [_, l], [_], _, _, _, numAt xs, rfl, Walks.tuple (A := A.in1) hh _ l (Nat.ne_of_lt hlt) (intItems xs), ⟨⟨_, Heap.get?_push_size _ rfl, rfl, rfl⟩, hT.push _⟩, fun c hc => ?_, (fun _ _ => intItems_at), fun h' tk t' hk => ?_⟩
  · show c < (s.heap.push _).objs.size
    rw [Heap.size_push]
    rcases List.mem_cons.mp hc with rfl | hc
    · exact Nat.lt_succ_self _
    · rcases List.mem_cons.mp hc with rfl | hc
      · exact Nat.lt_succ_of_lt hlt
      · cases hc
  · have hold : ∀ c o, s.heap.get? c = some o → h'.get? c = some o := fun c o e => by
      refine hk c o (fun hm => ?_) (Heap.get?_push_of_some _ e)
      rcases List.mem_cons.mp hm with e1 | hm
      · have := Heap.lt_size e; rw [e1] at this; exact Nat.lt_irrefl _ this
      · cases hm
    have := h h' tk t' hold
    simpa [intItems] using this
theorem sum_rawT {its : List Value} {l : Addr} {ns : List Int} {Q : Value → Shared → Prop} {A : Around} {s : Shared} {prog : Program} {w : World} {E : Value → Shared → Prop} (hh : A.handled = none) (hl : s.heap.IsTuple l its.toArray) (hi : IntsAre its ns)
    (h : ∀ h' tk t', (∀ b o, s.heap.get? b = some o → h'.get? b = some o) → Q (.int ns.sum t') { s with heap := h', toks := tk }) : wpAny (model prog w) A (call (.builtin "sum") [.ref l]) Q E s := by
  obtain ⟨xs, e⟩ := hi.allInts.items
  have hn : numsOf (intItems xs).toList = ns := by rw [← e]; exact hi.numsOf
  rw [nums_intItems] at hn
  rw [e] at hl
  refine sum_tupG hh hl fun h' tk t' hk => ?_
  have := h h' tk t' hk
  rw [preSum_eq, List.take_of_length_le (by simp), hn]; exact this
/-- the sum of a list or a tuple of ints -/
def sumTD : List D → Option Val
  | [.list ds] => (intsD ds).map fun ns => .fz (.int ns.sum)
  | [.tuple ds] => (intsD ds).map fun ns => .fz (.int ns.sum)
  | _ => none
theorem call_sumTD (hc : C.calm = true) : CallR C (.builtin "sum") (rApp C.K sumTD) := by
  intro pins s σ H xs us Q I rx ⟨Z, ds, z, hz, hx, hf, fr⟩
  have hd : C.A.handled = none := I.ok.hd hc
  unfold sumTD at hf
  split at hf
  · rename_i ds
    obtain ⟨bs, e1, rfl⟩ := Option.map_eq_some_iff.mp hf
    obtain ⟨x, rfl, a, vs, rfl, r1, l, q⟩ := RepHs.one hx
    obtain rfl := q.ints e1
    exact cr_sum hc pins s σ H _ us Q I rx ⟨a, bs, rfl, LiL.sq r1, fr.sc hz (.int _)⟩
  · rename_i ds
    obtain ⟨bs, e1, rfl⟩ := Option.map_eq_some_iff.mp hf
    obtain ⟨x, ex, hx1⟩ := RepHs.one hx
    subst ex
    cases hx1 with
    | tup s1 l q =>
      rename_i a vs
      obtain rfl := q.ints e1
      obtain ⟨its, rv, il, _⟩ := I.tuple (SqT.at hz s1)
      rw [Vals.ref1 rx]
      exact sum_rawT hd (show s.heap.IsTuple a its.toArray from il) rv.ints fun h' tk t hk => ⟨.int _, H, I.kept hk, ⟨t, rfl⟩, fr.sc hz (.int _)⟩
  · cases hf
/-- a string of one sign, so many times -/
def mulS : D → D → Option Val
  | .str x, .int k => if (Nat.beq x.length 1 && smI k && Nat.ble 1 k.toNat && Nat.ble k.toNat 1000) = true then some (.fz (.str (Txt.mul x k))) else none
  | _, _ => none
theorem op_reps : OpR C (binaryOp .Mult) (fun x y H Q => ∃ a k, x = .str a ∧ y = .int k ∧ MulOk a k ∧ Q (.str (Txt.mul a k)) H) := by
  intro pins s σ H x y v u Q I rx ry h
  obtain ⟨a, k, rfl, rfl, hok, q⟩ := h
  obtain ⟨t, rfl⟩ := rx
  obtain ⟨t', rfl⟩ := ry
  exact SB.mul hok fun t' k => ⟨.str _, H, I.kept (h' := s.heap) (fun _ _ h => h), ⟨t', rfl⟩, q⟩
theorem op_mulS : OpR C (binaryOp .Mult) (rF C.K mulS) := op_by fun d e v x y H Z Q hf hz hx hy fr => by
  unfold mulS at hf
  split at hf
  · rename_i a k
    split at hf
    · rename_i hc
      cases hf
      simp only [Bool.and_eq_true] at hc
      obtain ⟨⟨⟨h1, h2⟩, h3⟩, h4⟩ := hc
      have h1 := Nat.eq_of_beq_eq_true h1
      have h3 := Nat.le_of_ble_eq_true h3
      have h4 := Nat.le_of_ble_eq_true h4
      cases hx
      cases hy
      refine ⟨_, op_reps, a, k, rfl, rfl, ⟨?_, fun _ _ => ?_, fun _ _ => ?_⟩, fr.sc hz (.str _)⟩
      · rw [decide_eq_false (by omega), decide_eq_false (by omega)]; rfl
      · rw [h1]
        have hk : 1 ≤ k ∧ k ≤ 1000 := by omega
        have : 1 ≤ (2 ^ 63 - 1) / k := Int.le_ediv_of_mul_le (by omega) (by omega)
        omega
      · rw [h1]
        have : 1 * k.toNat ≤ 1000 := by omega
        show decide (1 * k.toNat > sizeLine) = false
        rw [sizeLine_eq]
        exact decide_eq_false (by omega)
    · cases hf
  · cases hf
@[simp] theorem isB_bb (a b : Bool) : isB (.bool a) (.bool b) = some (.fz (.bool (decide (a = b)))) := rfl
end
end MS

/-! part 6b: for k in d, d an own dict with tuple keys -/
namespace MS
open PySem PySem.Spec PyProof.Rows L2
section
variable {C : Cx} {X : Fx} {W : WX} {Z F H : Hp} {r : List Val} {σ : L2.St}
/-- the dict is held fast from here on -/
theorem pi_keysL {C : Cx} {tg e : Expr} {td : TE} (he : PE C e td) : PI C tg e (fun σ H R => td σ H fun x H1 => ∃ d kvs, x = .ref d ∧ H1 d = some (.dT kvs) ∧ ∀ od, R (Itkt d od kvs) (upd H1 d (.frz od (.dT kvs)))) := by
  refine ⟨fun pins s σ H R I h => ?_⟩
  refine thn (he.run pins s σ H _ I h) fun u s1 ⟨x, H1, I1, rx, d, kvs, ex, hd, q⟩ => ?_
  subst ex
  obtain rfl : u = Value.ref d := rx
  obtain ⟨od, I2⟩ := I1.lock hd trivial
  obtain ⟨hs, hgd, hx, es, ep, hdt, hsz, ent⟩ := I2.frzT (upd_same ..)
  refine iter_keys hs hgd hx hdt (pi_one (tk := s1.toks) I2 _ (turn_keysT _ hdt) ⟨_, Heap.get?_push_size _ rfl, rfl, ?_⟩ (q od))
  rw [hsz] <;> rfl
theorem Reps_key (K : PySem.W.Frag) (Z : Hp) : ∀ k : List Key, Reps K Z (k.map kV) (k.map keyD)
  | [] => .nil
  | .inl i :: k => .cons (.int i) (Reps_key K Z k)
  | .inr x :: k => .cons (.str x) (Reps_key K Z k)
def keyOk (e : D × D) : Bool := match e.1 with
  | .tuple ds => Nat.ble ds.length 1000
  | _ => false
theorem RepKs.get {K : PySem.W.Frag} {Z : Hp} : ∀ (es : List (D × D)) {kvs : List (List Key × V)}, RepKs K Z kvs es → kvs.length = es.length ∧ ∀ (i : Nat) (d : D), (es.map Prod.fst)[i]? = some d → ∃ k v, kvs[i]? = some (k, v) ∧ d = .tuple (k.map keyD)
  | [], _, h => by
    cases h
    exact ⟨rfl, fun i d h => by simp at h⟩
  | (e, d0) :: es, _, h => by
    cases h with
    | cons r rs =>
      rename_i k v kvs
      obtain ⟨l, q⟩ := RepKs.get es rs
      refine ⟨by rw [List.length_cons, List.length_cons, l], fun i d h => ?_⟩
      cases i with
      | zero => simp at h; subst h; exact ⟨k, v, rfl, rfl⟩
      | succ i =>
        obtain ⟨k', v', h1, h2⟩ := q i d (by simpa using h)
        exact ⟨k', v', by simpa using h1, h2⟩
theorem iter_keysT {K : PySem.W.Frag} {a : Addr} {od : Obj} {kvs : List (List Key × V)} {es : List (D × D)} (hK : X.K = K) (h : Z a = some (.frz od (.dT kvs))) (q : RepKs X.K Z kvs es) (ok : es.all keyOk = true) : IterOk X Z (Itkt a od kvs) (es.map Prod.fst) := by
  subst hK
  intro Z1 H1 s1 s2 i
  have hH : H1 a = some (.frz od (.dT kvs)) := s2 _ _ (s1 _ _ h)
  obtain ⟨ln, get⟩ := RepKs.get es q
  refine ⟨fun hi => ⟨hH, by rw [List.length_map] at hi; omega⟩, fun hi => ⟨hH, by rw [List.length_map] at hi; omega⟩, fun d hd x H2 y => ?_⟩
  obtain ⟨rfl, k, v, b, e1, rfl, e2⟩ := y
  obtain ⟨k', v', e3, rfl⟩ := get i d hd
  rw [e1] at e3
  cases e3
  have hk : k.length ≤ 1000 := by
    rw [List.getElem?_map] at hd
    obtain ⟨en, h1, h2⟩ := Option.map_eq_some_iff.mp hd
    have := List.all_eq_true.mp ok en (List.mem_of_getElem? h1)
    unfold keyOk at this
    rw [h2] at this
    have := Nat.le_of_ble_eq_true this
    rwa [List.length_map] at this
  have hl : (k.map kV).length ≤ sizeLine := by rw [List.length_map, sizeLine_eq]; omega
  refine ⟨Same.refl _, ?_⟩
  cases e4 : Z1 b with
  | some u =>
    have := s2 _ _ e4
    rw [e2] at this
    cases this
    exact ⟨Z1, Grown.refl _ _, s2, .tup e4 hl (Reps_key _ _ k)⟩
  | none =>
    refine ⟨upd Z1 b (.tup (k.map kV)), ⟨Same.upd e4, fun c u e t n => ?_⟩, fun c u e => ?_, .tup upd_same hl (Reps_key _ _ k)⟩
    · rw [upd_ne (fun hb => by rw [hb, e2] at e; cases e; exact t)]
      exact n
    · by_cases hc : c = b
      · subst hc; rw [upd_same] at e; cases e; exact e2
      · rw [upd_ne hc] at e; exact s2 _ _ e
/-- an own dict that no slot names is held fast -/
theorem G.lock (g : G X Z F r σ H) {a : Addr} {kvs : List (List Key × V)} (h1 : H a = some (.dT kvs)) (z : Z a = none) (f : F a = none) (dj : Out H r σ a) (od : Obj) :
    Ext Z (upd Z a (.frz od (.dT kvs))) F ∧ G X (upd Z a (.frz od (.dT kvs))) F r σ (upd H a (.frz od (.dT kvs))) := by
  obtain ⟨g1, o1⟩ := g.chg (o := .frz od (.dT kvs)) z f dj h1 trivial
  exact g1.hold upd_same z f (o1 a dj)
/-- the keys of the own dict at a slot, which comes to rest -/
def iKy (i : Nat) : M (List D) := fun r => match r[i]? with
  | some (.od es) => if es.all keyOk = true then .ok (es.map Prod.fst) (r.set i (.fz (.dict es))) else .err
  | _ => .err
theorem di_keysO {tg e : Expr} {i : Nat} (he : DO C X W e (.sl i)) (hK : X.K = C.K := by rfl) : DI C X W tg e (iKy i) := PI.imp (pi_keysL he) fun σ H R h => by
  obtain ⟨Z, F, r, g, h⟩ := h
  revert h
  unfold iKy
  cases e : r[i]? with
  | none => exact fun h => h.elim
  | some v =>
    cases v with
    | un => exact fun h => h.elim
    | fz d => exact fun h => h.elim
    | ol xs => exact fun h => h.elim
    | ow xs => exact fun h => h.elim
    | od es =>
      simp only
      split
      · rename_i ok
        intro h
        obtain ⟨a, kvs, e1, h1, q, z, f⟩ := g.sl i _ e
        refine ⟨.ref a, e1, a, kvs, rfl, h1, fun od => ?_⟩
        have g0 : G X Z F (r.set i .un) σ H := g.put (w := .un) True.intro rfl
        obtain ⟨ex, g1⟩ := g0.lock h1 z f (own_out g e (by rw [e1]; exact List.mem_singleton.mpr rfl)) od
        have g2 := g1.put (i := i) (w := .fz (.dict es)) ⟨.ref a, e1, .dct (.inr ⟨od, upd_same⟩) (q.up ex.1)⟩ rfl
        rw [List.set_set] at g2
        exact h _ _ ex g2 _ (iter_keysT rfl upd_same (q.up ex.1) ok)
      · exact fun h => h.elim
/-! list(d.values()) -/
theorem vals_of {K : PySem.W.Frag} {P : Program} {w : World} {H : Hp} {kvs : List (List Key × V)} {ks : List (List Key × Addr × Value)} (r : KT H kvs ks) : Vals (kvs.map Prod.snd) (ks.map fun x => x.2.2) := by
  induction r with
  | nil => exact .nil
  | cons h t ih => exact .cons h.2.2 ih
theorem pe_listVals {C : Cx} {e : Expr} {td : TE} {p apos q pos : Pos} (hc : C.calm = true) (hg : Gl C "list") (hm : C.mg "list" = none) (he : PE C e td)
    (hv : bootBuiltins "list" = some (.type "list") := by decide +kernel)
    (hbase : attributeBase e "values" C.env (eval e C.env) = eval e C.env := by rfl) (hline : (apos.endLine == q.line) = true := by rfl)
    (hs2 : starEach [.Call (.Attribute e "values" apos) [] [] q] C.env = [(false, eval (.Call (.Attribute e "values" apos) [] [] q) C.env)] := by rfl) :
    PE C (.Call (.Name "list" p) [.Call (.Attribute e "values" apos) [] [] q] [] pos) (fun σ H Q => td σ H fun x H1 => ∃ d kvs, x = .ref d ∧ Rd H1 d (.dT kvs) ∧ ∀ p, H1 p = none → Q (.ref p) (upd H1 p (.lst (kvs.map Prod.snd)))) := by
  refine ⟨fun pins s σ H Q I h => ?_⟩
  refine Call_ (ld_blt I hg hm hv ?_)
  rw [hs2]
  refine PySem.callWith_type1 ?_
  refine wpAny_Call_method (T := "dict") (id := "dict.values") hbase rfl hline F.plainAttrs_dict F.slot_dict_values F.type_dict_values (thn (he.run pins s σ H _ I h) fun u s1 ⟨x, H1, I1, rx, d, kvs, ex, hd, q1⟩ => ?_)
  subst ex
  obtain rfl : u = Value.ref d := rx
  obtain ⟨z, hs, ks, pr, o, es, ep, ho, hx, hdt, he', hn⟩ := (show ObjOk C.prog C.w H1 s1.heap d (.dT kvs) from hd.ok I1.hok)
  have hT : s1.TypeIs (.ref d) "dict" := ⟨o, ho, hx.1⟩
  refine ⟨hT, fun a ea => by cases ea; exact ⟨o, ho, hx.2.1⟩, ?_⟩
  have I2 : Inv C pins σ H1 { s1 with heap := s1.heap.push { cls := .type "dict_values", data := .fields #[.ref d] } } := I1.kept (t' := s1.toks) fun b ob q => Heap.get?_push_of_some _ q
  have l1 : es.size = ks.length := size_of_entries he'
  have l2 : kvs.length = ks.length := Paired.length pr
  have raw : s1.heap.DictRaw d es ep := ⟨o, ho, hx, hdt⟩
  show wpAny _ _ (callWith q (.builtin "dict.values") [.ref d] [] []) _ C.xe s1
  refine method_meetsIn F.slot_dict_values F.entry_dict_values rfl (PySem.evalArgs_none ⟨rfl, hT, F.args_dict_values_1 _, _, meets_dict_values_raw d hs, ⟨es, ep, raw⟩, ?_⟩)
  show wpAny _ _ (call (.type "list") [.ref s1.heap.objs.size]) _ _ _
  refine PySem.W.kdl_call (KdlSrc.rawValues (prog := C.prog) (w := C.w) (r := s1.heap.objs.size) (d := d) (es := es) (ep := ep)) (I2.ok.hd hc) ⟨⟨_, Heap.get?_push_size _ rfl, rfl, rfl⟩, raw.push _⟩ (by omega) fun h' tk acc' c' kp e it => ?_
  have ea : acc'.toList = ks.map fun x => x.2.2 := by
    have hl : acc'.toList.length = ks.length := by rw [Array.length_toList, it.1]; exact l1
    apply List.ext_getElem?
    intro j
    rw [List.getElem?_map]
    cases hj : acc'.toList[j]? with
    | none =>
      have h1 := List.getElem?_eq_none_iff.mp hj
      rw [List.getElem?_eq_none (by omega)]
      all_goals rfl
    | some v =>
      obtain ⟨hi, hv⟩ := it.2 j v (by rw [← Array.getElem?_toList]; exact hj)
      have qe := entry_at he' j
      rw [Array.getElem?_eq_getElem hi] at qe
      cases hb : ks[j]? with
      | none =>
        rw [hb] at qe
        exact nomatch (show some es[j] = none from qe)
      | some b =>
        rw [hb] at qe
        have e2 : es[j] = entryOfKey (tupleKind (mixKind C.prog C.w)) b := Option.some.inj qe
        rw [hv, e2]
        all_goals rfl
  have rv : Vals (kvs.map Prod.snd) acc'.toList := by rw [ea]; exact vals_of (K := C.K) (P := C.prog) (w := C.w) pr
  have hz : (kvs.map Prod.snd).length ≤ sizeLine := by rw [List.length_map]; omega
  refine ⟨.ref _, _, I2.laid (t' := tk) (o := .lst (kvs.map Prod.snd)) kp (Nat.le_refl _) ?_, rfl, q1 _ (I2.hok.fresh (Nat.le_refl _))⟩
  exact ⟨hz, acc'.toList, c', rv, by rw [Array.toArray_toList]; exact e⟩
/-- the values of a dict, as a new list -/
def valsK : D → Option Val
  | .dict es => if Nat.ble es.length 1000000 = true then some (.ol (es.map Prod.snd)) else none
  | _ => none
theorem RepKs.snd {K : PySem.W.Frag} {Z : Hp} : ∀ (es : List (D × D)) {kvs : List (List Key × V)}, RepKs K Z kvs es → Reps K Z (kvs.map Prod.snd) (es.map Prod.snd)
  | [], _, h => by
    cases h
    exact .nil
  | (e, d0) :: es, _, h => by
    cases h with
    | cons r rs => exact .cons r (RepKs.snd es rs)
theorem de_listVals {e : Expr} {o : Opd} {p apos q pos : Pos} (hc : C.calm = true) (hg : Gl C "list") (hm : C.mg "list" = none) (ha : DO C X W e o)
    (hbase : attributeBase e "values" C.env (eval e C.env) = eval e C.env := by rfl) (hline : (apos.endLine == q.line) = true := by rfl)
    (hs2 : starEach [.Call (.Attribute e "values" apos) [] [] q] C.env = [(false, eval (.Call (.Attribute e "values" apos) [] [] q) C.env)] := by rfl) (hK : X.K = C.K := by rfl) :
    DE C X W (.Call (.Name "list" p) [.Call (.Attribute e "values" apos) [] [] q] [] pos) (una valsK o) :=
  PE.imp (pe_listVals hc hg hm ha (hbase := hbase) (hline := hline) (hs2 := hs2)) fun σ H Q h => una_run h fun x H1 hq => by
    obtain ⟨Z, d, v, hz, hx, hf, fr⟩ := hq
    unfold valsK at hf
    split at hf
    · rename_i es
      split at hf
      · rename_i hl
        cases hf
        obtain ⟨a, kvs, rfl, r1, q⟩ := hx
        have l := (RepKs.get es q).1
        have hl := Nat.le_of_ble_eq_true hl
        exact ⟨a, kvs, rfl, r1, fr.lst hz (RepKs.snd es q) (by rw [List.length_map, l, sizeLine_eq]; omega)⟩
      · cases hf
    · cases hf
@[simp] theorem valsK_d (es : List (D × D)) : valsK (.dict es) = if Nat.ble es.length 1000000 = true then some (.ol (es.map Prod.snd)) else none := rfl
@[simp] theorem x_iKy (i : Nat) (r : List Val) : iKy i r = (match r[i]? with
  | some (.od es) => if es.all keyOk = true then .ok (es.map Prod.fst) (r.set i (.fz (.dict es))) else .err
  | _ => .err) := rfl
end
end MS

/-! part 6l: an own class: names of an instance, its list, methods, a new one -/
namespace MS
open PySem PySem.Spec PyProof.Rows L2
/-- what the rules ask of the own class -/
structure ObCls (K : PySem.W.Frag) (dk : Addr → Prop) : Prop where
  cls : ∀ C, dk C → Cls K C
  no : ∀ C, dk C → ∀ f ∈ obL :: obN, NoAttr K C f
theorem obF_at {vf : List V} {p : Addr} {j : Nat} {f : Str} {x : V} (l : vf.length = 3) (hf : obN[j]? = some f) (hx : vf[j]? = some x) : (obF vf p).lookup f = some x := by
  match vf, l with
  | [a, b, c], _ =>
    match j with
    | 0 => cases hf; cases hx; rfl
    | 1 => cases hf; cases hx; rfl
    | 2 => cases hf; cases hx; rfl
    | j + 3 => cases hf
theorem obF_put {vf : List V} {p : Addr} {j : Nat} {f : Str} {y : V} (l : vf.length = 3) (hf : obN[j]? = some f) : putF f y (obF vf p) = obF (vf.set j y) p := by
  match vf, l with
  | [a, b, c], _ =>
    match j with
    | 0 => cases hf; rfl
    | 1 => cases hf; rfl
    | 2 => cases hf; rfl
    | j + 3 => cases hf
theorem obF_no {vf : List V} {p : Addr} {m : Str} (l : vf.length = 3) (h : (obL :: obN).contains m = false) : (obF vf p).lookup m = none := by
  have ne : ∀ f ∈ obL :: obN, (m == f) = false := fun f hf => by
    cases e : m == f with
    | false => rfl
    | true =>
      rw [beq_iff_eq.mp e] at h
      rw [List.contains_iff_mem.mpr hf] at h
      cases h
  match vf, l with
  | [a, b, c], _ =>
    show List.lookup m [("n", a), ("k", b), ("lot", c), ("past", V.ref p)] = none
    simp only [List.lookup, ne "n" (by simp [obN]), ne "k" (by simp [obN]), ne "lot" (by simp [obN]), ne "past" (by simp [obL])]
theorem obF_len {vf : List V} {p : Addr} (l : vf.length = 3) : (obF vf p).length < 1000 := by
  match vf, l with
  | [a, b, c], _ => show 4 < 1000; decide
/-! ### looks -/
def eAt (i j : Nat) : M Val := fun r => match r[i]? with
  | some (.ow (.ob fs _)) => match fs[j]? with
    | some d => .ok (.fz d) r
    | none => .err
  | _ => .err
section
variable {C : Cx} {X : Fx} {W : WX} {Z F H : Hp} {r : List Val} {σ : L2.St} {e : Expr} {pos : Pos}
/-- the thing at a name -/
theorem ob_at {i : Nat} {fs xs : List D} (g : G X Z F r σ H) (e : r[i]? = some (.ow (.ob fs xs))) : ∃ a C dx p vf vs, σ[i]? = some (some (.ref a)) ∧ X.ex.dk C ∧ H a = some (.ins C dx (obF vf p)) ∧ vf.length = 3 ∧ Reps X.K Z vf fs ∧ H p = some (.lst vs) ∧ vs.length ≤ sizeLine ∧ Reps X.K Z vs xs ∧ ft H a (.ob fs xs) = [a, p] ∧ a ≠ p ∧ (Z a = none ∧ F a = none) ∧ Z p = none ∧ F p = none := by
  obtain ⟨a, ea, ⟨C, dx, p, vf, vs, dc, h1, l, q1, h2, l2, q2⟩, zf⟩ := g.sl i _ e
  have hf : ft H a (.ob fs xs) = [a, p] := ob_ft h1 l
  rw [hf] at zf
  refine ⟨a, C, dx, p, vf, vs, ea, dc, h1, l, q1, h2, l2, q2, hf, fun z => ?_, zf a List.mem_cons_self, (zf p (by simp)).1, (zf p (by simp)).2⟩
  rw [z, h2] at h1
  cases h1
theorem de_at {i j : Nat} {x f : Str} {p : Pos} (T : ObCls C.K X.ex.dk) (hf : obN[j]? = some f) (hN : C.N[i]? = some x) (hv : Vis C.env.scope x) (hd : (x == ("__debug__" : Str)) = false := by decide) (hcd : (x == ("__classdict__" : Str)) = false := by decide) (hb : attributeBase (.Name x p) f C.env (eval (.Name x p) C.env) = eval (.Name x p) C.env := by rfl) :
    DE C X W (.Attribute (.Name x p) f pos) (eAt i j) := PE.imp (pe_fld (pe_var hN hv hd hcd) hb) fun σ H Q h => by
  obtain ⟨Z, F, r, g, h⟩ := h
  revert h
  unfold eAt
  cases e : r[i]? with
  | none => exact fun h => h.elim
  | some v =>
    cases v with
    | ow t =>
      cases t with
      | ob fs xs =>
        simp only
        cases e2 : fs[j]? with
        | none => exact fun h => h.elim
        | some d =>
          intro h
          obtain ⟨a, Cc, dx, p, vf, vs, ea, dc, h1, l, q1, _⟩ := ob_at g e
          obtain ⟨y, ey, ry⟩ := q1.get e2
          exact ⟨.ref a, ea, a, Cc, dx, _, y, rfl, h1, T.cls _ dc, T.no _ dc f (List.mem_cons_of_mem _ (List.mem_of_getElem? hf)), obF_at l hf ey, h Z H (Ext.refl _ _) g y ry⟩
      | kt ds => exact fun h => h.elim
      | nl xss => exact fun h => h.elim
    | _ => exact fun h => h.elim
/-- the list within is read as it stands -/
def tPast (K : PySem.W.Frag) (i : Nat) : TE := tFld K (tVar i) obL
theorem pe_past {i : Nat} {x : Str} {p : Pos} (hN : C.N[i]? = some x) (hv : Vis C.env.scope x) (hd : (x == ("__debug__" : Str)) = false := by decide) (hcd : (x == ("__classdict__" : Str)) = false := by decide) (hb : attributeBase (.Name x p) obL C.env (eval (.Name x p) C.env) = eval (.Name x p) C.env := by rfl) :
    PE C (.Attribute (.Name x p) "past" pos) (tPast C.K i) := pe_fld (pe_var hN hv hd hcd) hb
theorem past_run {i : Nat} {fs xs : List D} {Q : VK} (T : ObCls C.K X.ex.dk) (g : G X Z F r σ H) (e : r[i]? = some (.ow (.ob fs xs))) (h : ∀ p, (∃ a C dx vf, σ[i]? = some (some (.ref a)) ∧ H a = some (.ins C dx (obF vf p)) ∧ vf.length = 3) → Q (.ref p) H) : tPast C.K i σ H Q := by
  obtain ⟨a, Cc, dx, p, vf, vs, ea, dc, h1, l, q1, _⟩ := ob_at g e
  exact ⟨.ref a, ea, a, Cc, dx, _, .ref p, rfl, h1, T.cls _ dc, T.no _ dc _ List.mem_cons_self, obF_past l, h p ⟨a, Cc, dx, vf, ea, h1, l⟩⟩
/-- x.past == [] -/
def eNoP (i : Nat) : M Val := fun r => match r[i]? with
  | some (.ow (.ob _ xs)) => .ok (.fz (.bool xs.isEmpty)) r
  | _ => .err
theorem ob_same {a C C' dx dx' p p' : Addr} {vf vf' : List V} (h1 : H a = some (.ins C dx (obF vf p))) (h2 : H a = some (.ins C' dx' (obF vf' p'))) (l : vf.length = 3) (l' : vf'.length = 3) : p = p' := by
  rw [h1] at h2
  have := congrArg (fun o : Option HO => match o with | some (.ins _ _ fl) => fl.lookup obL | _ => none) h2
  have ep : (obF vf p).lookup obL = (obF vf' p').lookup obL := this
  rw [obF_past l, obF_past l'] at ep
  cases ep
  rfl
theorem past_eq {i : Nat} {Q : VK} (hK : X.K = C.K) (T : ObCls C.K X.ex.dk) (h : rdE X W (eNoP i) σ H Q) : tOp (rF C.K eq0D) (tPast C.K i) (tLst tNil) σ H Q := by
  obtain ⟨Z, F, r, g, h⟩ := h
  revert h
  unfold eNoP
  cases e : r[i]? with
  | none => exact fun h => h.elim
  | some v =>
    cases v with
    | ow t =>
      cases t with
      | ob fs xs =>
        intro h
        obtain ⟨a, Cc, dx, p, vf, vs, ea, dc, h1, l, q1, h2, l2, q2, _⟩ := ob_at g e
        refine past_run T g e fun p' ⟨a', C', dx', vf', ea', h1', l'⟩ => ?_
        rw [ea] at ea'
        cases ea'
        cases ob_same h1 h1' l l'
        refine ⟨Nat.zero_le _, fun b nb => ?_⟩
        have s : Same H (upd H b (.lst [])) := Same.upd nb
        have g2 := g.grow s (Grown.refl Z H) (g.zh.trans s)
        refine ⟨Z, .list xs, .list [], _, g2.zh, ⟨p, vs, rfl, .inl (.inl (s _ _ h2)), l2, by rw [← hK]; exact q2⟩, ⟨b, [], rfl, .inl (.inl upd_same), Nat.zero_le _, .nil⟩, rfl, ?_⟩
        rw [← hK]
        exact Fresh.of g2 fun Z3 H3 ex3 g3 x rx => h Z3 H3 ex3 g3 x rx
      | kt ds => exact fun h => h.elim
      | nl xss => exact fun h => h.elim
    | _ => exact fun h => h.elim
theorem de_noP {i : Nat} {x : Str} {p p2 p3 pos : Pos} (hu : C.A.units + 64 < cLine) (T : ObCls C.K X.ex.dk) (hN : C.N[i]? = some x) (hv : Vis C.env.scope x) (hd : (x == ("__debug__" : Str)) = false := by decide) (hcd : (x == ("__classdict__" : Str)) = false := by decide) (hb : attributeBase (.Name x p) obL C.env (eval (.Name x p) C.env) = eval (.Name x p) C.env := by rfl) (hm : behindInMarks .Eq (.List [] p3) = false := by first | exact nomark _ | rfl) (hK : X.K = C.K := by rfl) :
    DE C X W (.Compare (.Attribute (.Name x p) "past" p2) [.Eq] [.List [] p3] pos) (eNoP i) :=
  PE.imp (pe_cmpR (op_eq0 hu) (pe_past hN hv hd hcd hb) (pe_lst pa_nil) hm) fun _ _ _ h => past_eq hK T h
theorem dt_noP {i : Nat} {x : Str} {p p2 p3 pos : Pos} (hu : C.A.units + 64 < cLine) (T : ObCls C.K X.ex.dk) (hN : C.N[i]? = some x) (hv : Vis C.env.scope x) (hd : (x == ("__debug__" : Str)) = false := by decide) (hcd : (x == ("__classdict__" : Str)) = false := by decide) (hb : attributeBase (.Name x p) obL C.env (eval (.Name x p) C.env) = eval (.Name x p) C.env := by rfl) (hm : behindInMarks .Eq (.List [] p3) = false := by first | exact nomark _ | rfl) (hK : X.K = C.K := by rfl) :
    DT C X W (.Compare (.Attribute (.Name x p) "past" p2) [.Eq] [.List [] p3] pos) (asB (eNoP i)) :=
  PT.imp (pt_cmpR (op_eq0 hu) (pe_past hN hv hd hcd hb) (pe_lst pa_nil) hm) fun _ _ _ h => past_eq hK T (b_run h)
/-! ### x.f = v -/
def sAt (i j : Nat) (m : M Val) : M Fl := fun r => match frz m r with
  | .ok d r1 => match r1[i]? with
    | some (.ow (.ob fs xs)) => if j < fs.length then .ok .nx (r1.set i (.ow (.ob (fs.set j d) xs))) else .err
    | _ => .err
  | .exc c ds r' => .exc c ds r'
  | .err => .err
theorem ob_set {i : Nat} {a C0 dx p : Addr} {fs fs' xs : List D} {vf : List V} (g : G X Z F r σ H) (e : r[i]? = some (.ow (.ob fs xs))) (ea : σ[i]? = some (some (.ref a))) (h1 : H a = some (.ins C0 dx (obF vf p))) (l : vf.length = 3) (vf' : List V) (l' : vf'.length = 3) (q : Reps X.K Z vf' fs') : G X Z F (r.set i (.ow (.ob fs' xs))) σ (upd H a (.ins C0 dx (obF vf' p))) := by
  obtain ⟨a', C', dx', p', vf2, vs, ea', dc, h1', l2, q1, h2, l3, q2, hf, ne, za, zp⟩ := ob_at g e
  rw [ea] at ea'
  cases ea'
  cases ob_same h1 h1' l l2
  have eC : C0 = C' := by
    rw [h1] at h1'
    have := congrArg (fun o : Option HO => match o with | some (.ins c _ _) => c | _ => 0) h1'
    exact this
  subst eC
  have hn : (upd H a (.ins C0 dx (obF vf' p))) a = some (.ins C0 dx (obF vf' p)) := upd_same
  have hf2 : ft (upd H a (.ins C0 dx (obF vf' p))) a (.ob fs' xs) = [a, p] := ob_ft hn l'
  refine g.write e (by show a ∈ ft H a (.ob fs xs); rw [hf]; exact List.mem_cons_self) ea za.1 za.2 ⟨a, rfl, ⟨C0, dx, p, vf', vs, dc, hn, l', q, by rw [upd_ne (Ne.symm ne)]; exact h2, l3, q2⟩, fun b hb => ?_⟩ fun b hb => ?_
  · rw [hf2] at hb
    rcases List.mem_cons.mp hb with rfl | hb
    · exact za
    · rw [List.mem_singleton.mp hb]; exact zp
  · have hb : b ∈ ft (upd H a (.ins C0 dx (obF vf' p))) a (.ob fs' xs) := hb
    show b ∈ ft H a (.ob fs xs)
    rw [hf]
    rw [hf2] at hb
    exact hb
theorem ds_at {i j : Nat} {x f : Str} {e : Expr} {m : M Val} {p pos' : Pos} (T : ObCls C.K X.ex.dk) (hf : obN[j]? = some f) (hN : C.N[i]? = some x) (hv : Vis C.env.scope x) (he : DE C X W e m) (hd : (x == ("__debug__" : Str)) = false := by decide) (hcd : (x == ("__classdict__" : Str)) = false := by decide) (hs : swapsWith e (some (.Attribute (.Name x p) f pos')) pos.line C.env = pure false := by rfl) :
    DS C X W (.Assign [.Attribute (.Name x p) f pos'] e pos) (sAt i j m) := PS.imp (ps_fld (pe_var hN hv hd hcd) he hs) fun D σ H h => by
  obtain ⟨Z, F, r, g, h⟩ := h
  refine frz_run g ?_
  revert h
  unfold sAt
  cases frz m r with
  | exc c ds r' => exact fun h cls d Z' H' x ex g => h cls d σ Z' H' x ex g
  | err => exact fun h => h
  | ok d r1 =>
    simp only
    intro h Z1 H1 ex1 g1 y ry
    revert h
    cases e1 : r1[i]? with
    | none => exact fun h => h.elim
    | some v =>
      cases v with
      | ow t =>
        cases t with
        | ob fs xs =>
          simp only
          split
          · rename_i hj
            intro h
            obtain ⟨a, Cc, dx, p, vf, vs, ea, dc, h1, l, q1, _⟩ := ob_at g1 e1
            refine ⟨.ref a, ea, a, Cc, dx, _, rfl, h1, T.cls _ dc, T.no _ dc f (List.mem_cons_of_mem _ (List.mem_of_getElem? hf)), obF_len l, ?_⟩
            rw [obF_put l hf]
            exact h σ Z1 _ ex1 (ob_set g1 e1 ea h1 l (vf.set j y) (by rw [List.length_set]; exact l) (q1.set j ry))
          · exact fun h => h.elim
        | kt ds => exact fun h => h.elim
        | nl xss => exact fun h => h.elim
      | _ => exact fun h => h.elim
/-! ### x.past.append((x.n, x.k, x.lot)) -/
def ePush (i : Nat) : M Val := fun r => match r[i]? with
  | some (.ow (.ob fs xs)) => if xs.length < LINE then .ok (.fz .none) (r.set i (.ow (.ob fs (xs ++ [.tuple fs])))) else .err
  | _ => .err
theorem ob_lst {i : Nat} {a C0 dx p : Addr} {fs xs ys : List D} {vf us : List V} (g : G X Z F r σ H) (e : r[i]? = some (.ow (.ob fs xs))) (ea : σ[i]? = some (some (.ref a))) (h1 : H a = some (.ins C0 dx (obF vf p))) (l : vf.length = 3) (lu : us.length ≤ sizeLine) (q : Reps X.K Z us ys) : G X Z F (r.set i (.ow (.ob fs ys))) σ (upd H p (.lst us)) := by
  obtain ⟨a', C', dx', p', vf2, vs, ea', dc, h1', l2, q1, h2, l3, q2, hf, ne, za, zp⟩ := ob_at g e
  rw [ea] at ea'
  cases ea'
  cases ob_same h1 h1' l l2
  have hn : (upd H p (.lst us)) a = some (.ins C' dx' (obF vf2 p)) := by rw [upd_ne ne]; exact h1'
  have hf2 : ft (upd H p (.lst us)) a (.ob fs ys) = [a, p] := ob_ft hn l2
  refine g.write e (by show p ∈ ft H a (.ob fs xs); rw [hf]; simp) ea zp.1 zp.2 ⟨a, rfl, ⟨C', dx', p, vf2, us, dc, hn, l2, q1, upd_same, lu, q⟩, fun b hb => ?_⟩ fun b hb => ?_
  · rw [hf2] at hb
    rcases List.mem_cons.mp hb with rfl | hb
    · exact za
    · rw [List.mem_singleton.mp hb]; exact zp
  · have hb : b ∈ ft (upd H p (.lst us)) a (.ob fs ys) := hb
    show b ∈ ft H a (.ob fs xs)
    rw [hf]
    rw [hf2] at hb
    exact hb
theorem de_push {i : Nat} {x : Str} {k : Nat} {p0 p1 p2 p3 p4 p5 p6 p7 p8 p9 pos : Pos} (T : ObCls C.K X.ex.dk) (hN : C.N[i]? = some x) (hv : Vis C.env.scope x) (hd : (x == ("__debug__" : Str)) = false := by decide) (hcd : (x == ("__classdict__" : Str)) = false := by decide)
    (hb0 : attributeBase (.Name x p0) obL C.env (eval (.Name x p0) C.env) = eval (.Name x p0) C.env := by rfl)
    (hb1 : attributeBase (.Name x p3) "n" C.env (eval (.Name x p3) C.env) = eval (.Name x p3) C.env := by rfl)
    (hb2 : attributeBase (.Name x p5) "k" C.env (eval (.Name x p5) C.env) = eval (.Name x p5) C.env := by rfl)
    (hb3 : attributeBase (.Name x p7) "lot" C.env (eval (.Name x p7) C.env) = eval (.Name x p7) C.env := by rfl)
    (hbase : attributeBase (.Attribute (.Name x p0) "past" p1) "append" C.env (eval (.Attribute (.Name x p0) "past" p1) C.env) = eval (.Attribute (.Name x p0) "past" p1) C.env := by rfl)
    (hline : (p2.endLine == pos.line) = true := by rfl) (hK : X.K = C.K := by rfl) :
    DE C X W (.Call (.Attribute (.Attribute (.Name x p0) "past" p1) "append" p2) [.Tuple [.Attribute (.Name x p3) "n" p4, .Attribute (.Name x p5) "k" p6, .Attribute (.Name x p7) "lot" p8] k p9] [] pos) (ePush i) := by
  obtain ⟨r0, hm, hr0⟩ := mth_append (C := C)
  refine PE.imp (pe_bm PySem.F.plainAttrs_list PySem.F.slot_list_append PySem.F.type_list_append hm (pe_past hN hv hd hcd hb0) (pa_cons (pe_tup (pa_cons (pe_fld (f := "n") (pe_var hN hv hd hcd) hb1) (pa_cons (pe_fld (f := "k") (pe_var hN hv hd hcd) hb2) (pa_cons (pe_fld (f := "lot") (pe_var hN hv hd hcd) hb3) pa_nil rfl) rfl) rfl)) pa_nil rfl) hbase rfl hline rfl rfl) fun σ H Q h => ?_
  obtain ⟨Z, F, r, g, h⟩ := h
  revert h
  unfold ePush
  cases e : r[i]? with
  | none => exact fun h => h.elim
  | some v =>
    cases v with
    | ow t =>
      cases t with
      | ob fs xs =>
        simp only
        split
        · rename_i hlt
          intro h
          refine past_run T g e fun p' ⟨a, C', dx, vf, ea, h1, l⟩ => ?_
          obtain ⟨a', Cc, dx', p, vf', vs, ea', dc, h1', l', q1, h2, l2, q2, _⟩ := ob_at g e
          rw [ea] at ea'
          cases ea'
          cases ob_same h1 h1' l l'
          have hv3 : ∃ v0 v1 v2, vf' = [v0, v1, v2] := by
            match vf', l' with
            | [a, b, c], _ => exact ⟨a, b, c, rfl⟩
          obtain ⟨v0, v1, v2, rfl⟩ := hv3
          have at' : ∀ {j : Nat} {f : Str} {y : V}, obN[j]? = some f → [v0, v1, v2][j]? = some y → ∀ {Q : VK}, Q y H → tFld C.K (tVar i) f σ H Q := fun {j f y} hf hy Q q =>
            ⟨.ref a, ea, a, Cc, dx', _, y, rfl, h1', T.cls _ dc, T.no _ dc f (List.mem_cons_of_mem _ (List.mem_of_getElem? hf)), obF_at l' hf hy, q⟩
          refine ⟨.inl ⟨rfl, vs, .inl (.inl h2)⟩, ?_⟩
          unfold tCons tTup
          refine at' (j := 0) (f := "n") rfl rfl ?_
          refine at' (j := 1) (f := "k") rfl rfl ?_
          refine at' (j := 2) (f := "lot") rfl rfl ?_
          refine ⟨by rw [sizeLine_eq]; show 3 ≤ _; decide, fun b nb => ?_⟩
          have s : Same H (upd H b (.tup [v0, v1, v2])) := Same.upd nb
          have g2 := g.grow s (grown_new g.zh nb) (same_both g.zh nb)
          have zz : Same Z (upd Z b (.tup [v0, v1, v2])) := Same.upd (none_of g.zh nb)
          refine hr0 (upd Z b (.tup [v0, v1, v2])) _ p' vs [.ref b] xs [.tuple fs] (xs ++ [.tuple fs]) .none Q ?_ (s _ _ h2) l2 (by rw [← hK]; exact q2.up zz) (.one (.tup upd_same (by rw [sizeLine_eq]; show 3 ≤ _; decide) (by rw [← hK]; exact q1.up zz))) fun y us lu qu ry => ?_
          · show (if xs.length < LINE then some (PyData.none, xs ++ [.tuple fs]) else none) = _
            rw [if_pos hlt]
          · rw [← hK] at qu ry
            exact h _ _ ⟨zz, fun c o fc nt zc => by
              rw [upd_ne (fun q => by rw [q] at fc; have := g.fh _ _ fc; rw [nb] at this; cases this)]
              exact zc⟩ (ob_lst g2 e ea (s _ _ h1') l' lu qu) y ry
        · exact fun h => h.elim
      | kt ds => exact fun h => h.elim
      | nl xss => exact fun h => h.elim
    | _ => exact fun h => h.elim
end
end MS

/-! part 6m: x.n, x.k, x.lot = x.past.pop(); methods; a new instance -/
namespace MS
open PySem PySem.Spec PyProof.Rows L2
/-- o.f = .. as a target -/
def gFld (K : PySem.W.Frag) (ta : TE) (f : Str) : TG := fun v σ H Q => ta σ H fun x H1 => ∃ a C dx fs, x = .ref a ∧ H1 a = some (.ins C dx fs) ∧ Cls K C ∧ NoAttr K C f ∧ fs.length < 1000 ∧ Q σ (upd H1 a (.ins C dx (putF f v fs)))
section
variable {C : Cx} {X : Fx} {W : WX} {Z F H : Hp} {r : List Val} {σ : L2.St} {e : Expr} {pos : Pos}
theorem pg_fld {o : Expr} {f : Str} {ta : TE} (ho : PE C o ta) (ha : ∀ v, assign (.Attribute o f pos) C.env v = (do
      let ov ← holding [v] (eval o C.env)
      standAt pos.atName
      holding [v, ov] (setAttr ov f v)
      release [v, ov] []) := by intro _; rfl) : PG C (.Attribute o f pos) (gFld C.K ta f) := by
  refine ⟨fun pins s σ H v u Q I r h => ?_⟩
  rw [ha]
  refine wpAny_bind (wpAny_holding (thn (ho.run pins s σ H _ I h) fun ov s1 ⟨x, H1, I1, rx, a, Cc, dx, fs, ex, ea, c, n, l, q⟩ => ?_))
  subst ex
  obtain rfl : ov = Value.ref a := rx
  refine wpAny_bind (wpAny_standAt (wpAny_bind (wpAny_holding (setattr_ok I1 ea c n l r fun s3 I3 => ?_))))
  exact wpAny_release ⟨σ, _, I3, q⟩
def sPop3 (i : Nat) : M Fl := fun r => match r[i]? with
  | some (.ow (.ob fs xs)) => match xs[xs.length - 1]? with
    | some (.tuple [d0, d1, d2]) => .ok .nx (r.set i (.ow (.ob [d0, d1, d2] xs.dropLast)))
    | _ => .err
  | _ => .err
theorem ds_pop3 {i : Nat} {x : Str} {k : Nat} {p0 p1 p2 p3 p4 p5 p6 p7 p8 p9 p10 pos : Pos} (hc : C.calm = true) (T : ObCls C.K X.ex.dk) (hN : C.N[i]? = some x) (hv : Vis C.env.scope x) (hd : (x == ("__debug__" : Str)) = false := by decide) (hcd : (x == ("__classdict__" : Str)) = false := by decide)
    (hb0 : attributeBase (.Name x p0) obL C.env (eval (.Name x p0) C.env) = eval (.Name x p0) C.env := by rfl)
    (hbase : attributeBase (.Attribute (.Name x p0) "past" p1) "pop" C.env (eval (.Attribute (.Name x p0) "past" p1) C.env) = eval (.Attribute (.Name x p0) "past" p1) C.env := by rfl)
    (hline : (p2.endLine == p10.line) = true := by rfl) (hK : X.K = C.K := by rfl)
    (hs : swapsWithSole [.Tuple [.Attribute (.Name x p3) "n" p4, .Attribute (.Name x p5) "k" p6, .Attribute (.Name x p7) "lot" p8] k p9] (.Call (.Attribute (.Attribute (.Name x p0) "past" p1) "pop" p2) [] [] p10) pos.line C.env = pure false := by rfl)
    (hw : swappedStores [.Tuple [.Attribute (.Name x p3) "n" p4, .Attribute (.Name x p5) "k" p6, .Attribute (.Name x p7) "lot" p8] k p9] (.Call (.Attribute (.Attribute (.Name x p0) "past" p1) "pop" p2) [] [] p10) C.env = pure none := by rfl)
    (h1 : (assignEach [.Tuple [.Attribute (.Name x p3) "n" p4, .Attribute (.Name x p5) "k" p6, .Attribute (.Name x p7) "lot" p8] k p9] C.env).map (·.2) = [assign (.Tuple [.Attribute (.Name x p3) "n" p4, .Attribute (.Name x p5) "k" p6, .Attribute (.Name x p7) "lot" p8] k p9) C.env] := by rfl) :
    DS C X W (.Assign [.Tuple [.Attribute (.Name x p3) "n" p4, .Attribute (.Name x p5) "k" p6, .Attribute (.Name x p7) "lot" p8] k p9] (.Call (.Attribute (.Attribute (.Name x p0) "past" p1) "pop" p2) [] [] p10) pos) (sPop3 i) := by
  obtain ⟨r0, hm, hr0⟩ := mth_pop (C := C)
  refine PS.imp (ps_asg (pe_bm0 PySem.F.plainAttrs_list PySem.F.slot_list_pop PySem.F.type_list_pop hm (pe_past hN hv hd hcd hb0) hbase hline) (pg_tup hc (pgs_cons (pg_fld (f := "n") (pe_var hN hv hd hcd)) (pgs_cons (pg_fld (f := "k") (pe_var hN hv hd hcd)) (pgs_cons (pg_fld (f := "lot") (pe_var hN hv hd hcd)) pgs_nil rfl) rfl) rfl) rfl rfl) hs hw h1) fun D σ H h => ?_
  obtain ⟨Z, F, r, g, h⟩ := h
  revert h
  unfold sPop3
  cases e : r[i]? with
  | none => exact fun h => h.elim
  | some v =>
    cases v with
    | ow t =>
      cases t with
      | ob fs xs =>
        simp only
        split
        · rename_i d0 d1 d2 hlast
          intro h
          unfold tAsg tBM0
          refine past_run T g e fun p' ⟨a, C', dx, vf, ea, h1, l⟩ => ?_
          obtain ⟨a', Cc, dx', p, vf', vs, ea', dc, h1', l', q1, h2, l2, q2, _⟩ := ob_at g e
          rw [ea] at ea'
          cases ea'
          cases ob_same h1 h1' l l'
          refine ⟨.inl ⟨rfl, vs, .inl (.inl h2)⟩, ?_⟩
          refine hr0 Z H p' vs [] xs [] xs.dropLast (.tuple [d0, d1, d2]) _ ?_ h2 l2 (by rw [← hK]; exact q2) .nil fun y us lu qu ry => ?_
          · show (xs[xs.length - 1]?).map (fun d => (d, xs.dropLast)) = _
            rw [hlast]
            rfl
          · rw [← hK] at qu ry
            have g2 := ob_lst g e ea h1' l' lu qu
            have e2 : (r.set i (.ow (.ob fs xs.dropLast)))[i]? = some (.ow (.ob fs xs.dropLast)) := List.getElem?_set_self (List.getElem?_eq_some_iff.mp e).1
            obtain ⟨a2, C2, dx2, p2, vf2, vs2, ea2, dc2, h12, l3, _⟩ := ob_at g2 e2
            rw [ea] at ea2
            cases ea2
            have ne : a ≠ p' := fun z => by rw [z, h2] at h1'; cases h1'
            have h13 : (upd H p' (.lst us)) a = some (.ins Cc dx' (obF vf' p')) := by rw [upd_ne ne]; exact h1'
            cases ry with
            | tup s1 l4 q4 =>
              rename_i b ws
              cases q4 with
              | cons ra q4 =>
              cases q4 with
              | cons rb q4 =>
              cases q4 with
              | cons rc q4 =>
              cases q4
              rename_i va vb vc
              have q5 : Reps X.K Z [va, vb, vc] [d0, d1, d2] := .cons ra (.cons rb (.cons rc .nil))
              refine ⟨b, [va, vb, vc], rfl, SqT.at g2.zh s1, rfl, ?_⟩
              have step : ∀ {j : Nat} {f : Str} {y : V} {us' : List V} {H' : Hp}, obN[j]? = some f → us'.length = 3 → H' a = some (.ins Cc dx' (obF us' p')) → ∀ {Q : L2.St → Hp → Prop}, Q σ (upd H' a (.ins Cc dx' (obF (us'.set j y) p'))) → gFld C.K (tVar i) f y σ H' Q := fun {j f y us' H'} hf lz hz Q q => by
                refine ⟨.ref a, ea, a, Cc, dx', _, rfl, hz, T.cls _ dc, T.no _ dc f (List.mem_cons_of_mem _ (List.mem_of_getElem? hf)), obF_len lz, ?_⟩
                rw [obF_put lz hf]
                exact q
              have hv3 : ∃ v0 v1 v2, vf' = [v0, v1, v2] := by
                match vf', l' with
                | [a, b, c], _ => exact ⟨a, b, c, rfl⟩
              obtain ⟨v0, v1, v2, rfl⟩ := hv3
              refine ⟨va, _, rfl, step (j := 0) (f := "n") rfl rfl h13 ?_⟩
              refine ⟨vb, _, rfl, step (j := 1) (f := "k") (us' := [va, v1, v2]) rfl rfl upd_same ?_⟩
              refine ⟨vc, _, rfl, step (j := 2) (f := "lot") (us' := [va, vb, v2]) rfl rfl upd_same ?_⟩
              refine ⟨rfl, ?_⟩
              rw [upd_upd, upd_upd]
              have g3 := ob_set g2 e2 ea h13 rfl [va, vb, vc] rfl q5
              rw [List.set_set] at g3
              exact h σ Z _ (Ext.refl _ _) g3
        · exact fun h => h.elim
      | kt ds => exact fun h => h.elim
      | nl xss => exact fun h => h.elim
    | _ => exact fun h => h.elim
/-! ### methods -/
def MethM (P : Program) (w : World) (K : PySem.W.Frag) (mg : Str → Option Value) (base : Heap) (ex : Ex) (k : Nat) (m : Str) (ps : List Str) (g : Fn) : Prop :=
  ∃ (f : Addr) (fd : FuncData), FnM P w K mg base ex k f fd ps g ∧ (∀ Cc, ex.dk Cc → Cls K Cc ∧ Meth K Cc m f) ∧ Binds K fd ps []
/-- x.m(..), the thing at x handed over -/
def callM (g : Fn) (i : Nat) (ms : List (M Val)) : M Val := fun r => match r[i]? with
  | some (.ow (.ob _ _)) => callB g i ms r
  | _ => .err
theorem callM_run {gf : Fn} {np : Nat} {i : Nat} {ms : List (M Val)} {m : Str} {Q : VK} (hm : (obL :: obN).contains m = false) (hnp : ms.length + 1 = np) (h : rdE X W (callM gf i ms) σ H Q) :
    ∃ a Cc dx fl, σ[i]? = some (some (.ref a)) ∧ H a = some (.ins Cc dx fl) ∧ X.ex.dk Cc ∧ fl.lookup m = none ∧ rdVs X W ms σ H fun ys H2 => spF X.K X.ex np gf (.ref a :: ys) H2 Q (L2.WE W σ) := by
  obtain ⟨Z, F, r, g, h⟩ := h
  revert h
  unfold callM
  cases e : r[i]? with
  | none => exact fun h => h.elim
  | some v =>
    cases v with
    | ow t =>
      cases t with
      | ob fs xs =>
        intro h
        obtain ⟨a, Cc, dx, p, vf, vs, ea, dc, h1, l, _⟩ := ob_at g e
        refine ⟨a, Cc, dx, _, ea, h1, dc, obF_no l hm, ?_⟩
        obtain ⟨x, ex, q⟩ := callB_run (X := X) (W := W) (i := i) (by rcases Classical.em (i ∈ X.B) with z | z; exact .inr z; exact .inl z) hnp ⟨Z, F, r, g, h⟩
        rw [ea] at ex
        cases ex
        exact q
      | kt ds => exact fun h => h.elim
      | nl xss => exact fun h => h.elim
    | _ => exact fun h => h.elim
variable {k : Nat} {ps : List Str} {x m : Str} {gf : Fn} {es : List Expr} {p apos : Pos} {i : Nat}
theorem de_meth {pl : Sem Bool} {ms : List (M Val)} (d : MethM C.prog C.w C.K C.mg C.base X.ex k m ps gf) (hr : Room k C.A) (tk : L2N.Takes C W) (hN : C.N[i]? = some x) (hv : Vis C.env.scope x) (ha : DVs C X W (e :: es) ms) (hnp : ms.length + 1 = ps.length := by rfl) (hm : (obL :: obN).contains m = false := by decide +kernel)
    (hd : (x == ("__debug__" : Str)) = false := by decide) (hcd : (x == ("__classdict__" : Str)) = false := by decide)
    (hst : starEach (e :: es) C.env = (false, eval e C.env) :: starEach es C.env := by rfl) (hpl : (backTo pos (starEach es C.env)).any (·.1) = false := by rfl)
    (ht : eval (.Call (.Attribute (.Name x p) m apos) (e :: es) [] pos) C.env = (do
      let ov ← eval (.Name x p) C.env
      standAt apos.atName
      let (f, first) ← holding [ov] (getMethod ov m pl)
      callWith pos f first (backTo pos (starEach (e :: es) C.env)) (backToKw pos (keywordEach [] C.env))) := by rfl) (hK : X.K = C.K := by rfl) :
    DE C X W (.Call (.Attribute (.Name x p) m apos) (e :: es) [] pos) (callM gf i ms) := by
  obtain ⟨f, fd, F1, hc, bd⟩ := d
  refine ⟨fun pins s σ H Q I h => ?_⟩
  obtain ⟨a, Cc, dx, fl, ea, h1, dc, hn, q⟩ := callM_run hm hnp h
  obtain ⟨c, me⟩ := hc Cc dc
  refine PySem.W.methodCall_KW (pl := pl) (thn ((pe_var hN hv hd hcd (pos := p)).run pins s σ H (fun v H1 => v = .ref a ∧ H1 = H) I ⟨.ref a, ea, rfl, rfl⟩) fun u s1 ⟨v, H1, I1, rx, ev, eH⟩ => ?_) ht
  subst ev eH
  obtain rfl : u = Value.ref a := rx
  refine getmeth_ok I1 h1 c me hn ?_
  refine PySem.W.callWith_K (first := [.ref a]) (h₀ := C.base) I.ok.mod.kin me.kp (thn (ha.run pos pins s1 σ H1 _ I1 q) fun us s2 ⟨vs, H2, I2, r, q2⟩ => ⟨I2.kIn, ?_⟩) hst hpl
  rw [hK] at q2
  exact run_fnG (us := .ref a :: us) (vs := .ref a :: vs) F1 hr bd (L2N.passAt tk σ) I2 (.cons rfl r) q2
theorem de_meth0 {pl : Sem Bool} (d : MethM C.prog C.w C.K C.mg C.base X.ex k m ps gf) (hr : Room k C.A) (tk : L2N.Takes C W) (hN : C.N[i]? = some x) (hv : Vis C.env.scope x) (hnp : 1 = ps.length := by rfl) (hm : (obL :: obN).contains m = false := by decide +kernel)
    (hd : (x == ("__debug__" : Str)) = false := by decide) (hcd : (x == ("__classdict__" : Str)) = false := by decide)
    (ht : eval (.Call (.Attribute (.Name x p) m apos) [] [] pos) C.env = (do
      let ov ← eval (.Name x p) C.env
      standAt apos.atName
      let (f, first) ← holding [ov] (getMethod ov m pl)
      callWith pos f first (backTo pos (starEach [] C.env)) (backToKw pos (keywordEach [] C.env))) := by rfl) (hK : X.K = C.K := by rfl) :
    DE C X W (.Call (.Attribute (.Name x p) m apos) [] [] pos) (callM gf i []) := by
  obtain ⟨f, fd, F1, hc, bd⟩ := d
  refine ⟨fun pins s σ H Q I h => ?_⟩
  obtain ⟨a, Cc, dx, fl, ea, h1, dc, hn, q⟩ := callM_run (ms := []) hm (by rw [← hnp]; rfl : ([] : List (M Val)).length + 1 = ps.length) h
  obtain ⟨c, me⟩ := hc Cc dc
  refine PySem.W.methodCall_KW (pl := pl) (thn ((pe_var hN hv hd hcd (pos := p)).run pins s σ H (fun v H1 => v = .ref a ∧ H1 = H) I ⟨.ref a, ea, rfl, rfl⟩) fun u s1 ⟨v, H1, I1, rx, ev, eH⟩ => ?_) ht
  subst ev eH
  obtain rfl : u = Value.ref a := rx
  refine getmeth_ok I1 h1 c me hn ?_
  obtain ⟨Z, F, r, g, q2⟩ := q
  have q2 := q2 Z H1 (Ext.refl _ _) g [] .nil
  rw [hK] at q2
  exact PySem.W.callWith_K0 (first := [.ref a]) I1.kIn me.kp (run_fnG (us := [.ref a]) (vs := [.ref a]) F1 hr bd (L2N.passAt tk σ) I1 (.cons rfl .nil) q2)
/-! ### a new one -/
/-- self.n = 5, self.k = 2, self.lot = (), self.past = [] -/
def spD (K : PySem.W.Frag) : Sp := fun vs H Q _ => ∃ (a C dx : Addr), vs = [.ref a] ∧ H a = some (.ins C dx []) ∧ Cls K C ∧ (∀ f ∈ obL :: obN, NoAttr K C f) ∧
  ∀ t p, H t = none → H p = none → t ≠ p → t ≠ a → p ≠ a → ∀ H', H' a = some (.ins C dx (obF [.int 5, .int 2, .ref t] p)) → H' t = some (.tup []) → H' p = some (.lst []) → (∀ b, b ≠ a → b ≠ t → b ≠ p → H' b = H b) → Q .non H'
theorem fn_initD {P : Program} {w : World} {K : PySem.W.Frag} {mg : Str → Option Value} {base : Heap} {st : Stmt} {f : Addr} {fd : FuncData} {k j1 j2 j3 : Nat} {p1 p2 p3 p4 p5 p6 p7 p8 p9 p10 p11 p12 p13 p14 p15 p16 : Pos} (F : Fun K "__init__" "Desk.__init__" st f fd) (S : FnScope ["self"] ["self"] (defScope st))
    (hB : defBody st = [.Assign [.Attribute (.Name "self" p1) "n" p2] (.Constant (.int 5) j1 p3) p4, .Assign [.Attribute (.Name "self" p5) "k" p6] (.Constant (.int 2) j2 p7) p8, .Assign [.Attribute (.Name "self" p9) "lot" p10] (.Tuple [] j3 p11) p12, .Assign [.Attribute (.Name "self" p13) "past" p14] (.List [] p15) p16])
    (v1 : Vis (defScope st) "self")
    (hs1 : ∀ env : Env, swapsWith (.Constant (.int 5) j1 p3) (some (.Attribute (.Name "self" p1) "n" p2)) p4.line env = pure false := by intro _; rfl)
    (hs2 : ∀ env : Env, swapsWith (.Constant (.int 2) j2 p7) (some (.Attribute (.Name "self" p5) "k" p6)) p8.line env = pure false := by intro _; rfl)
    (hs3 : ∀ env : Env, swapsWith (.Tuple [] j3 p11) (some (.Attribute (.Name "self" p9) "lot" p10)) p12.line env = pure false := by intro _; rfl)
    (hs4 : ∀ env : Env, swapsWith (.List [] p15) (some (.Attribute (.Name "self" p13) "past" p14)) p16.line env = pure false := by intro _; rfl) :
    FnOk P w K mg base (L2N.CX P w) (k + 1) f fd ["self"] (spD K) := by
  obtain ⟨oc, od, kV, doc, pm, an, cdv, ct, osl, rfl, lk, hcd⟩ := F.ex
  refine fn_of lk hcd S (fun vs H Q E h => by obtain ⟨a, C, dx, rfl, _⟩ := h; rfl) fun A outer s H vs Q E hr hsp => ?_
  obtain ⟨a, C, dx, rfl, ha, c, no, q⟩ := hsp
  rw [hB]
  refine ⟨_, pss_cons (ps_fld (pe_var (i := 0) rfl v1) pe_int (hs1 _)) (pss_cons (ps_fld (pe_var (i := 0) rfl v1) pe_int (hs2 _)) (pss_cons (ps_fld (pe_var (i := 0) rfl v1) (pe_tup pa_nil) (hs3 _)) (pss_cons (ps_fld (pe_var (i := 0) rfl v1) (pe_lst pa_nil) (hs4 _)) pss_nil))), ?_⟩
  have n0 : ∀ {b : Addr} {H1 H : Hp} {o : HO}, (upd H a o) b = none → b ≠ a := fun {b H1 H o} h z => by rw [z, upd_same] at h; cases h
  refine ⟨.ref a, rfl, a, C, dx, _, rfl, ha, c, no _ (by simp [obN]), by show 0 < 1000; decide, ?_⟩
  refine ⟨.ref a, rfl, a, C, dx, _, rfl, upd_same, c, no _ (by simp [obN]), by show 1 < 1000; decide, ?_⟩
  refine ⟨Nat.zero_le _, fun t nt => ?_⟩
  have ta : t ≠ a := n0 (H1 := H) nt
  refine ⟨.ref a, rfl, a, C, dx, _, rfl, (upd_ne (Ne.symm ta)).trans upd_same, c, no _ (by simp [obN]), by show 2 < 1000; decide, ?_⟩
  refine ⟨Nat.zero_le _, fun p np => ?_⟩
  have pa : p ≠ a := n0 (H1 := H) np
  have pt : p ≠ t := fun z => by
    rw [z, upd_ne ta, upd_same] at np
    cases np
  refine ⟨.ref a, rfl, a, C, dx, _, rfl, (upd_ne (Ne.symm pa)).trans upd_same, c, no _ List.mem_cons_self, by show 3 < 1000; decide, ?_⟩
  have nt' : H t = none := by
    rw [upd_ne ta, upd_ne ta] at nt
    exact nt
  have np' : H p = none := by
    rw [upd_ne pa, upd_ne pt, upd_ne pa, upd_ne pa] at np
    exact np
  refine q t p nt' np' (Ne.symm pt) ta pa _ ?_ ?_ ?_ fun b h1 h2 h3 => ?_
  · rw [upd_same]; rfl
  · rw [upd_ne ta, upd_ne (Ne.symm pt), upd_ne ta, upd_same]
  · rw [upd_ne pa, upd_same]
  · rw [upd_ne h1, upd_ne h3, upd_ne h1, upd_ne h2, upd_ne h1, upd_ne h1]
/-- what is known of the own class, behind the top -/
structure ObNew (K : PySem.W.Frag) (mg : Str → Option Value) (ex : Ex) (x : Str) (st : Stmt) : Prop where
  at_ : ∃ (Cc fI : Addr) (fd : FuncData), mg x = some (.ref Cc) ∧ ex.dk Cc ∧ Mk K Cc fI ∧ Fun K "__init__" "Desk.__init__" st fI fd ∧ Binds K fd ["self"] []
def NewM (P : Program) (w : World) (K : PySem.W.Frag) (mg : Str → Option Value) (base : Heap) (ex : Ex) (k : Nat) (x : Str) : Prop :=
  ∃ (Cc fI : Addr) (fd : FuncData), mg x = some (.ref Cc) ∧ ex.dk Cc ∧ Mk K Cc fI ∧ FnOk P w K mg base (L2N.CX P w) k fI fd ["self"] (spD K) ∧ Binds K fd ["self"] []
/-- a method, as it stands behind the top -/
structure MethT (K : PySem.W.Frag) (ex : Ex) (m qual : Str) (st : Stmt) (ps : List Str) : Prop where
  at_ : ∃ (f : Addr) (fd : FuncData), Fun K m qual st f fd ∧ Binds K fd ps [] ∧ ∀ Cc, ex.dk Cc → Cls K Cc ∧ Meth K Cc m f
theorem MethM.of {P : Program} {w : World} {K : PySem.W.Frag} {mg : Str → Option Value} {base : Heap} {ex : Ex} {k : Nat} {m qual : Str} {st : Stmt} {ps : List Str} {g : Fn} (t : MethT K ex m qual st ps) (h : ∀ f fd, Fun K m qual st f fd → FnM P w K mg base ex k f fd ps g) : MethM P w K mg base ex k m ps g := by
  obtain ⟨f, fd, t1, t2, t3⟩ := t.at_
  exact ⟨f, fd, h f fd t1, t3, t2⟩
theorem passF : Passes (L2N.CX C.prog C.w) C (fun _ _ _ => False) := fun pins σ H s e s' I h => by
  obtain ⟨_, _, _, _, _, _, _, _, _, _, _, _, z⟩ := h
  exact z.elim
def eNewD : M Val := fun r => .ok (.ow (.ob [.int 5, .int 2, .tuple []] [])) r
theorem de_new (d : NewM C.prog C.w C.K C.mg C.base X.ex k x) (T : ObCls C.K X.ex.dk) (hr : Room (k + 1) C.A) (hg : Gl C x) (hdb : (x == ("__debug__" : Str)) = false := by decide) (hK : X.K = C.K := by rfl) : DE C X W (.Call (.Name x p) [] [] pos) eNewD := by
  obtain ⟨Cc, fI, fd, hm, dc, mk, F1, bd⟩ := d
  refine PE.imp (pe_make0 mk F1 hr.r hg hm bd (dvs := []) .nil passF hdb) fun σ H Q h => ?_
  obtain ⟨Z, F, r, g, h⟩ := h
  intro a dx na nd ne
  refine ⟨a, Cc, dx, rfl, upd_same, T.cls _ dc, T.no _ dc, fun t p nt np tp ta pa H' h1 h2 h3 h4 => ⟨rfl, ?_⟩⟩
  have nt0 : H t = none := by
    by_cases z : t = dx
    · rw [z]; exact nd
    · rw [upd_ne ta, upd_ne z] at nt; exact nt
  have np0 : H p = none := by
    by_cases z : p = dx
    · rw [z]; exact nd
    · rw [upd_ne pa, upd_ne z] at np; exact np
  have s : Same H H' := fun b o e => by
    have b1 : b ≠ a := ne_of_none e na
    have b2 : b ≠ t := ne_of_none e nt0
    have b3 : b ≠ p := ne_of_none e np0
    have b4 : b ≠ dx := ne_of_none e nd
    rw [h4 b b1 b2 b3, upd_ne b1, upd_ne b4]
    exact e
  have zt : Z t = none := none_of g.zh nt0
  have gz : Grown Z (upd Z t (.tup [])) H := ⟨Same.upd zt, fun b u e _ n => by rw [upd_ne (ne_of_none e nt0)]; exact n⟩
  have zh : Same (upd Z t (.tup [])) H' := fun b o e => by
    by_cases hb : b = t
    · subst hb; rw [upd_same] at e; cases e; exact h2
    · rw [upd_ne hb] at e; exact s _ _ (g.zh _ _ e)
  have g2 := g.grow s gz zh
  have hf : ft H' a (.ob [.int 5, .int 2, .tuple []] []) = [a, p] := ob_ft h1 rfl
  refine h _ _ (gz.ext g.fh) g2 (.ref a) ⟨a, rfl, ⟨Cc, dx, p, [.int 5, .int 2, .ref t], [], dc, h1, rfl, .cons (.int 5) (.cons (.int 2) (.cons (.tup upd_same (Nat.zero_le _) .nil) .nil)), h3, Nat.zero_le _, .nil⟩, fun b hb => ?_⟩
  rw [hf] at hb
  have bn : H b = none ∧ b ≠ t := by
    rcases List.mem_cons.mp hb with rfl | hb
    · exact ⟨na, Ne.symm ta⟩
    · rw [List.mem_singleton.mp hb]; exact ⟨np0, Ne.symm tp⟩
  exact ⟨by rw [upd_ne bn.2]; exact none_of g.zh bn.1, none_of g.fh bn.1, (g.out (.inl bn.1)).grow g s gz⟩
/-! a list of texts that the top has -/
def GlS (K : PySem.W.Frag) (mg : Str → Option Value) (x : Str) (ss : List Str) : Prop :=
  ∃ (a : Addr) (its : List Value) (n : Nat), mg x = some (.ref a) ∧ K.lookup a = some { cls := .type "list", dict := none, data := .seq its.toArray n, slots := #[] } ∧ its.length ≤ sizeLine ∧ Vals (ss.map V.str) its
theorem reps_str {K : PySem.W.Frag} : ∀ ys : List Str, Reps K Z (ys.map V.str) (ys.map .str)
  | [] => .nil
  | y :: ys => .cons (.str y) (reps_str ys)
theorem de_glistS {ss : List Str} (T : GlS C.K C.mg x ss) (hg : Gl C x) (hd : (x == ("__debug__" : Str)) = false := by decide) (hK : X.K = C.K := by rfl) : DE C X W (.Name x p) (eK (.list (ss.map .str))) := by
  obtain ⟨a, its, n, hm, lk, hl, rv⟩ := T
  refine PE.imp (pe_glob (v := .ref a) hg hm rfl hd) fun _ _ _ h => k_run (fun Z => ?_) h
  rw [hK]
  exact .lst (.inr ⟨its, n, lk, hl, rv⟩) (by rw [rv.length]; exact hl) (reps_str ss)
theorem de_glist {ss : List Str} {ds : List MS.D} (T : GlS C.K C.mg x ss) (hg : Gl C x) (hs : ds = ss.map PyData.str := by rfl) (hd : (x == ("__debug__" : Str)) = false := by decide) (hK : X.K = C.K := by rfl) : DE C X W (.Name x p) (eK (.list ds)) := by
  rw [hs]
  exact de_glistS T hg hd hK
/-! a call without arguments -/
theorem pe_callG0 {CX : CXT} {f : Addr} {fd : FuncData} {sp : Sp} {E : L2.St → XK} (F : FnG C.prog C.w C.K C.mg C.base CX k f fd ps sp) (hr : Room k C.A) (hg : Gl C x) (hm : C.mg x = some (.ref f)) (hk : PySem.W.keepIn C.K (.ref f) = true) (hb : Binds C.K fd ps []) (hx : ∀ σ, PassesAt CX C σ (E σ)) (hdb : (x == ("__debug__" : Str)) = false := by decide) :
    PE C (.Call (.Name x p) [] [] pos) (fun σ H Q => sp [] H Q (E σ)) :=
  ⟨fun pins s σ H Q I h => wpAny_Call_Name_kw (ld_glob I hg hm (PySem.W.callWith_K0 I.kIn hk (run_fnG (us := []) (vs := []) F hr hb (hx σ) I .nil h)) hdb)⟩
theorem de_call0 (d : DefM C.prog C.w C.K C.mg C.base X.ex k x ps gf) (hr : Room k C.A) (hg : Gl C x) (tk : L2N.Takes C W) (hnp : ps.length = 0 := by rfl) (hdb : (x == ("__debug__" : Str)) = false := by decide) (hK : X.K = C.K := by rfl) : DE C X W (.Call (.Name x p) [] [] pos) (callV gf []) := by
  obtain ⟨f, fd, h1, h2, h3, h4⟩ := d
  refine PE.imp (pe_callG0 h1 hr hg h2 h3 h4 (fun σ => L2N.passAt tk σ) hdb) fun σ H Q h => ?_
  have q := callV_run (X := X) (W := W) (ms := []) (np := ps.length) (by rw [hnp]; rfl) h
  obtain ⟨Z, F, r, g, q⟩ := q
  rw [← hK]
  exact q Z H (Ext.refl _ _) g [] .nil
end
end MS

/-! part 6n: a or b of texts, as a value; x, y = a new thing, .. -/
namespace MS
open PySem PySem.Spec PyProof.Rows L2
def eOrS (m n : M Val) : M Val := fun r => match frz m r with
  | .ok (.str z) r1 => if z.length ≤ 1000000 then (if ((z.length : Int) != 0) = true then .ok (.fz (.str z)) r1 else n r1) else .err
  | .ok _ _ => .err
  | .exc c ds r' => .exc c ds r'
  | .err => .err
section
variable {C : Cx} {X : Fx} {W : WX} {a b : Expr} {pos : Pos}
theorem de_orS {m n : M Val} {rest : List Expr} (ha : DE C X W a m) (hb : DE C X W (.BoolOp .Or (b :: rest) pos) n) (hK : X.K = C.K := by rfl) : DE C X W (.BoolOp .Or (a :: b :: rest) pos) (eOrS m n) :=
  PE.imp (pe_orT ha hb) fun σ H Q h => by
    obtain ⟨Z, F, r, g, h⟩ := h
    show rdE X W m σ H fun x H1 => ∃ k, TruV C.K x H1 k ∧ if k = true then Q x H1 else rdE X W n σ H1 Q
    refine frz_run g ?_
    revert h
    unfold eOrS
    cases frz m r with
    | exc c ds r' => exact fun h => h
    | err => exact fun h => h
    | ok d r1 =>
      cases d with
      | str z =>
        simp only
        by_cases hl : z.length ≤ 1000000
        · rw [if_pos hl]
          intro h Z1 H1 ex1 g1 x hx
          cases hx
          refine ⟨((z.length : Int) != 0), ⟨Nat.le_trans hl (by decide), rfl⟩, ?_⟩
          cases hz : ((z.length : Int) != 0) with
          | true =>
            rw [hz, if_pos rfl] at h
            rw [if_pos rfl]
            exact (h.ext ex1) Z1 H1 (Ext.refl Z1 F) g1 (.str z) (.str z)
          | false =>
            rw [hz, if_neg Bool.false_ne_true] at h
            rw [if_neg Bool.false_ne_true]
            exact ⟨Z1, F, r1, g1, h.ext ex1⟩
        · rw [if_neg hl]
          exact fun h => h.elim
      | _ => exact fun h => h.elim
end
section
variable {C : Cx} {X : Fx} {W : WX} {Z F F' H : Hp} {r : List Val} {σ : L2.St} {a b : Expr} {pos p : Pos}
/-- a new thing is held while more is reckoned -/
theorem hold_vals {v : Val} {y : V} {ms : List (M Val)} {Q : List V → Hp → Prop} (g1 : G X Z F r σ H) (rv : RV X Z F H r σ y v)
    (h : After X W (vals ms r) Z F σ fun ds r' Z' H' => ∀ ys, RV X Z' F H' r' σ y v → Reps X.K Z' ys ds → Q ys H') : rdVs X W ms σ H Q := by
  obtain ⟨sl, ou⟩ := rv.slot
  generalize hA : foot H (some (some y)) v = A at *
  have F01 : Same F (withA F H A) := fun b o e => by
    have : b ∉ A := fun q => by
      have := (sl.at b (by rw [hA]; exact q)).2.2
      rw [e] at this; cases this
    rw [withA_out this]; exact e
  have g1' : G X Z (withA F H A) r σ H := (g1.moved g1.zh (fun b o e => by
    by_cases q : b ∈ A
    · rw [withA_in q] at e; exact e
    · rw [withA_out q] at e; exact g1.fh b o e) (Same.refl _) (g1.hh.trans F01) (fun i u e b hb => ⟨rfl, ((g1.sl i u e).at b hb).2.1, by
      rw [withA_out fun q => ou b q i u e hb]
      exact ((g1.sl i u e).at b hb).2.2⟩) g1.nz (fun b hb => by
        by_cases q : b ∈ A
        · obtain ⟨⟨o, h1, nt⟩, _⟩ := sl.at b (by rw [hA]; exact q)
          exact absurd hb (tab_ne g1.tb h1 nt.not)
        · rw [withA_out q]
          exact g1.nf b hb) g1.tb).1
  refine ⟨Z, _, r, g1', ?_⟩
  revert h
  cases ev : vals ms r with
  | exc c ds r' => exact fun h cls d Z' H' x ex g => h cls d Z' H' x (ex.less F01) (g.less F01 g1.hh)
  | err => exact fun h => h
  | ok ds r2 =>
    intro h Z2 H2 ex2 g2' ys rs
    have keep : ∀ b ∈ A, H2 b = H b ∧ Z2 b = none := fun b q => by
      obtain ⟨⟨o, h1, nt⟩, z, _⟩ := sl.at b (by rw [hA]; exact q)
      have w : withA F H A b = some o := (withA_in q).trans h1
      exact ⟨(g2'.fh b o w).trans h1.symm, ex2.2 b o w (OwnO.nt nt) z⟩
    obtain ⟨sl2, e2⟩ := sl.congr (H' := H2) (F' := F) (fun b hb => (keep b (by rw [← hA]; exact hb)).1) ex2.1 fun b hb => ⟨(keep b (by rw [← hA]; exact hb)).2, (sl.at b hb).2.2⟩
    have g2 := g2'.less F01 g1.hh
    have hA2 : ∀ b ∈ foot H2 (some (some y)) v, F b = none ∧ Out H2 r2 σ b := fun b hb => by
      rw [e2, hA] at hb
      obtain ⟨⟨o, h1, nt⟩, z, f⟩ := sl.at b (by rw [hA]; exact hb)
      exact ⟨f, g2'.out (.inr (.inr (by rw [withA_in hb, h1]; exact fun z => nomatch z)))⟩
    exact h Z2 H2 (ex2.less F01) g2 ys (RV.of_slot sl2 rv.ne_un fun b hb => (hA2 b hb).2) rs
theorem hold_val {v : Val} {y : V} {n : M Val} {Q : VK} (g1 : G X Z F r σ H) (rv : RV X Z F H r σ y v)
    (h : After X W (n r) Z F σ fun w r' Z' H' => ∀ y2, RV X Z' F H' r' σ y v → RV X Z' F H' r' σ y2 w → (∀ b ∈ foot H' (some (some y2)) w, b ∉ foot H' (some (some y)) v) → Q y2 H') : rdE X W n σ H Q := by
  obtain ⟨sl, ou⟩ := rv.slot
  generalize hA : foot H (some (some y)) v = A at *
  have F01 : Same F (withA F H A) := fun b o e => by
    have : b ∉ A := fun q => by
      have := (sl.at b (by rw [hA]; exact q)).2.2
      rw [e] at this; cases this
    rw [withA_out this]; exact e
  have g1' : G X Z (withA F H A) r σ H := (g1.moved g1.zh (fun b o e => by
    by_cases q : b ∈ A
    · rw [withA_in q] at e; exact e
    · rw [withA_out q] at e; exact g1.fh b o e) (Same.refl _) (g1.hh.trans F01) (fun i u e b hb => ⟨rfl, ((g1.sl i u e).at b hb).2.1, by
      rw [withA_out fun q => ou b q i u e hb]
      exact ((g1.sl i u e).at b hb).2.2⟩) g1.nz (fun b hb => by
        by_cases q : b ∈ A
        · obtain ⟨⟨o, h1, nt⟩, _⟩ := sl.at b (by rw [hA]; exact q)
          exact absurd hb (tab_ne g1.tb h1 nt.not)
        · rw [withA_out q]
          exact g1.nf b hb) g1.tb).1
  refine ⟨Z, _, r, g1', ?_⟩
  revert h
  cases ev : n r with
  | exc c ds r' => exact fun h cls d Z' H' x ex g => h cls d Z' H' x (ex.less F01) (g.less F01 g1.hh)
  | err => exact fun h => h
  | ok w r2 =>
    intro h Z2 H2 ex2 g2' y2 rw2
    have keep : ∀ b ∈ A, H2 b = H b ∧ Z2 b = none := fun b q => by
      obtain ⟨⟨o, h1, nt⟩, z, _⟩ := sl.at b (by rw [hA]; exact q)
      have w : withA F H A b = some o := (withA_in q).trans h1
      exact ⟨(g2'.fh b o w).trans h1.symm, ex2.2 b o w (OwnO.nt nt) z⟩
    obtain ⟨sl2, e2⟩ := sl.congr (H' := H2) (F' := F) (fun b hb => (keep b (by rw [← hA]; exact hb)).1) ex2.1 fun b hb => ⟨(keep b (by rw [← hA]; exact hb)).2, (sl.at b hb).2.2⟩
    have g2 := g2'.less F01 g1.hh
    have inA : ∀ b ∈ A, withA F H A b ≠ none := fun b hb => by
      obtain ⟨⟨o, h1, nt⟩, z, f⟩ := sl.at b (by rw [hA]; exact hb)
      rw [withA_in hb, h1]
      exact fun z => nomatch z
    have hA2 : ∀ b ∈ foot H2 (some (some y)) v, F b = none ∧ Out H2 r2 σ b := fun b hb => by
      rw [e2, hA] at hb
      obtain ⟨⟨o, h1, nt⟩, z, f⟩ := sl.at b (by rw [hA]; exact hb)
      exact ⟨f, g2'.out (.inr (.inr (inA b hb)))⟩
    obtain ⟨slw, ow⟩ := rw2.slot
    have dj : ∀ b ∈ foot H2 (some (some y2)) w, b ∉ A := fun b hb q => inA b q (slw.at b hb).2.2
    have slw2 := (slw.congr (H' := H2) (F' := F) (fun b hb => rfl) (Same.refl _) fun b hb => ⟨(slw.at b hb).2.1, by
      have := (slw.at b hb).2.2
      rw [withA_out (dj b hb)] at this
      exact this⟩).1
    exact h Z2 H2 (ex2.less F01) g2 y2 (RV.of_slot sl2 rv.ne_un fun b hb => (hA2 b hb).2) (RV.of_slot slw2 rw2.ne_un ow) fun b hb => by
      rw [e2, hA]
      exact dj b hb
theorem RV.stored {i : Nat} {v w : Val} {y y2 : V} (g : G X Z F r σ H) (rw2 : RV X Z F H r σ y2 w) (dj : ∀ b ∈ foot H (some (some y2)) w, b ∉ foot H (some (some y)) v) : RV X Z F H (r.set i v) (σ.set i (some y)) y2 w := by
  obtain ⟨sl, ou⟩ := rw2.slot
  refine RV.of_slot sl rw2.ne_un fun b hb j u e m => ?_
  rcases set_get e with ⟨rfl, hl, rfl⟩ | ⟨hj, e⟩
  · rw [List.getElem?_set_self (by rw [← g.len]; exact hl)] at m
    exact dj b hb m
  · rw [List.getElem?_set_ne hj] at m
    exact ou b hb j u e m
def parO2 (i j : Nat) (v : Val) (n : M Val) : M Fl := M.bind n fun w => fun r => match w with
  | .ol xs => .ok .nx ((r.set i v).set j (.ol xs))
  | _ => .err
def sParO2 (i j : Nat) (m n : M Val) : M Fl := M.bind m fun v => match v with
  | .ow t => parO2 i j (.ow t) n
  | _ => fun _ => .err
theorem ds_parO2 {i j : Nat} {x y : Str} {m n : M Val} {px py pt : Pos} {kt k2 : Nat} {pt2 : Pos} (hc : C.calm = true) (hN : C.N.Nodup) (hi : C.N[i]? = some x) (hj : C.N[j]? = some y) (hij : i ≠ j)
    (hx : C.env.scope.names.lookup x = some .local) (hy : C.env.scope.names.lookup y = some .local) (ha : DE C X W a m) (hb : DE C X W b n)
    (hw : swappedStores [.Tuple [.Name x px, .Name y py] kt pt] (.Tuple [a, b] k2 pt2) C.env = pure (some [x, y])) (hBi : i ∉ X.B := by exact of_decide_eq_true rfl) (hBj : j ∉ X.B := by exact of_decide_eq_true rfl)
    (hs : swapsWithSole [.Tuple [.Name x px, .Name y py] kt pt] (.Tuple [a, b] k2 pt2) pos.line C.env = pure false := by rfl)
    (he : starEach (a :: [b]) C.env = (false, eval a C.env) :: starEach [b] C.env := by rfl)
    (he2 : starEach (b :: []) C.env = (false, eval b C.env) :: starEach [] C.env := by rfl) :
    DS C X W (.Assign [.Tuple [.Name x px, .Name y py] kt pt] (.Tuple [a, b] k2 pt2) pos) (sParO2 i j m n) :=
  PS.imp (ps_par hc hN hi hj hij hx hy (pa_cons ha (pa_cons hb pa_nil he2) he) hw hs) fun D σ H h => by
    obtain ⟨Z, F, r, g, h⟩ := h
    refine ⟨Z, F, r, g, (bindS_run h).imp fun v r1 Z1 H1 ex1 g1 h1 y rv => ?_⟩
    cases v with
    | ow t =>
      refine hold_val g1 rv ((bindS_run (σ := σ) h1).imp fun w r2 Z2 H2 ex2 g2 h2 y2 rv2 rw2 dj => ?_)
      cases w with
      | ol xs =>
        have g3 := g2.store (i := i) hBi rv2
        have g4 := g3.store (i := j) hBj (RV.stored g2 rw2 dj)
        exact ⟨_, _, rfl, h2 _ Z2 H2 (Ext.refl _ _) g4⟩
      | _ => exact h2.elim
    | _ => exact h1.elim
def parO1 (i j : Nat) (v : Val) (ms : List (M Val)) : M Fl := M.bind (vals ms) fun ds => fun r => match ds with
  | [d] => .ok .nx ((r.set i v).set j (.fz d))
  | _ => .err
def sParO (i j : Nat) (m : M Val) (ms : List (M Val)) : M Fl := M.bind m fun v => match v with
  | .ow t => parO1 i j (.ow t) ms
  | _ => fun _ => .err
theorem ds_parO {i j : Nat} {x y : Str} {m : M Val} {ms : List (M Val)} {px py pt : Pos} {kt k2 : Nat} {pt2 : Pos} (hc : C.calm = true) (hN : C.N.Nodup) (hi : C.N[i]? = some x) (hj : C.N[j]? = some y) (hij : i ≠ j)
    (hx : C.env.scope.names.lookup x = some .local) (hy : C.env.scope.names.lookup y = some .local) (ha : DE C X W a m) (hb : DVs C X W [b] ms)
    (hw : swappedStores [.Tuple [.Name x px, .Name y py] kt pt] (.Tuple [a, b] k2 pt2) C.env = pure (some [x, y])) (hBi : i ∉ X.B := by exact of_decide_eq_true rfl) (hBj : j ∉ X.B := by exact of_decide_eq_true rfl)
    (hs : swapsWithSole [.Tuple [.Name x px, .Name y py] kt pt] (.Tuple [a, b] k2 pt2) pos.line C.env = pure false := by rfl)
    (he : starEach (a :: [b]) C.env = (false, eval a C.env) :: starEach [b] C.env := by rfl) :
    DS C X W (.Assign [.Tuple [.Name x px, .Name y py] kt pt] (.Tuple [a, b] k2 pt2) pos) (sParO i j m ms) :=
  PS.imp (ps_par hc hN hi hj hij hx hy (pa_cons ha hb he) hw hs) fun D σ H h => by
    obtain ⟨Z, F, r, g, h⟩ := h
    refine ⟨Z, F, r, g, (bindS_run h).imp fun v r1 Z1 H1 ex1 g1 h1 y rv => ?_⟩
    cases v with
    | ow t =>
      refine hold_vals g1 rv ((bindS_run (σ := σ) h1).imp fun ds r2 Z2 H2 ex2 g2 h2 ys rv2 rs => ?_)
      revert h2
      split
      · rename_i d
        intro h2
        cases rs with
        | cons q1 rs =>
          cases rs
          have g3 := g2.store (i := i) hBi rv2
          have g4 := g3.store (i := j) hBj (RV.fz q1)
          exact ⟨_, _, rfl, h2 _ Z2 H2 (Ext.refl _ _) g4⟩
      · exact fun h2 => h2.elim
    | _ => exact h1.elim
end
end MS

/-! part 6o: a call that hands over two own things of two names -/
namespace MS
open PySem PySem.Spec PyProof.Rows L2
def callB2r (g : Fn) (i j : Nat) (v w : Val) (ds : List D) : M Val := fun r => match g (v :: w :: ds.map .fz) with
  | .ok u outs => .ok u ((r.set i (outs.getD 0 .un)).set j (outs.getD 1 .un))
  | .exc c es outs => .exc c es ((r.set i (outs.getD 0 .un)).set j (outs.getD 1 .un))
  | .err => .err
def own2 (r : List Val) (i j : Nat) : Option (Val × Val) := match r[i]?, r[j]? with
  | some v, some w => if v.own && w.own then some (v, w) else none
  | _, _ => none
def callB2 (g : Fn) (i j : Nat) (ms : List (M Val)) : M Val := fun r => match own2 r i j with
  | some _ => M.bind (vals ms) (fun ds => fun r => match own2 r i j with
    | some (v, w) => callB2r g i j v w ds r
    | none => .err) r
  | none => .err
section
variable {C : Cx} {X : Fx} {W : WX} {Z F H : Hp} {r : List Val} {σ : L2.St}
theorem own2_eq {i j : Nat} {p : Val × Val} (h : own2 r i j = some p) : r[i]? = some p.1 ∧ r[j]? = some p.2 ∧ p.1.own = true ∧ p.2.own = true := by
  unfold own2 at h
  cases e1 : r[i]? with
  | none => rw [e1] at h; cases h
  | some v =>
    cases e2 : r[j]? with
    | none => rw [e1, e2] at h; cases h
    | some w =>
      rw [e1, e2] at h
      simp only at h
      split at h
      · rename_i q
        rw [Bool.and_eq_true] at q
        cases h
        exact ⟨rfl, rfl, q.1, q.2⟩
      · cases h
theorem call_inA2 {xs : List V} {ds : List D} {x y : V} {v w : Val} (g : G X Z F r σ H) (rs : Reps X.K Z xs ds) (s1 : SlotR X.K X.ex.dk Z F H (some (some x)) v) (s2 : SlotR X.K X.ex.dk Z F H (some (some y)) w) (dj : ∀ b ∈ foot H (some (some x)) v, b ∉ foot H (some (some y)) w) :
    G (X0 X.K X.ex) Z (offA X.ex.tb H (foot H (some (some x)) v ++ foot H (some (some y)) w)) (v :: w :: ds.map .fz) ((x :: y :: xs).map some) H := by
  have fz : ∀ {i : Nat} {u : Val} {p : Addr}, (ds.map Val.fz)[i]? = some u → p ∉ foot H (xs.map some)[i]? u := fun {i u p} e q => by
    obtain ⟨d, y, rfl, _⟩ := reps_map rs i u e
    rw [foot_fz] at q; cases q
  refine ⟨g.zh, offA_same, by simp [rs.length], fun j u e => ?_, fun i j u u' p e1 e2 q1 q2 => ?_, fun i hi => absurd hi (by show ¬ i ∈ ([] : List Nat); simp), no_hx _, g.nz, offA_no, g.tb⟩
  · match j, e with
    | 0, e => cases e; exact (s1.congr (H' := H) (fun _ _ => rfl) (Same.refl _) fun b hb => ⟨(s1.at b hb).2.1, offA_in (List.mem_append_left _ hb)⟩).1
    | 1, e => cases e; exact (s2.congr (H' := H) (fun _ _ => rfl) (Same.refl _) fun b hb => ⟨(s2.at b hb).2.1, offA_in (List.mem_append_right _ hb)⟩).1
    | j + 2, e =>
      obtain ⟨d, y, rfl, e2, rp⟩ := reps_map rs j u e
      exact ⟨y, e2, rp⟩
  · match i, j, e1, e2, q1, q2 with
    | 0, 0, _, _, _, _ => rfl
    | 1, 1, _, _, _, _ => rfl
    | 0, 1, e1, e2, q1, q2 => cases e1; cases e2; exact absurd q2 (dj p q1)
    | 1, 0, e1, e2, q1, q2 => cases e1; cases e2; exact absurd q1 (dj p q2)
    | i + 2, _, e1, _, q1, _ => exact absurd q1 (fz e1)
    | _, j + 2, _, e2, _, q2 => exact absurd q2 (fz e2)
theorem G.putO {i : Nat} {w : Val} (g : G X Z F r σ H) (q : SlotR X.K X.ex.dk Z F H σ[i]? w) (ou : ∀ b ∈ foot H σ[i]? w, Out H r σ b) : G X Z F (r.set i w) σ H := by
  refine ⟨g.zh, g.fh, by rw [List.length_set]; exact g.len, fun j v ej => ?_, fun j l v u p e2 e3 f2 f3 => ?_, g.kp, g.hh, g.nz, g.nf, g.tb⟩
  · rcases set_get ej with ⟨z1, _, z2⟩ | ⟨hj, ej⟩
    · subst z1 z2; exact q
    · exact g.sl j v ej
  · rcases set_get e2 with ⟨z1, _, z2⟩ | ⟨hj, e2'⟩
    · rcases set_get e3 with ⟨y1, _, y2⟩ | ⟨hl, e3'⟩
      · exact z1.symm.trans y1
      · subst z1 z2
        exact absurd f3 (ou p f2 l u e3')
    · rcases set_get e3 with ⟨y1, _, y2⟩ | ⟨hl, e3'⟩
      · subst y1 y2
        exact absurd f2 (ou p f3 j v e2')
      · exact g.di j l v u p e2' e3' f2 f3
theorem Out.putO {i : Nat} {w : Val} {b : Addr} (o : Out H r σ b) (n : b ∉ foot H σ[i]? w) : Out H (r.set i w) σ b := fun j u ej hb => by
  rcases set_get ej with ⟨z1, _, z2⟩ | ⟨hj, ej⟩
  · subst z1 z2
    exact n hb
  · exact o j u ej hb
theorem getD_slot {K : PySem.W.Frag} {ex : Ex} {Z F H : Hp} {outs : List Val} {τ : L2.St} (g : G (X0 K ex) Z F outs τ H) (j : Nat) : SlotR K ex.dk Z F H τ[j]? (outs.getD j .un) := by
  rw [List.getD_eq_getElem?_getD]
  cases eo : outs[j]? with
  | none => exact True.intro
  | some u => exact g.sl j u eo
theorem getD_foot {K : PySem.W.Frag} {ex : Ex} {Z F H : Hp} {outs : List Val} {τ : L2.St} (g : G (X0 K ex) Z F outs τ H) {i j : Nat} (h : i ≠ j) (b : Addr) (h1 : b ∈ foot H τ[i]? (outs.getD i .un)) : b ∉ foot H τ[j]? (outs.getD j .un) := fun h2 => by
  rw [List.getD_eq_getElem?_getD] at h1 h2
  cases e1 : outs[i]? with
  | none => rw [e1, show (none : Option Val).getD .un = .un from rfl, foot_un] at h1; cases h1
  | some u =>
    cases e2 : outs[j]? with
    | none => rw [e2, show (none : Option Val).getD .un = .un from rfl, foot_un] at h2; cases h2
    | some v =>
      rw [e1] at h1
      rw [e2] at h2
      exact h (g.di i j u v b e1 e2 h1 h2)
variable {k : Nat} {f : Addr} {fd : FuncData} {ps : List Str} {x : Str} {p pos : Pos} {e : Expr} {es : List Expr} {gf : Fn}
theorem callB2_run {i j : Nat} {v1 v2 : Val} {a1 a2 : Addr} {ys : List V} {ds : List D} {Q : VK} {E : L2.XK} {np : Nat} (hij : i ≠ j) (g1 : G X Z F r σ H) (e1 : r[i]? = some v1) (e2 : r[j]? = some v2) (ea1 : σ[i]? = some (some (.ref a1))) (ea2 : σ[j]? = some (some (.ref a2))) (rs : Reps X.K Z ys ds) (hl : (V.ref a1 :: V.ref a2 :: ys).length = np)
    (h : After X W (callB2r gf i j v1 v2 ds r) Z F σ fun v r' Z' H' => ∀ x, RV X Z' F H' r' σ x v → Q x H') (hE : ∀ cls d H', W cls d σ H' → E cls d H') : spF X.K X.ex np gf (V.ref a1 :: V.ref a2 :: ys) H Q E := by
  have sl1 := g1.sl i v1 e1
  have sl2 := g1.sl j v2 e2
  rw [ea1] at sl1
  rw [ea2] at sl2
  have hi : i < r.length := (List.getElem?_eq_some_iff.mp e1).1
  have hj : j < r.length := (List.getElem?_eq_some_iff.mp e2).1
  have dj : ∀ b ∈ foot H (some (some (.ref a1))) v1, b ∉ foot H (some (some (.ref a2))) v2 := fun b h1 h2 => hij (g1.di i j v1 v2 b e1 e2 (by rw [ea1]; exact h1) (by rw [ea2]; exact h2))
  generalize hA : foot H (some (some (.ref a1))) v1 ++ foot H (some (some (.ref a2))) v2 = A
  have g0' : G X Z F (r.set i .un) σ H := g1.put (w := .un) True.intro rfl
  have e2' : (r.set i Val.un)[j]? = some v2 := by rw [List.getElem?_set_ne hij]; exact e2
  have g0 : G X Z F ((r.set i .un).set j .un) σ H := g0'.put (w := .un) True.intro rfl
  -- what is handed over belongs to no other name
  have hA2 : ∀ b ∈ A, F b = none ∧ Out H ((r.set i .un).set j .un) σ b := fun b hb => by
    rw [← hA] at hb
    rcases List.mem_append.mp hb with hb | hb
    · exact ⟨(sl1.at b hb).2.2, Out.putO (own_out g1 e1 (by rw [ea1]; exact hb)) (by rw [foot_un]; exact fun q => nomatch q)⟩
    · exact ⟨(sl2.at b hb).2.2, own_out g0' e2' (by rw [ea2]; exact hb)⟩
  have FF : Same F (offA X.ex.tb H A) := offA_from g1.fh (fun b hb => (hA2 b hb).1) g1.nf
  have rr : ∀ u w : Val, (((r.set i .un).set j .un).set i u).set j w = (r.set i u).set j w := fun u w => by
    have e : ((r.set i .un).set j .un).set i u = (r.set i u).set j .un := by rw [List.set_comm _ _ (Ne.symm hij), List.set_set]
    rw [e, List.set_set]
  have back : ∀ {Z' H' : Hp} {outs : List Val}, Ext Z Z' (offA X.ex.tb H A) → G (X0 X.K X.ex) Z' (offA X.ex.tb H A) outs ((V.ref a1 :: V.ref a2 :: ys).map some) H' → Ext Z Z' F ∧ G X Z' F ((r.set i (outs.getD 0 .un)).set j (outs.getD 1 .un)) σ H' ∧ ∀ b, offA X.ex.tb H A b = none → b ∉ foot H' (some (some (.ref a1))) (outs.getD 0 .un) → b ∉ foot H' (some (some (.ref a2))) (outs.getD 1 .un) → Out H' ((r.set i (outs.getD 0 .un)).set j (outs.getD 1 .un)) σ b := fun {Z' H' outs} ex g' => by
    obtain ⟨ex2, g2, o1, o2⟩ := call_outA g0 hA2 ex g'
    have q1 : SlotR X.K X.ex.dk Z' (offA X.ex.tb H A) H' (some (some (.ref a1))) (outs.getD 0 .un) := getD_slot g' 0
    have q2 : SlotR X.K X.ex.dk Z' (offA X.ex.tb H A) H' (some (some (.ref a2))) (outs.getD 1 .un) := getD_slot g' 1
    have p1 : SlotR X.K X.ex.dk Z' F H' σ[i]? (outs.getD 0 .un) := by
      rw [ea1]
      exact (q1.congr (H' := H') (fun _ _ => rfl) (Same.refl _) fun b hb => ⟨(q1.at b hb).2.1, none_of FF (q1.at b hb).2.2⟩).1
    have p2 : SlotR X.K X.ex.dk Z' F H' σ[j]? (outs.getD 1 .un) := by
      rw [ea2]
      exact (q2.congr (H' := H') (fun _ _ => rfl) (Same.refl _) fun b hb => ⟨(q2.at b hb).2.1, none_of FF (q2.at b hb).2.2⟩).1
    have ou : ∀ b, offA X.ex.tb H A b = none → Out H' ((r.set i .un).set j .un) σ b := fun b n => o2 b (o1 b n)
    have g3 := g2.putO (i := i) p1 fun b hb => ou b (q1.at b (by rw [ea1] at hb; exact hb)).2.2
    have g4 := g3.putO (i := j) p2 fun b hb => by
      rw [ea2] at hb
      refine Out.putO (ou b (q2.at b hb).2.2) ?_
      rw [ea1]
      exact fun h1 => getD_foot g' (i := 0) (j := 1) (by decide) b h1 hb
    rw [rr] at g4
    refine ⟨ex2, g4, fun b n m1 m2 => ?_⟩
    have := Out.putO (i := j) (w := outs.getD 1 .un) (Out.putO (i := i) (w := outs.getD 0 .un) (ou b n) (by rw [ea1]; exact m1)) (by rw [ea2]; exact m2)
    rw [rr] at this
    exact this
  refine ⟨hl, Z, _, _, call_inA2 g1 rs sl1 sl2 dj, ?_⟩
  rw [hA]
  revert h
  unfold callB2r
  cases gf (v1 :: v2 :: ds.map .fz) with
  | err => exact fun h => h
  | exc c es outs => exact fun h cls d Z' H' x ex g' => hE _ _ _ (h cls d Z' H' x (back ex g').1 (back ex g').2.1)
  | ok v outs =>
    intro h Z' H' ex g' x rv
    obtain ⟨ex2, g2, ou⟩ := back ex g'
    refine h Z' H' ex2 g2 x (rv.to fun b _ n o => ⟨none_of FF n, ou b n ?_ ?_⟩)
    · rw [List.getD_eq_getElem?_getD]
      cases eo : outs[0]? with
      | none => rw [show (none : Option Val).getD .un = .un from rfl, foot_un]; exact fun q => nomatch q
      | some u => exact o 0 u eo
    · rw [List.getD_eq_getElem?_getD]
      cases eo : outs[1]? with
      | none => rw [show (none : Option Val).getD .un = .un from rfl, foot_un]; exact fun q => nomatch q
      | some u => exact o 1 u eo
theorem callB2_at {np i j : Nat} {ms : List (M Val)} {Q : VK} (hij : i ≠ j) (hnp : ms.length + 2 = np) (h : rdE X W (callB2 gf i j ms) σ H Q) : tCallS (spF X.K X.ex np gf) (L2.WE W) (tCons (tVar i) (tCons (tVar j) (rdVs X W ms))) σ H Q := by
  obtain ⟨Z, F, r, g, h⟩ := h
  revert h
  unfold callB2
  cases e : own2 r i j with
  | none => exact fun h => h.elim
  | some v =>
    intro h
    obtain ⟨e1, e2, o1, o2⟩ := own2_eq e
    obtain ⟨a1, ea1⟩ := own_ref g e1 o1
    obtain ⟨a2, ea2⟩ := own_ref g e2 o2
    refine ⟨.ref a1, ea1, .ref a2, ea2, Z, F, r, g, (bind_run h).imp2 fun ds r1 Z1 H1 eq ex1 g1 h1 ys rs => ?_⟩
    have ln := vals_len eq
    revert h1
    simp only
    cases e' : own2 r1 i j with
    | none => exact fun h => h.elim
    | some v' =>
      obtain ⟨e1', e2', _, _⟩ := own2_eq e'
      obtain ⟨w1, w2⟩ := v'
      exact fun h1 => callB2_run hij g1 e1' e2' ea1 ea2 rs (by rw [List.length_cons, List.length_cons, rs.length, ln, ← hnp]) h1 fun _ _ _ h => h
theorem de_callB2D {y z : Str} {i j : Nat} {ms : List (M Val)} {p2 p3 : Pos} (d : DefM C.prog C.w C.K C.mg C.base X.ex k x ps gf) (hr : Room k C.A) (hg : Gl C x) (tk : L2N.Takes C W) (hij : i ≠ j) (hN : C.N[i]? = some y) (hv : Vis C.env.scope y) (hN2 : C.N[j]? = some z) (hv2 : Vis C.env.scope z) (ha : DVs C X W es ms) (hnp : ms.length + 2 = ps.length := by rfl)
    (hdb : (x == ("__debug__" : Str)) = false := by decide) (hdb2 : (y == ("__debug__" : Str)) = false := by decide) (hcd : (y == ("__classdict__" : Str)) = false := by decide) (hdb3 : (z == ("__debug__" : Str)) = false := by decide) (hcd3 : (z == ("__classdict__" : Str)) = false := by decide) (he : starEach (.Name y p2 :: .Name z p3 :: es) C.env = (false, eval (.Name y p2) C.env) :: starEach (.Name z p3 :: es) C.env := by rfl) (he2 : starEach (.Name z p3 :: es) C.env = (false, eval (.Name z p3) C.env) :: starEach es C.env := by rfl) (hpl : (backTo pos (starEach (.Name z p3 :: es) C.env)).any (·.1) = false := by rfl) (hK : X.K = C.K := by rfl) : DE C X W (.Call (.Name x p) (.Name y p2 :: .Name z p3 :: es) [] pos) (callB2 gf i j ms) := by
  obtain ⟨f, fd, h1, h2, h3, h4⟩ := d
  exact PE.imp (pe_callG h1 hr hg h2 h3 h4 (fun σ => L2N.passAt tk σ) (pa_cons (pe_var hN hv hdb2 hcd) (pa_cons (pe_var hN2 hv2 hdb3 hcd3) ha he2) he) hdb he hpl) fun _ _ _ h => by rw [← hK]; exact callB2_at hij hnp h
end
end MS

/-! part 6p: tuples whose object is known (their index can be asked) -/
namespace MS
open PySem PySem.Spec PyProof.Rows L2
def ktD (r : List Val) (i : Nat) : Option (List D) := match r[i]? with
  | some (.ow (.kt ds)) => some ds
  | _ => none
def KtAt (K : PySem.W.Frag) (Z : Hp) (a : Addr) (ds : List D) : Prop := ∃ xs o, Z a = some (.frz o (.tup xs)) ∧ o.dict = none ∧ xs.length ≤ sizeLine ∧ Reps K Z xs ds
section
variable {C : Cx} {X : Fx} {W : WX} {Z F H : Hp} {r : List Val} {σ : L2.St} {e a b : Expr} {pos : Pos}
theorem ktD_eq {i : Nat} {ds : List D} (h : ktD r i = some ds) : r[i]? = some (.ow (.kt ds)) := by
  unfold ktD at h
  split at h
  · rename_i e; cases h; exact e
  · cases h
theorem kt_at {i : Nat} {ds : List D} (g : G X Z F r σ H) (e : ktD r i = some ds) : ∃ a, σ[i]? = some (some (.ref a)) ∧ KtAt X.K Z a ds := by
  obtain ⟨a, ea, h, _⟩ := g.sl i _ (ktD_eq e)
  exact ⟨a, ea, h⟩
theorem KtAt.sq {K : PySem.W.Frag} {a : Addr} {ds : List D} (h : KtAt K Z a ds) (z : Same Z H) : ∃ xs, SqT K H a xs ∧ xs.length ≤ sizeLine ∧ Reps K Z xs ds := by
  obtain ⟨xs, o, h1, _, l, q⟩ := h
  exact ⟨xs, .inl (.inr ⟨o, z _ _ h1⟩), l, q⟩
/-! ### made -/
def eKt (o : Opd) : M Val := fun r => match ev1 o r with
  | .ok (.list ds) r' => .ok (.ow (.kt ds)) r'
  | .ok _ _ => .err
  | .exc c ds r' => .exc c ds r'
  | .err => .err
def rKt (K : PySem.W.Frag) : List V → Hp → VK → Prop := fun xs H Q => ∃ p ys, xs = [.ref p] ∧ SqL K H p ys ∧ ∀ (l : Addr) (o : Obj), H l = none → o.dict = none → Q (.ref l) (upd H l (.frz o (.tup ys)))
theorem call_kt : CallR C (.type "tuple") (rKt C.K) := by
  intro pins s σ H xs us Q I r h
  obtain ⟨p, ys, rfl, hq, q⟩ := h
  obtain ⟨u, rfl, rx⟩ := vals1 r
  cases rx
  obtain ⟨its, r', pl, hz⟩ := I.list hq
  have hlen := r'.length
  refine call_tuple_list pl.isList (fun h' kp => ?_) (by simp only [List.size_toArray] <;> omega)
  have I1 : Inv C pins σ H { s with heap := h' } := I.kept (t' := s.toks) kp
  have hp : (h'.push { cls := .type "tuple", data := .seq its.toArray }).get? h'.objs.size = some { cls := .type "tuple", data := .seq its.toArray } := Heap.get?_push_size _ rfl
  have I2 : Inv C pins σ (upd H h'.objs.size (.frz { cls := .type "tuple", data := .seq its.toArray } (.tup ys))) { s with heap := h'.push { cls := .type "tuple", data := .seq its.toArray } } :=
    I1.laid (t' := s.toks) (fun b o e => Heap.get?_push_of_some _ e) (Nat.le_refl _) (show ObjOk C.prog C.w _ _ _ (.frz _ (.tup ys)) from ⟨hp, hz, its, r', IsTup.new _ _⟩)
  exact ⟨.ref h'.objs.size, _, I2, rfl, q _ _ (I1.hok.fresh (Nat.le_refl _)) rfl⟩
theorem de_kt {p : Pos} {o : Opd} (hg : Gl C "tuple") (hm : C.mg "tuple" = none) (ha : DO C X W e o) (hv : bootBuiltins "tuple" = some (.type "tuple") := by decide +kernel)
    (na : starEach [e] C.env = (false, eval e C.env) :: starEach [] C.env := by rfl) (hpl : (backTo pos (starEach [] C.env)).any (·.1) = false := by rfl) (hK : X.K = C.K := by rfl) : DE C X W (.Call (.Name "tuple" p) [e] [] pos) (eKt o) :=
  PE.imp (pe_callTy call_kt hg hm hv (pa_cons ha pa_nil na) (by decide) (by decide) na hpl) fun σ H Q h => by
    obtain ⟨Z, F, r, g, h⟩ := h
    refine opd1_run g ?_
    revert h
    unfold eKt
    cases ev1 o r with
    | exc c ds r' => exact fun h => h
    | err => exact fun h => h
    | ok d r' =>
      cases d with
      | list ds =>
        intro h Z' H' ex g' x hx
        obtain ⟨p, ys, rfl, r1, l, q⟩ := hx
        refine ⟨p, ys, rfl, by rw [← hK]; exact LiL.sq r1, fun b ob nb hd => ?_⟩
        have zz : Same Z' (upd Z' b (.frz ob (.tup ys))) := Same.upd (none_of g'.zh nb)
        have g2 := g'.grow (Same.upd nb) (grown_new g'.zh nb) (same_both g'.zh nb (o := .frz ob (.tup ys)))
        exact h _ _ (ex.trans ((grown_new g'.zh nb).ext g'.fh)) g2 (.ref b) ⟨b, rfl, ⟨ys, ob, upd_same, hd, l, q.up zz⟩, fun c hc => nomatch hc⟩
      | _ => exact fun h => h.elim
/-! ### asked -/
def ktLen (i : Nat) : M Val := fun r => match ktD r i with
  | some ds => .ok (.fz (.int ds.length)) r
  | none => .err
theorem de_ktLen {i : Nat} {x : Str} {p p2 : Pos} (hg : Gl C "len") (hm : C.mg "len" = none) (hN : C.N[i]? = some x) (hv : Vis C.env.scope x) (hb : bootBuiltins "len" = some (.builtin "len") := by decide +kernel)
    (hd : (x == ("__debug__" : Str)) = false := by decide) (hcd : (x == ("__classdict__" : Str)) = false := by decide) (na : starEach [.Name x p2] C.env = (false, eval (.Name x p2) C.env) :: starEach [] C.env := by rfl) (hpl : (backTo pos (starEach [] C.env)).any (·.1) = false := by rfl) (hK : X.K = C.K := by rfl) :
    DE C X W (.Call (.Name "len" p) [.Name x p2] [] pos) (ktLen i) :=
  PE.imp (pe_callB call_len_seq hg hm hb (pa_cons (pe_var hN hv hd hcd) pa_nil na) (by decide) (by decide) na hpl) fun σ H Q h => by
    obtain ⟨Z, F, r, g, h⟩ := h
    revert h
    unfold ktLen
    cases e : ktD r i with
    | none => exact fun h => h.elim
    | some ds =>
      intro h
      obtain ⟨a, ea, k⟩ := kt_at g e
      obtain ⟨xs, s, l, q⟩ := k.sq g.zh
      refine ⟨.ref a, ea, a, xs, rfl, .inr (by rw [← hK]; exact s), ?_⟩
      rw [q.length]
      exact h Z H (Ext.refl _ _) g (.int _) (.int _)
/-- isinstance(x, T) -/
def ktIsi (T : String) (i : Nat) : M Val := fun r => match ktD r i with
  | some _ => match kitB "tuple" T with
    | some b => .ok (.fz (.bool b)) r
    | none => .err
  | none => .err
theorem de_ktIsi {i : Nat} {x y : Str} {T : String} {p p1 p2 : Pos} (hN : C.N[i]? = some x) (hvx : Vis C.env.scope x) (hg : Gl C "isinstance") (hm : C.mg "isinstance" = none) (hgT : Gl C y) (hmT : C.mg y = none) (hvT : bootBuiltins y = some (.type T)) (hv : bootBuiltins "isinstance" = some (.builtin "isinstance") := by decide +kernel)
    (hdx : (x == ("__debug__" : Str)) = false := by decide) (hcd : (x == ("__classdict__" : Str)) = false := by decide)
    (hn : y ≠ "__name__" := by decide) (hd : (y == ("__debug__" : Str)) = false := by decide) (hs1 : starEach [.Name x p1, .Name y p2] C.env = (false, eval (.Name x p1) C.env) :: starEach [.Name y p2] C.env := by rfl) (hs2 : starEach [.Name y p2] C.env = (false, eval (.Name y p2) C.env) :: starEach [] C.env := by rfl)
    (hpl : (backTo pos (starEach [.Name y p2] C.env)).any (·.1) = false := by rfl) (hK : X.K = C.K := by rfl) : DE C X W (.Call (.Name "isinstance" p) [.Name x p1, .Name y p2] [] pos) (ktIsi T i) :=
  PE.imp (pe_callB call_isiY hg hm hv (pa_cons (pe_var hN hvx hdx hcd) (pa_cons (pe_bltn hgT hmT hvT (show RelV (.ty T) (.type T) from rfl) hn hd) pa_nil hs2) hs1) (by decide) (by decide) hs1 hpl) fun σ H Q h => by
    obtain ⟨Z, F, r, g, h⟩ := h
    revert h
    unfold ktIsi
    cases e : ktD r i with
    | none => exact fun h => h.elim
    | some ds =>
      simp only
      cases e1 : kitB "tuple" T with
      | none => exact fun h => h.elim
      | some b =>
        intro h
        obtain ⟨a, ea, xs, o, h1, _⟩ := kt_at g e
        exact ⟨.ref a, ea, .ref a, T, _, b, rfl, .inl (.fTuple (g.zh _ _ h1)), kit_ty e1, h Z H (Ext.refl _ _) g (.bl b) (.bl b)⟩
/-- x[..] -/
def ktIx (i : Nat) (o : Opd) : M Val := fun r => match ktD r i with
  | some ds => match ev1 o r with
    | .ok (.int j) r' => match L2.atI ds j with
      | some d => .ok (.fz d) r'
      | none => .err
    | .ok _ _ => .err
    | .exc c ds r' => .exc c ds r'
    | .err => .err
  | none => .err
theorem de_ktIx {i : Nat} {x : Str} {p : Pos} {o : Opd} (hN : C.N[i]? = some x) (hv : Vis C.env.scope x) (hb : DO C X W b o) (hd : (x == ("__debug__" : Str)) = false := by decide) (hcd : (x == ("__classdict__" : Str)) = false := by decide) (hs : PlainIx b := by exact fun _ _ => rfl) (hK : X.K = C.K := by rfl) :
    DE C X W (.Subscript (.Name x p) b pos) (ktIx i o) :=
  PE.imp (pe_ix ix_tup (pe_var hN hv hd hcd) hb hs) fun σ H Q h => by
    obtain ⟨Z, F, r, g, h⟩ := h
    revert h
    unfold ktIx
    cases e : ktD r i with
    | none => exact fun h => h.elim
    | some ds =>
      intro h
      obtain ⟨a, ea, k⟩ := kt_at g e
      refine ⟨.ref a, ea, opd1_run g ?_⟩
      revert h
      simp only
      cases ev1 o r with
      | exc c ds r' => exact fun h => h
      | err => exact fun h => h
      | ok d r' =>
        cases d with
        | int j =>
          simp only
          cases e2 : L2.atI ds j with
          | none => exact fun h => h.elim
          | some d =>
            intro h Z' H' ex g' y hy
            cases hy
            obtain ⟨xs, o', h1, hdn, l, q⟩ := k
            have q' := q.up ex.1
            obtain ⟨w, e3, rw'⟩ := q'.atI e2
            exact ⟨a, xs, j, w, rfl, rfl, .inl (.inr ⟨o', g'.zh _ _ (ex.1 _ _ h1)⟩), e3, h Z' H' ex g' w rw'⟩
        | _ => exact fun h => h.elim
/-- len(set(x)) -/
def ktLenSet (i : Nat) : M Val := fun r => match ktD r i with
  | some ds => match lenSetD (.tuple ds) with
    | some v => .ok v r
    | none => .err
  | none => .err
theorem de_ktLenSet {i : Nat} {x : Str} {p p1 p2 q : Pos} (hc : C.calm = true) (hg : Gl C "len") (hm : C.mg "len" = none) (hg2 : Gl C "set") (hm2 : C.mg "set" = none) (hN : C.N[i]? = some x) (hv : Vis C.env.scope x) (hd : (x == ("__debug__" : Str)) = false := by decide) (hcd : (x == ("__classdict__" : Str)) = false := by decide)
    (na : starEach [.Name x p1] C.env = (false, eval (.Name x p1) C.env) :: starEach [] C.env := by rfl) (hK : X.K = C.K := by rfl) : DE C X W (.Call (.Name "len" p) [.Call (.Name "set" p2) [.Name x p1] [] q] [] pos) (ktLenSet i) :=
  PE.imp (pe_lenSetT hc hg hm hg2 hm2 (pe_var hN hv hd hcd) na) fun σ H Q h => by
    obtain ⟨Z, F, r, g, h⟩ := h
    revert h
    unfold ktLenSet
    cases e : ktD r i with
    | none => exact fun h => h.elim
    | some ds =>
      simp only
      cases e1 : lenSetD (.tuple ds) with
      | none => exact fun h => h.elim
      | some v =>
        intro h
        obtain ⟨a, ea, k⟩ := kt_at g e
        obtain ⟨xs, s, l, q⟩ := k.sq g.zh
        unfold lenSetD at e1
        obtain ⟨ns, e2, e3⟩ := Option.bind_eq_some_iff.mp e1
        split at e3
        · rename_i hl
          cases e3
          obtain rfl := q.ints e2
          exact ⟨.ref a, ea, a, ns, rfl, by rw [← hK]; exact s, Nat.le_of_ble_eq_true hl, h Z H (Ext.refl _ _) g (.int _) (.int _)⟩
        · cases e3
/-- for .. in x -/
def ktSeq (i : Nat) : M (List D) := fun r => match ktD r i with
  | some ds => .ok ds r
  | none => .err
theorem di_kt {tg : Expr} {i : Nat} {x : Str} {p : Pos} (hN : C.N[i]? = some x) (hv : Vis C.env.scope x) (hd : (x == ("__debug__" : Str)) = false := by decide) (hcd : (x == ("__classdict__" : Str)) = false := by decide) (hK : X.K = C.K := by rfl) : DI C X W tg (.Name x p) (ktSeq i) :=
  PI.imp (pi_seq (pe_var hN hv hd hcd)) fun σ H R h => by
    obtain ⟨Z, F, r, g, h⟩ := h
    revert h
    unfold ktSeq
    cases e : ktD r i with
    | none => exact fun h => h.elim
    | some ds =>
      intro h
      obtain ⟨a, ea, xs, o, h1, hdn, l, q⟩ := kt_at g e
      exact ⟨.ref a, ea, a, rfl, .inr ⟨⟨xs, by rw [← hK]; exact .inl (.inr ⟨o, g.zh _ _ h1⟩)⟩, h Z H (Ext.refl _ _) g _ (iter_tup hK (.inl (.inr ⟨o, h1⟩)) q)⟩⟩
/-! ### x.index(..) -/
def posI : List Int → Int → Option Nat
  | [], _ => none
  | y :: ys, i => if y = i then some 0 else (posI ys i).map (· + 1)
theorem posI_some : ∀ {ys : List Int} {i : Int} {j : Nat}, posI ys i = some j → ys[j]? = some i ∧ ∀ m, m < j → ys[m]? ≠ some i
  | [], _, _, h => by cases h
  | y :: ys, i, j, h => by
    unfold posI at h
    by_cases e : y = i
    · rw [if_pos e] at h
      cases h
      exact ⟨by rw [e]; rfl, fun m hm => absurd hm (Nat.not_lt_zero m)⟩
    · rw [if_neg e] at h
      obtain ⟨j', h', rfl⟩ := Option.map_eq_some_iff.mp h
      obtain ⟨a, b⟩ := posI_some h'
      refine ⟨by rw [List.getElem?_cons_succ]; exact a, fun m hm q => ?_⟩
      cases m with
      | zero => exact e (Option.some.inj q)
      | succ m => exact b m (by omega) (by simpa using q)
theorem flat_ints (ys : List Int) : (ys.map V.int).all L2.flatV = true := by
  rw [List.all_map]
  exact List.all_eq_true.mpr fun _ _ => rfl
theorem mt_tup_indexI : MtR C "tuple.index" (fun x xs H Q => ∃ p, ∃ ys : List Int, ∃ z j, x = .ref p ∧ xs = [.int z] ∧ SqT C.K H p (ys.map V.int) ∧ ys[j]? = some z ∧ (∀ m, m < j → ys[m]? ≠ some z) ∧ Q (.int (j : Nat)) H) := by
  intro pins s σ H x xs v us Q I rx rs h
  obtain ⟨p, ys, z, j, rfl, rfl, hq, hy, hno, q⟩ := h
  cases rx
  obtain ⟨u, rfl, t, rfl⟩ := vals1 rs
  obtain ⟨its, r, pl, hz⟩ := I.tuple hq
  obtain ⟨⟨cls, dd, dt, sl⟩, ho, hc, n, hd⟩ := pl
  simp only at hc hd
  subst hc
  subst hd
  have hl : its.toArray.size = ys.length := by rw [List.size_toArray, ← r.length, List.length_map]
  have hj : j < its.toArray.size := by rw [hl]; exact (List.getElem?_eq_some_iff.mp hy).1
  have at' : ∀ (m : Nat) (hm : m < its.toArray.size), ∃ y t', ys[m]? = some y ∧ its.toArray[m] = Value.int y t' := fun m hm => by
    have hm' : m < ys.length := by rw [← hl]; exact hm
    obtain ⟨w, hw, t', hw'⟩ := r.get (i := m) (x := .int ys[m]) (by simp [hm'])
    refine ⟨ys[m], t', List.getElem?_eq_getElem hm', ?_⟩
    have e := (List.getElem?_eq_some_iff.mp hw).2
    rw [← hw', ← e]
    simp
  refine call_meets PySem.F.slot_tuple_index ⟨_, ho, rfl⟩ PySem.F.entry_tuple_index (PySem.F.args_tuple_index_2 _ _) (TI.tuple_indexAt p its.toArray n dd sl (.int z t) (eqU (.int z)) j hj ?_ ?_)
    ⟨ho, fun w hw => mem_eqAt (x := .int z) ⟨t, rfl⟩ rfl r (flat_ints ys) w (by simpa using hw), ⟨.int (j : Nat), H, I.tok _, ⟨_, rfl⟩, q⟩⟩
  · obtain ⟨y, t', h1, h2⟩ := at' j hj
    rw [hy] at h1
    cases h1
    rw [h2]
    show (z == z) = true
    exact beq_self_eq_true z
  · intro m hm hmj
    obtain ⟨y, t', h1, h2⟩ := at' m hm
    rw [h2]
    show (y == z) = false
    exact beq_eq_false_iff_ne.mpr fun e => hno m hmj (e ▸ h1)
def idxT (ds : List D) (d : D) : Option Val := match d with
  | .int i => (intsD ds).bind fun ys => (posI ys i).map fun j : Nat => .fz (.int (j : Int))
  | _ => none
def ktIdx (i : Nat) (m : M Val) : M Val := fun r => match ktD r i with
  | some ds => match frz m r with
    | .ok d r' => match idxT ds d with
      | some v => .ok v r'
      | none => .err
    | .exc c ds r' => .exc c ds r'
    | .err => .err
  | none => .err
theorem de_ktIdx {i : Nat} {x : Str} {m : M Val} {p apos : Pos} (hN : C.N[i]? = some x) (hv : Vis C.env.scope x) (hb : DE C X W b m) (hd : (x == ("__debug__" : Str)) = false := by decide) (hcd : (x == ("__classdict__" : Str)) = false := by decide)
    (hbase : attributeBase (.Name x p) "index" C.env (eval (.Name x p) C.env) = eval (.Name x p) C.env := by rfl)
    (hfew : ((backTo pos (starEach [b] C.env)).all (fun x => !x.1) && (backToKw pos (keywordEach [] C.env)).all (fun x => x.1.isSome)
      && decide ([b].length + ([] : List Keyword).length + (if ([] : List Keyword).isEmpty then 0 else 1) < 30)) = true := by rfl)
    (hline : (apos.endLine == pos.line) = true := by rfl) (hs : starEach [b] C.env = (false, eval b C.env) :: starEach [] C.env := by rfl) (hplain : (backTo pos (starEach [] C.env)).any (·.1) = false := by rfl) (hK : X.K = C.K := by rfl) :
    DE C X W (.Call (.Attribute (.Name x p) "index" apos) [b] [] pos) (ktIdx i m) := by
  refine ⟨fun pins s σ H Q I h => ?_⟩
  obtain ⟨Z, F, r, g, h⟩ := h
  revert h
  unfold ktIdx
  cases e : ktD r i with
  | none => exact fun h => h.elim
  | some ds =>
    intro h
    obtain ⟨a, ea, xs, o, h1, hdn, l, q⟩ := kt_at g e
    have ha := g.zh _ _ h1
    refine wpAny_Call_method_late hbase hfew hline rfl (thn ((pe_var hN hv hd hcd (pos := p)).run pins s σ H (fun v H1 => v = .ref a ∧ H1 = H) I ⟨.ref a, ea, rfl, rfl⟩) fun v s1 ⟨x1, H1, I1, r1, ex, eH⟩ => ?_)
    subst ex eH
    obtain rfl : v = Value.ref a := r1
    obtain ⟨ho, hz, its, rv, ot, hot, hct, n, hdt⟩ := I1.hok a _ ha
    refine ⟨"tuple", "tuple.index", PySem.F.plainAttrs_tuple, PySem.F.slot_tuple_index, PySem.F.type_tuple_index, ⟨ot, hot, hct⟩, fun a' e' => ?_, ?_⟩
    · cases e'
      exact ⟨o, ho, hdn⟩
    have q2 : rdVs X W [m] σ H1 fun ys H2 => ∃ p, ∃ ys' : List Int, ∃ z j, V.ref a = .ref p ∧ ys = [.int z] ∧ SqT C.K H2 p (ys'.map V.int) ∧ ys'[j]? = some z ∧ (∀ m, m < j → ys'[m]? ≠ some z) ∧ Q (.int (j : Nat)) H2 := by
      refine ⟨Z, F, r, g, ?_⟩
      revert h
      unfold vals M.bind
      simp only
      cases frz m r with
      | exc c ds r' => exact fun h => h
      | err => exact fun h => h
      | ok d r' =>
        simp only
        cases e2 : idxT ds d with
        | none => exact fun h => h.elim
        | some v =>
          intro h Z2 H2 ex2 g2 ys rs
          cases rs with
          | cons r1 rs =>
            cases rs
            unfold idxT at e2
            split at e2
            · rename_i i'
              cases r1
              obtain ⟨zs, hi, h2⟩ := Option.bind_eq_some_iff.mp e2
              obtain ⟨j, hj, rfl⟩ := Option.map_eq_some_iff.mp h2
              obtain rfl := q.ints hi
              obtain ⟨a1, a2⟩ := posI_some hj
              exact ⟨a, zs, i', j, rfl, rfl, .inl (.inr ⟨o, g2.zh _ _ (ex2.1 _ _ h1)⟩), a1, a2, h Z2 H2 ex2 g2 (.int _) (.int _)⟩
            · cases e2
    have hA := (dvs_cons hb dvs_nil hs).run pos pins s1 σ H1 _ I1 q2
    rw [hs] at hA ⊢
    refine Calls.callWith_builtin (by show (false || (backTo pos (starEach [] C.env)).any (·.1)) = false; rw [hplain] <;> rfl) (Calls.evalArgs_plain ?_)
    exact thn hA fun us s2 ⟨vs, H2, I2, r2, q2⟩ => mt_tup_indexI pins s2 σ H2 (.ref a) vs (.ref a) us Q I2 rfl r2 q2
/-! ### handed on -/
inductive KA where
  | v (m : M Val) | k (i : Nat) | o (m : M Val)
def asK (m : M Val) : M (List D) := fun r => match m r with
  | .ok (.ow (.kt ds)) r' => .ok ds r'
  | .ok _ _ => .err
  | .exc c ds r' => .exc c ds r'
  | .err => .err
def valsA : List KA → M (List Val)
  | [] => M.ret []
  | .v m :: as => M.bind (frz m) fun d => M.bind (valsA as) fun us => M.ret (.fz d :: us)
  | .k i :: as => M.bind (fun r => match ktD r i with | some ds => .ok ds r | none => .err) fun ds => M.bind (valsA as) fun us => M.ret (.ow (.kt ds) :: us)
  | .o m :: as => M.bind (asK m) fun ds => M.bind (valsA as) fun us => M.ret (.ow (.kt ds) :: us)
def RepV (K : PySem.W.Frag) (Z : Hp) (x : V) : Val → Prop
  | .fz d => Rep K Z x d
  | .ow (.kt ds) => ∃ a, x = .ref a ∧ KtAt K Z a ds
  | _ => False
inductive RepVs (K : PySem.W.Frag) (Z : Hp) : List V → List Val → Prop
  | nil : RepVs K Z [] []
  | cons {x : V} {xs : List V} {u : Val} {us : List Val} : RepV K Z x u → RepVs K Z xs us → RepVs K Z (x :: xs) (u :: us)
theorem KtAt.up {K : PySem.W.Frag} {Z Z' : Hp} {a : Addr} {ds : List D} (h : KtAt K Z a ds) (s : Same Z Z') : KtAt K Z' a ds := by
  obtain ⟨xs, o, h1, d, l, q⟩ := h
  exact ⟨xs, o, s _ _ h1, d, l, q.up s⟩
theorem RepVs.get {K : PySem.W.Frag} {xs : List V} {us : List Val} (h : RepVs K Z xs us) : xs.length = us.length ∧ ∀ (i : Nat) (u : Val), us[i]? = some u → ∃ x, (xs.map some)[i]? = some (some x) ∧ RepV K Z x u := by
  induction h with
  | nil => exact ⟨rfl, fun i u e => by simp at e⟩
  | cons r rs ih =>
    refine ⟨by simp [ih.1], fun i u e => ?_⟩
    cases i with
    | zero => simp at e; subst e; exact ⟨_, rfl, r⟩
    | succ i => exact ih.2 i u (by simpa using e)
def rdKs (X : Fx) (W : WX) (as : List KA) : TA := fun σ H Q => ∃ Z F r, G X Z F r σ H ∧ After X W (valsA as r) Z F σ fun us r' Z' H' => ∀ xs, RepVs X.K Z' xs us → Q xs H'
abbrev DKs (C : Cx) (X : Fx) (W : WX) (es : List Expr) (as : List KA) : Prop := PA C es (rdKs X W as)
theorem dks_nil : DKs C X W [] [] := PA.mk fun po pins s σ H Q I h => pa_nil.run po pins s σ H Q I (by
  obtain ⟨Z, F, r, g, h⟩ := h
  exact ret_run g h [] .nil)
theorem dks_v {es : List Expr} {m : M Val} {as : List KA} (h1 : DE C X W e m) (h2 : DKs C X W es as) (hs : starEach (e :: es) C.env = (false, eval e C.env) :: starEach es C.env := by rfl) : DKs C X W (e :: es) (.v m :: as) := PA.mk fun po pins s σ H Q I h => (pa_cons h1 h2 hs).run po pins s σ H Q I (by
  obtain ⟨Z, F, r, g, h⟩ := h
  refine frz_run g ((bind_run h).imp fun d r1 Z1 H1 ex1 g1 h1 x rx => ⟨Z1, F, r1, g1, (bind_run h1).imp fun us r2 Z2 H2 ex2 g2 h2 xs rs => ret_run g2 h2 (x :: xs) (.cons (show Rep X.K Z2 x d from Rep.up rx ex2.1) rs)⟩))
theorem dks_k {es : List Expr} {i : Nat} {x : Str} {p : Pos} {as : List KA} (hN : C.N[i]? = some x) (hv : Vis C.env.scope x) (h2 : DKs C X W es as) (hd : (x == ("__debug__" : Str)) = false := by decide) (hcd : (x == ("__classdict__" : Str)) = false := by decide) (hs : starEach (.Name x p :: es) C.env = (false, eval (.Name x p) C.env) :: starEach es C.env := by rfl) : DKs C X W (.Name x p :: es) (.k i :: as) := PA.mk fun po pins s σ H Q I h => (pa_cons (pe_var hN hv hd hcd) h2 hs).run po pins s σ H Q I (by
  obtain ⟨Z, F, r, g, h⟩ := h
  have h := bind_run h
  cases e : ktD r i with
  | none => rw [e] at h; exact h.elim
  | some ds =>
    rw [e] at h
    have h := h Z H (Ext.refl _ _) g
    obtain ⟨a, ea, k⟩ := kt_at g e
    exact ⟨.ref a, ea, Z, F, r, g, (bind_run h).imp fun us r2 Z2 H2 ex2 g2 h2 xs rs => ret_run g2 h2 (.ref a :: xs) (.cons (show RepV X.K Z2 (.ref a) (.ow (.kt ds)) from ⟨a, rfl, k.up ex2.1⟩) rs)⟩)
theorem dks_o {es : List Expr} {m : M Val} {as : List KA} (h1 : DE C X W e m) (h2 : DKs C X W es as) (hs : starEach (e :: es) C.env = (false, eval e C.env) :: starEach es C.env := by rfl) : DKs C X W (e :: es) (.o m :: as) := PA.mk fun po pins s σ H Q I h => (pa_cons h1 h2 hs).run po pins s σ H Q I (by
  obtain ⟨Z, F, r, g, h⟩ := h
  have h := bind_run h
  refine ⟨Z, F, r, g, ?_⟩
  revert h
  unfold asK
  cases m r with
  | exc c ds r' => exact fun h => h
  | err => exact fun h => h
  | ok v r1 =>
    cases v with
    | ow t =>
      cases t with
      | kt ds =>
        intro h Z1 H1 ex1 g1 x rv
        obtain ⟨a, rfl, k, _⟩ := rv
        exact ⟨Z1, F, r1, g1, (bind_run (h Z1 H1 ex1 g1)).imp fun us r2 Z2 H2 ex2 g2 h2 xs rs => ret_run g2 h2 (.ref a :: xs) (.cons (show RepV X.K Z2 (.ref a) (.ow (.kt ds)) from ⟨a, rfl, KtAt.up k ex2.1⟩) rs)⟩
      | ob fs xs => exact fun h => h.elim
      | nl xss => exact fun h => h.elim
    | _ => exact fun h => h.elim)
theorem valsA_len : ∀ {as : List KA} {r r' : List Val} {us : List Val}, valsA as r = .ok us r' → us.length = as.length
  | [], r, r', us, h => by cases h; rfl
  | .v m :: as, r, r', us, h => by
    unfold valsA M.bind at h
    cases e : frz m r with
    | exc c ds r' => rw [e] at h; cases h
    | err => rw [e] at h; cases h
    | ok d r1 =>
      rw [e] at h
      simp only at h
      cases e2 : valsA as r1 with
      | exc c ds r' => rw [e2] at h; cases h
      | err => rw [e2] at h; cases h
      | ok vs r2 =>
        rw [e2] at h
        cases h
        simp [valsA_len e2]
  | .k i :: as, r, r', us, h => by
    unfold valsA M.bind at h
    simp only at h
    cases e : ktD r i with
    | none => rw [e] at h; cases h
    | some d =>
      rw [e] at h
      simp only at h
      cases e2 : valsA as r with
      | exc c ds r' => rw [e2] at h; cases h
      | err => rw [e2] at h; cases h
      | ok vs r2 =>
        rw [e2] at h
        cases h
        simp [valsA_len e2]
  | .o m :: as, r, r', us, h => by
    unfold valsA M.bind at h
    simp only at h
    cases e : asK m r with
    | exc c ds r' => rw [e] at h; cases h
    | err => rw [e] at h; cases h
    | ok d r1 =>
      rw [e] at h
      simp only at h
      cases e2 : valsA as r1 with
      | exc c ds r' => rw [e2] at h; cases h
      | err => rw [e2] at h; cases h
      | ok vs r2 =>
        rw [e2] at h
        cases h
        simp [valsA_len e2]
def callK (g : Fn) (as : List KA) : M Val := M.bind (valsA as) fun us => fun r => match g us with
  | .ok v _ => .ok v r
  | .exc c es _ => .exc c es r
  | .err => .err
/-- the whole heap is framed -/
theorem RepV.foot {K : PySem.W.Frag} {y : Option (Option V)} {x : V} {u : Val} (h : RepV K Z x u) : foot H y u = [] := by
  unfold MS.foot
  split
  · cases u with
    | fz d => rfl
    | ow t =>
      cases t with
      | kt ds => rfl
      | ob fs xs => exact h.elim
      | nl xss => exact h.elim
    | _ => exact h.elim
  · rfl
theorem call_inK {xs : List V} {us : List Val} (g : G X Z F r σ H) (rs : RepVs X.K Z xs us) : G (X0 X.K X.ex) Z (noT X.ex.tb H) us (xs.map some) H := by
  obtain ⟨ln, gt⟩ := rs.get
  refine ⟨g.zh, noT_same, by rw [List.length_map, ln], fun i v e => ?_, fun i j v u p e1 e2 q1 q2 => ?_, fun i hi => absurd hi (by show ¬ i ∈ ([] : List Nat); simp), no_hx _, g.nz, noT_no, g.tb⟩
  · obtain ⟨x, e2, rp⟩ := gt i v e
    cases v with
    | fz d => exact ⟨x, e2, rp⟩
    | ow t =>
      cases t with
      | kt ds =>
        obtain ⟨a, rfl, k⟩ := rp
        exact ⟨a, e2, k, fun b hb => nomatch hb⟩
      | ob fs xs => exact rp.elim
      | nl xss => exact rp.elim
    | _ => exact rp.elim
  · obtain ⟨x, _, rp⟩ := gt i v e1
    rw [rp.foot] at q1
    cases q1
theorem callK_run {gf : Fn} {np : Nat} {as : List KA} {Q : VK} (hnp : as.length = np) (h : rdE X W (callK gf as) σ H Q) : tCallS (spF X.K X.ex np gf) (L2.WE W) (rdKs X W as) σ H Q := by
  obtain ⟨Z, F, r, g, h⟩ := h
  refine ⟨Z, F, r, g, (bind_run h).imp2 fun us r1 Z1 H1 eq ex1 g1 h1 xs rs => ⟨by rw [rs.get.1, valsA_len eq, hnp], Z1, noT X.ex.tb H1, us, call_inK g1 rs, ?_⟩⟩
  revert h1
  cases gf us with
  | err => exact fun h => h
  | exc c es outs => exact fun h cls d Z' H' x ex g' => h cls d Z' H' x (call_out g1 ex g').1 (call_out g1 ex g').2.1
  | ok v outs =>
    intro h Z' H' ex g' x rv
    obtain ⟨ex2, g2, ou⟩ := call_out g1 ex g'
    exact h Z' H' ex2 g2 x (rv.to fun b _ n _ => ⟨none_of (g1.nf.same g1.fh) n, ou b n⟩)
theorem de_callKD {k : Nat} {x : Str} {ps : List Str} {es : List Expr} {p : Pos} {gf : Fn} {as : List KA} (d : DefM C.prog C.w C.K C.mg C.base X.ex k x ps gf) (hr : Room k C.A) (hg : Gl C x) (tk : L2N.Takes C W) (ha : DKs C X W (e :: es) as) (hnp : as.length = ps.length := by rfl)
    (hdb : (x == ("__debug__" : Str)) = false := by decide) (he : starEach (e :: es) C.env = (false, eval e C.env) :: starEach es C.env := by rfl) (hpl : (backTo pos (starEach es C.env)).any (·.1) = false := by rfl) (hK : X.K = C.K := by rfl) : DE C X W (.Call (.Name x p) (e :: es) [] pos) (callK gf as) := by
  obtain ⟨f, fd, h1, h2, h3, h4⟩ := d
  exact PE.imp (pe_callG h1 hr hg h2 h3 h4 (fun σ => L2N.passAt tk σ) ha hdb he hpl) fun _ _ _ h => by rw [← hK]; exact callK_run hnp h
theorem RepV.rv {x : V} {u : Val} (h : RepV X.K Z x u) : RV X Z F H r σ x u := by
  cases u with
  | fz d => exact h
  | ow t =>
    cases t with
    | kt ds =>
      obtain ⟨a, rfl, k⟩ := h
      exact ⟨a, rfl, k, fun b hb => nomatch hb⟩
    | ob fs xs => exact h.elim
    | nl xss => exact h.elim
  | _ => exact h.elim
/-- x, y = .., .. where the two are made to a tuple first -/
def sAsgK (i j : Nat) (as : List KA) : M Fl := M.bind (valsA as) fun us => fun r => match us with
  | [u, w] => .ok .nx ((r.set i u).set j w)
  | _ => .err
theorem ds_asgK {i j : Nat} {x y : Str} {as : List KA} {px py pt pt2 : Pos} {kt k2 : Nat} (hc : C.calm = true) (hN : C.N.Nodup) (hi : C.N[i]? = some x) (hj : C.N[j]? = some y) (hij : i ≠ j) (hx : Loc C.env.scope x) (hy : Loc C.env.scope y) (ha : DKs C X W [a, b] as)
    (hBi : i ∉ X.B := by exact of_decide_eq_true rfl) (hBj : j ∉ X.B := by exact of_decide_eq_true rfl)
    (hfx : C.fn x = true ∨ C.env.scope.names.lookup x = some .local := by first | exact .inl rfl | exact .inr rfl) (hfy : C.fn y = true ∨ C.env.scope.names.lookup y = some .local := by first | exact .inl rfl | exact .inr rfl)
    (hs : swapsWithSole [.Tuple [.Name x px, .Name y py] kt pt] (.Tuple [a, b] k2 pt2) pos.line C.env = pure false := by rfl) (hw : swappedStores [.Tuple [.Name x px, .Name y py] kt pt] (.Tuple [a, b] k2 pt2) C.env = pure none := by rfl)
    (h1 : (assignEach [.Tuple [.Name x px, .Name y py] kt pt] C.env).map (·.2) = [assign (.Tuple [.Name x px, .Name y py] kt pt) C.env] := by rfl) (hK : X.K = C.K := by rfl) :
    DS C X W (.Assign [.Tuple [.Name x px, .Name y py] kt pt] (.Tuple [a, b] k2 pt2) pos) (sAsgK i j as) :=
  PS.imp (ps_asg (pe_tup ha) (pg_tup hc (pgs_cons (pg_name hN hi hx hfx) (pgs_cons (pg_name hN hj hy hfy) pgs_nil rfl) rfl) rfl rfl) hs hw h1) fun D σ H h => by
    obtain ⟨Z, F, r, g, h⟩ := h
    refine ⟨Z, F, r, g, (bindS_run h).imp fun us r1 Z1 H1 ex1 g1 h1 xs rs => ?_⟩
    revert h1
    split
    · rename_i u w
      intro h1
      cases rs with
      | cons q1 rs =>
        cases rs with
        | cons q2 rs =>
          cases rs
          rename_i x1 x2
          refine ⟨by rw [sizeLine_eq]; show 2 ≤ _; decide, fun p np => ⟨p, [x1, x2], rfl, .inl (.inl upd_same), rfl, x1, [x2], rfl, x2, [], rfl, rfl, ?_⟩⟩
          have g2 := g1.grow (Same.upd np (o := .tup [x1, x2])) (Grown.refl Z1 H1) (g1.zh.trans (Same.upd np))
          have g3 := g2.store (i := i) hBi q1.rv
          have g4 := g3.store (i := j) hBj q2.rv
          exact h1 _ Z1 _ (Ext.refl _ _) g4
    · exact fun h => h.elim
end
end MS

/-! part 6q: known tuples handed to a def of a table; two names at once; what is promised of nothing -/
namespace MS
open PySem PySem.Spec PyProof.Rows L2
def callTK (gs : List Fn) (ix : M Val) (as : List KA) : M Val := fun r => match frz ix r with
  | .ok (.int i) r1 => match L2.atI gs i with
    | some g => callK g as r1
    | none => .err
  | .ok _ _ => .err
  | .exc c ds r' => .exc c ds r'
  | .err => .err
def eErr : M Val := fun _ => .err
section
variable {C : Cx} {X : Fx} {W : WX} {Z F H : Hp} {r : List Val} {σ : L2.St} {a b e : Expr} {pos : Pos}
theorem de_err : DE C X W e eErr := ⟨fun pins s σ H Q I h => by obtain ⟨Z, F, r, g, h⟩ := h; exact h.elim⟩
theorem de_callTK {np : Nat} {fns : List Expr} {gs : List Fn} {e : Expr} {es : List Expr} {ix : M Val} {as : List KA} {p1 p2 : Pos} (d : DefT C X np fns gs) (tk : L2N.Takes C W) (hi : DE C X W b ix) (ha : DKs C X W (e :: es) as) (hnp : as.length = np := by rfl) (hl : gs.length ≤ 1000 := by decide)
    (hs : PlainIx b := by intro _ _; rfl) (hcall : eval (.Call (.Subscript (.List fns p1) b p2) (e :: es) [] pos) C.env = (do callWith pos (← eval (.Subscript (.List fns p1) b p2) C.env) [] (backTo pos (starEach (e :: es) C.env)) (backToKw pos (keywordEach [] C.env))) := by rfl)
    (he : starEach (e :: es) C.env = (false, eval e C.env) :: starEach es C.env := by rfl) (hpl : (backTo pos (starEach es C.env)).any (·.1) = false := by rfl) (hK : X.K = C.K := by rfl) : DE C X W (.Call (.Subscript (.List fns p1) b p2) (e :: es) [] pos) (callTK gs ix as) := by
  obtain ⟨fs, lf, hf, pa⟩ := dt_pa d
  have hfun := pe_ix ix_list (pe_lst pa (pos := p1)) hi hs (pos := p2)
  have hgo : PE C (.Call (.Subscript (.List fns p1) b p2) (e :: es) [] pos) (fun σ H Q => tOp (rIxL C.K) (tLst (fun σ H Q => Q (fs.map V.ref) H)) (rdE X W ix) σ H fun v H1 => ∃ f g, v = .ref f ∧ FnAt C X np f g ∧ tCallS (spF C.K X.ex np g) (L2.WE W) (rdKs X W as) σ H1 Q) := by
    refine ⟨fun pins s σ H Q I h => Call_ (thn (hfun.run pins s σ H _ I h) fun u s1 ⟨v, H1, I1, rv, f, g, ev, ⟨k, fd, ps, enp, hr, F1, kp, bd⟩, q⟩ => ?_) hcall⟩
    subst ev enp
    cases rv
    refine PySem.W.callWith_K (h₀ := C.base) I1.ok.mod.kin kp (thn (ha.run pos pins s1 σ H1 _ I1 q) fun us s2 ⟨vs, H2, I2, r2, q2⟩ => ⟨I2.kIn, ?_⟩) he hpl
    exact run_fnG F1 hr bd (L2N.passAt tk σ) I2 r2 q2
  refine PE.imp hgo fun σ H Q h => ?_
  obtain ⟨Z, F, r, g, h⟩ := h
  refine ⟨by rw [List.length_map, lf]; exact small_len hl, fun p np => ?_⟩
  have nF : F p = none := none_of g.fh np
  have g1 := g.framed (o := .lst (fs.map V.ref)) np
  refine frz_run g1 ?_
  revert h
  unfold callTK
  cases e1 : frz ix r with
  | exc c ds r' => exact fun h cls d Z' H' x ex g' => h cls d Z' H' x (unE nF ex) (unF nF g.hh g')
  | err => exact fun h => h
  | ok dd r1 =>
    cases dd with
    | int i =>
      simp only
      cases e2 : L2.atI gs i with
      | none => exact fun h => h.elim
      | some gf =>
        intro h Z2 H2 ex2 g2 y ry
        cases ry
        have hH : H2 p = some (.lst (fs.map V.ref)) := g2.fh p _ upd_same
        have g3 := unF nF g.hh g2
        unfold L2.atI at e2
        cases e3 : L2.ixN gs.length i with
        | none => rw [e3] at e2; cases e2
        | some j =>
          rw [e3] at e2
          obtain ⟨f, ef, hF⟩ := hf j gf e2
          refine ⟨p, fs.map V.ref, i, .ref f, rfl, rfl, .inl (.inl hH), ?_, f, gf, rfl, hF, ?_⟩
          · unfold L2.atI
            rw [List.length_map, lf, e3]
            show (fs.map V.ref)[j]? = _
            rw [List.getElem?_map, ef]
            rfl
          · rw [← hK]
            exact callK_run hnp ⟨Z2, F, r1, g3, h.ext (unE nF ex2)⟩
    | _ => exact fun h => h.elim
/-- x, y = .., .. at once -/
theorem ds_parK {i j : Nat} {x y : Str} {as : List KA} {px py pt pt2 : Pos} {kt k2 : Nat} (hc : C.calm = true) (hN : C.N.Nodup) (hi : C.N[i]? = some x) (hj : C.N[j]? = some y) (hij : i ≠ j)
    (hx : C.env.scope.names.lookup x = some .local) (hy : C.env.scope.names.lookup y = some .local) (ha : DKs C X W [a, b] as)
    (hw : swappedStores [.Tuple [.Name x px, .Name y py] kt pt] (.Tuple [a, b] k2 pt2) C.env = pure (some [x, y])) (hBi : i ∉ X.B := by exact of_decide_eq_true rfl) (hBj : j ∉ X.B := by exact of_decide_eq_true rfl)
    (hs : swapsWithSole [.Tuple [.Name x px, .Name y py] kt pt] (.Tuple [a, b] k2 pt2) pos.line C.env = pure false := by rfl) :
    DS C X W (.Assign [.Tuple [.Name x px, .Name y py] kt pt] (.Tuple [a, b] k2 pt2) pos) (sAsgK i j as) :=
  PS.imp (ps_par hc hN hi hj hij hx hy ha hw hs) fun D σ H h => by
    obtain ⟨Z, F, r, g, h⟩ := h
    refine ⟨Z, F, r, g, (bindS_run h).imp fun us r1 Z1 H1 ex1 g1 h1 xs rs => ?_⟩
    revert h1
    split
    · rename_i u w
      intro h1
      cases rs with
      | cons q1 rs =>
        cases rs with
        | cons q2 rs =>
          cases rs
          have g3 := g1.store (i := i) hBi q1.rv
          have g4 := g3.store (i := j) hBj q2.rv
          exact ⟨_, _, rfl, h1 _ Z1 H1 (Ext.refl _ _) g4⟩
    · exact fun h => h.elim
end
end MS

/-! part 6r: the least of a list of tuples of ints -/
namespace MS
open PySem PySem.Spec PyProof.Rows L2
section
open PySem.W
variable {prog : Program} {w : World} {A : Around} {E : Value → Shared → Prop} {s : Shared}
theorem min_list_at {l : Addr} {vs : Array Value} {x : PyData} {xs : List PyData} {as : List Addr} {Q : Value → Shared → Prop} (hh : A.handled = none) (hl : s.heap.IsList l vs) (hr : ReadsAll s.heap vs.toList (x :: xs) as) (ha : AlikeAll (x :: xs)) (hu : A.units + 1 + PyData.depthAll (x :: xs) < cLine)
    (h : ∀ (i : Nat) v h' tk, vs[i]? = some v → (x :: xs)[i]? = some (PySem.W.minD x xs) → (∀ b o, s.heap.get? b = some o → h'.get? b = some o) → Q v { s with heap := h', toks := tk }) :
    wpAny (model prog w) A (call (.builtin "min") [.ref l]) Q E s := by
  have hn : vs.size = xs.length + 1 := readsAll_len hr
  refine call_min_walkH (iter_listW (A := A.in1) hh hl fun s₂ e W st hfp hw hk => ?_)
  refine ⟨_, _, _, _, _, _, _, s.heap, _, rfl, W, st, hfp, by omega, hw, hk, cmpIn_lt (A := A.in1) hr ha (by show A.units + 1 + _ < _; exact hu), fun v s' hP m => ?_⟩
  obtain ⟨h', tk, rfl, hk'⟩ := moved_old e rfl m
  have e1 : vs.size - 1 = xs.length := by omega
  obtain ⟨e0, e2⟩ := argBest_fold dataLt PyData.none x xs xs.length (Nat.le_refl _)
  rw [List.take_length] at e2
  refine h _ v h' tk hP ?_ hk'
  rw [e1]
  unfold PySem.W.minD
  rw [← e2]
  have hlt : argBest (fun i j => dataLt ((x :: xs).getD i PyData.none) ((x :: xs).getD j PyData.none)) xs.length < (x :: xs).length := by
    rw [List.length_cons]
    omega
  rw [List.getD_eq_getElem?_getD, List.getElem?_eq_getElem hlt]
  rfl
end
def minRL : List D → Option Val
  | [.list (d :: ds)] => match rowsD (d :: ds) with
    | some _ => some (.fz (PySem.W.minD d ds))
    | none => none
  | _ => none
theorem rows_like {nss : List (List Int)} : PySem.W.AlikeAll (nss.map rowD) := by
  refine ⟨fun x hx y hy => ?_, fun x hx => ?_⟩
  · obtain ⟨a, _, rfl⟩ := List.mem_map.mp hx
    obtain ⟨b, _, rfl⟩ := List.mem_map.mp hy
    simp [rowD, PySem.W.alike, ints_like]
  · obtain ⟨a, _, rfl⟩ := List.mem_map.mp hx
    simp [rowD]
theorem rows_depth : ∀ nss : List (List Int), PyData.depthAll (nss.map rowD) ≤ 10
  | [] => by simp [PyData.depthAll]
  | ns :: nss => by
    have h1 := ints_depth ns
    have h2 := rows_depth nss
    simp only [List.map_cons, rowD, PyData.depthAll, PyData.depth] at h2 ⊢
    have : PyData.depthAll (nss.map rowD) = PyData.depthAll (List.map (fun ns => PyData.tuple (List.map PyData.int ns)) nss) := rfl
    omega
theorem rows_plain : ∀ nss : List (List Int), PyData.plainAll (nss.map rowD) = true
  | [] => rfl
  | ns :: nss => by
    have := rows_plain nss
    show ((rowD ns).plain && PyData.plainAll (nss.map rowD)) = true
    rw [this]
    show (PyData.plainAll (ns.map PyData.int) && true) = true
    rw [ints_plain ns]
    rfl
section
variable {C : Cx}
theorem call_minRL (hc : C.calm = true) (hu : C.A.units + 64 < cLine) : CallR C (.builtin "min") (rApp C.K minRL) := by
  intro pins s σ H xs us Q I rx ⟨Z, ds, v, z, hx, hf, fr⟩
  have hd : C.A.handled = none := I.ok.hd hc
  unfold minRL at hf
  split at hf
  · rename_i d ds
    split at hf
    · rename_i nss e1
      cases hf
      have eds := rowsD_eq e1
      obtain ⟨x, rfl, a, vs, rfl, r1, l, q⟩ := RepHs.one hx
      obtain ⟨its, n, rv, _, ea⟩ := inv_rdL I r1
      rw [Vals.ref1 rx]
      have hr : ∃ as, ReadsAll s.heap its (d :: ds) as := Reps.reads I (d :: ds) vs its (q.up z) rv (by rw [eds]; exact rows_plain nss)
      obtain ⟨as, hr⟩ := hr
      refine min_list_at hd (vs := its.toArray) ⟨_, ea, rfl, _, rfl⟩ (by simpa using hr) (by rw [eds]; exact rows_like) (by rw [eds]; have := rows_depth nss; omega) fun i v h' tk hv hi hk => ?_
      obtain ⟨y, e2, ry⟩ := q.get hi
      obtain ⟨u, hu2, ru⟩ := rv.get e2
      have hv' : its[i]? = some v := by simpa using hv
      rw [hv'] at hu2
      cases hu2
      exact ⟨y, H, I.kept hk, ru, fr.sc z ry⟩
    · cases hf
  · cases hf
end
end MS

/-! part 6s: an own list of lists; what is made apart, and changed within -/
namespace MS
open PySem PySem.Spec PyProof.Rows L2
section
variable {C : Cx} {X : Fx} {W : WX} {Z F H : Hp} {r : List Val} {σ : L2.St} {e : Expr} {pos : Pos}
def eNL : M Val := fun r => .ok (.ow (.nl [])) r
theorem de_nl0 (hd : DE C X W e (eLst [])) : DE C X W e eNL := PE.imp hd fun σ H Q h => by
  obtain ⟨Z, F, r, g, h⟩ := h
  refine ⟨Z, F, r, g, ?_⟩
  intro Z' H' ex g' x rv
  obtain ⟨a, vs, rfl, h1, l, q, z, f, o⟩ := rv
  cases q
  exact h Z' H' ex g' _ ⟨a, rfl, ⟨[], h1, l, .nil⟩, fun b hb => by rw [List.mem_singleton.mp (show b ∈ [a] from hb)]; exact ⟨z, f, o⟩⟩
/-- an own list comes to an own list of lists -/
def eApL (i : Nat) (m : M Val) : M Val := fun r => match r[i]? with
  | some (.ow (.nl _)) => match m r with
    | .ok (.ol xs) r1 => match r1[i]? with
      | some (.ow (.nl xss)) => if xss.length < LINE then .ok (.fz .none) (r1.set i (.ow (.nl (xss ++ [xs])))) else .err
      | _ => .err
    | .ok _ _ => .err
    | .exc c ds r' => .exc c ds r'
    | .err => .err
  | _ => .err
theorem apl_run {i : Nat} {m : M Val} {Q : VK} (h : rdE X W (eApL i m) σ H Q) : tBM C.K "list" rAppend (tVar i) (tCons (rdE X W m) tNil) σ H Q := by
  obtain ⟨Z, F, r, g0, h⟩ := h
  revert h
  unfold eApL
  cases e : r[i]? with
  | none => exact fun h => h.elim
  | some v =>
    cases v with
    | un => exact fun h => h.elim
    | fz d => exact fun h => h.elim
    | od d => exact fun h => h.elim
    | ol d => exact fun h => h.elim
    | ow t =>
      cases t with
      | ob fs xs => exact fun h => h.elim
      | kt ds => exact fun h => h.elim
      | nl xss0 =>
        intro h
        obtain ⟨a, ea, ⟨vs0, ha0, _⟩, _⟩ := g0.sl i _ e
        refine ⟨.ref a, ea, .inl ⟨rfl, vs0, .inl (.inl ha0)⟩, Z, F, r, g0, ?_⟩
        revert h
        simp only
        cases m r with
        | exc c ds r' => exact fun h => h
        | err => exact fun h => h
        | ok v1 r1 =>
          cases v1 with
          | un => exact fun h => h.elim
          | fz d => exact fun h => h.elim
          | od d => exact fun h => h.elim
          | ow t => exact fun h => h.elim
          | ol xs =>
            simp only
            cases e1 : r1[i]? with
            | none => exact fun h => h.elim
            | some v =>
              cases v with
              | un => exact fun h => h.elim
              | fz d => exact fun h => h.elim
              | od d => exact fun h => h.elim
              | ol d => exact fun h => h.elim
              | ow t =>
                cases t with
                | ob fs xs => exact fun h => h.elim
                | kt ds => exact fun h => h.elim
                | nl xss =>
                  simp only
                  by_cases hl : xss.length < LINE
                  · rw [if_pos hl]
                    intro h Z1 H1 ex1 g1 x rv
                    obtain ⟨b, us, rfl, hb, lb, qb, zb, fb, ob⟩ := rv
                    obtain ⟨e2, g2⟩ := g1.hold hb zb fb ob
                    obtain ⟨a', ea', ⟨vs, ha, la, qa⟩, zf⟩ := g2.sl i _ e1
                    rw [ea] at ea'
                    cases ea'
                    have ma : a ∈ ft H1 a (.nl xss) := List.mem_singleton.mpr rfl
                    have ln : vs.length < sizeLine := by rw [qa.length, line_eq]; exact hl
                    refine ⟨a, vs, .ref b, rfl, rfl, ha, ln, ?_⟩
                    have ll : (vs ++ [V.ref b]).length ≤ sizeLine := by rw [List.length_append]; exact ln
                    have g3 := g2.write (w := .ow (.nl (xss ++ [xs]))) (o := .lst (vs ++ [.ref b])) e1 ma ea (zf a ma).1 (zf a ma).2 ⟨a, rfl, ⟨_, upd_same, ll, qa.snoc upd_same lb (qb.up e2.1)⟩, fun c hc => zf c hc⟩
                    exact h _ _ (ex1.trans e2) g3 .non .non
                  · rw [if_neg hl]
                    exact fun h => h.elim
theorem de_apl {i : Nat} {x : Str} {a : Expr} {m : M Val} {p apos : Pos} (hN : C.N[i]? = some x) (hv : Vis C.env.scope x) (ha : DE C X W a m) (slot : Slot "list" "append" "list.append" := by exact PySem.F.slot_list_append) (hty : typeOf (.builtin "list.append") = pure (.type "method_descriptor") := by exact PySem.F.type_list_append)
    (hd : (x == ("__debug__" : Str)) = false := by decide) (hcd : (x == ("__classdict__" : Str)) = false := by decide)
    (hbase : attributeBase (.Name x p) "append" C.env (eval (.Name x p) C.env) = eval (.Name x p) C.env := by rfl)
    (hfew : ((backTo pos (starEach [a] C.env)).all (fun x => !x.1) && (backToKw pos (keywordEach [] C.env)).all (fun x => x.1.isSome)
      && decide (([a] : List Expr).length + ([] : List Keyword).length + (if ([] : List Keyword).isEmpty then 0 else 1) < 30)) = true := by rfl)
    (hline : (apos.endLine == pos.line) = true := by rfl) (hs : starEach [a] C.env = (false, eval a C.env) :: starEach [] C.env := by rfl) (hplain : (backTo pos (starEach [] C.env)).any (·.1) = false := by rfl) :
    DE C X W (.Call (.Attribute (.Name x p) "append" apos) [a] [] pos) (eApL i m) :=
  PE.imp (pe_bm PySem.F.plainAttrs_list slot hty mt_append (pe_var hN hv hd hcd) (pa_cons ha pa_nil hs) hbase hfew hline hs hplain) fun _ _ _ h => apl_run h
/-! ### made apart -/
def atomD : D → Bool
  | .none => true
  | .bool _ => true
  | .int _ => true
  | .str _ => true
  | _ => false
def noL : D → Bool
  | .tuple ds => ds.all atomD
  | d => atomD d
def barV : Val → Val
  | .fz d => if noL d = true then .fz d else .un
  | .ow (.kt ds) => if ds.all atomD = true then .ow (.kt ds) else .un
  | _ => .un
/-- the tuples alone -/
def tupsZ (Z : Hp) : Hp := fun b => match Z b with
  | some (.tup xs) => some (.tup xs)
  | some (.frz o (.tup xs)) => some (.frz o (.tup xs))
  | _ => none
theorem tups_same (Z : Hp) : Same (tupsZ Z) Z := fun b o e => by
  unfold tupsZ at e
  split at e
  · rename_i xs h; rw [h]; exact e
  · rename_i o' xs h; rw [h]; exact e
  · cases e
theorem tups_lst {Z : Hp} {b : Addr} {us : List V} (h : tupsZ Z b = some (.lst us)) : False := by
  unfold tupsZ at h
  split at h <;> cases h
theorem atom_rep {K : PySem.W.Frag} {Z Z' : Hp} {v : V} {d : D} (h : Rep K Z v d) (a : atomD d = true) : Rep K Z' v d := by
  cases h with
  | non => exact .non
  | bl b => exact .bl b
  | int i => exact .int i
  | str x => exact .str x
  | lst _ _ _ => cases a
  | tup _ _ _ => cases a
  | dct _ _ => cases a
theorem atoms_rep {K : PySem.W.Frag} {Z Z' : Hp} : ∀ {ds : List D} {vs : List V}, Reps K Z vs ds → ds.all atomD = true → Reps K Z' vs ds
  | [], _, h, _ => by cases h; exact .nil
  | d :: ds, _, h, a => by
    rw [List.all_cons, Bool.and_eq_true] at a
    cases h with
    | cons r rs => exact .cons (atom_rep r a.1) (atoms_rep rs a.2)
theorem bar_rep {K : PySem.W.Frag} {Z : Hp} {v : V} {d : D} (h : Rep K Z v d) (a : noL d = true) : Rep K (tupsZ Z) v d := by
  cases h with
  | non => exact .non
  | bl b => exact .bl b
  | int i => exact .int i
  | str x => exact .str x
  | lst _ _ _ => cases a
  | tup s l q => exact .tup (by unfold tupsZ; rw [s]) l (atoms_rep q a)
  | dct _ _ => cases a
theorem bar_slot {K : PySem.W.Frag} {dk : Addr → Prop} {Z F F' H : Hp} {y : Option (Option V)} {v : Val} (h : SlotR K dk Z F H y v) : SlotR K dk (tupsZ Z) F' H y (barV v) ∧ (barV v).own = false := by
  cases v with
  | un => exact ⟨trivial, rfl⟩
  | ol xs => exact ⟨trivial, rfl⟩
  | od xs => exact ⟨trivial, rfl⟩
  | fz d =>
    unfold barV
    by_cases c : noL d = true
    · simp only
      rw [if_pos c]
      obtain ⟨x, e, q⟩ := h
      exact ⟨⟨x, e, bar_rep q c⟩, rfl⟩
    · simp only
      rw [if_neg c]
      exact ⟨trivial, rfl⟩
  | ow t =>
    cases t with
    | ob fs xs => exact ⟨trivial, rfl⟩
    | nl xss => exact ⟨trivial, rfl⟩
    | kt ds =>
      unfold barV
      by_cases c : ds.all atomD = true
      · simp only
        rw [if_pos c]
        obtain ⟨a, e, ⟨xs, o, h1, d, l, q⟩, _⟩ := h
        exact ⟨⟨a, e, ⟨xs, o, by unfold tupsZ; rw [h1], d, l, atoms_rep q c⟩, fun b hb => nomatch hb⟩, rfl⟩
      · simp only
        rw [if_neg c]
        exact ⟨trivial, rfl⟩
/-- two statements run with nothing but plain things at hand, then the list that they made is changed within, and itself -/
def sIso (n i : Nat) (a b : M Fl) : M Fl := fun r => match a (r.map barV) with
  | .ok .nx r1 => match b r1 with
    | .ok .nx r2 => match r2[i]? with
      | some (.ow (.nl (xs :: xss))) => if r.length = n ∧ r2.length = n ∧ xs.length < LINE ∧ xss.length + 1 < LINE then .ok .nx (r.set i .un) else .err
      | _ => .err
    | _ => .err
  | _ => .err
theorem atI_zero {α : Type} (x : α) (l : List α) : L2.atI (x :: l) 0 = some x := by
  unfold L2.atI L2.ixN
  rw [if_pos (by omega), if_pos (by simp)]
  rfl
def apart (X : Fx) (B : List Nat) (t : L2.St) : Fx := { X with B := B, t := t }
theorem iso_in {B : List Nat} (g : G X Z F r σ H) : G (apart X B σ) (tupsZ Z) (noT X.ex.tb H) (r.map barV) σ H := by
  have at' : ∀ {j : Nat} {v : Val}, (r.map barV)[j]? = some v → ∃ u, r[j]? = some u ∧ v = barV u := fun {j v} h => by
    rw [List.getElem?_map] at h
    obtain ⟨u, e1, e2⟩ := Option.map_eq_some_iff.mp h
    exact ⟨u, e1, e2.symm⟩
  refine ⟨(tups_same Z).trans g.zh, noT_same, by rw [List.length_map]; exact g.len, fun j v h => ?_, fun j k v w c h1 h2 e1 e2 => ?_, fun j _ => rfl, g.hh.trans (g.nf.same g.fh), fun b hb => by unfold tupsZ; rw [g.nz b hb], noT_no, g.tb⟩
  · obtain ⟨u, e, rfl⟩ := at' h
    exact (bar_slot (g.sl j u e)).1
  · obtain ⟨u, e, rfl⟩ := at' h1
    rw [foot_no (bar_slot (F' := noT X.ex.tb H) (g.sl j u e)).2] at e1
    cases e1
theorem iso_run {n i : Nat} {a b : M Fl} {B : List Nat} {D : Ends} (hB : ∀ j < n, j ≠ i → j ∈ B) (hi : i ∉ X.B) (h : rdS X W (sIso n i a b) D σ H) :
    tSeq (rdS (apart X B σ) W a) (tSeq (rdS (apart X B σ) W b) (tSeq (tDrop (tBM C.K "list" rAppend (tOp (rIxL C.K) (tVar i) (tC (.int 0))) (tCons (tC (.int 0)) tNil))) (tDrop (tBM C.K "list" rAppend (tVar i) (tCons (tC (.int 0)) tNil))))) D σ H := by
  obtain ⟨Z, F, r, g, h⟩ := h
  refine ⟨tupsZ Z, noT X.ex.tb H, r.map barV, iso_in g, ?_⟩
  revert h
  unfold sIso
  cases a (r.map barV) with
  | exc c ds r' => exact fun h => h.elim
  | err => exact fun h => h.elim
  | ok f r1 =>
    cases f with
    | bk => exact fun h => h.elim
    | ct => exact fun h => h.elim
    | rt v => exact fun h => h.elim
    | nx =>
      simp only
      intro h σ1 Z1 H1 ex1 g1
      refine ⟨Z1, noT X.ex.tb H, r1, g1, ?_⟩
      revert h
      cases b r1 with
      | exc c ds r' => exact fun h => h.elim
      | err => exact fun h => h.elim
      | ok f r2 =>
        cases f with
        | bk => exact fun h => h.elim
        | ct => exact fun h => h.elim
        | rt v => exact fun h => h.elim
        | nx =>
          simp only
          intro h σ2 Z2 H2 ex2 g2
          revert h
          cases e : r2[i]? with
          | none => exact fun h => h.elim
          | some v =>
            cases v with
            | un => exact fun h => h.elim
            | fz d => exact fun h => h.elim
            | od d => exact fun h => h.elim
            | ol d => exact fun h => h.elim
            | ow t =>
              cases t with
              | ob fs xs => exact fun h => h.elim
              | kt ds => exact fun h => h.elim
              | nl xss0 =>
                cases xss0 with
                | nil => exact fun h => h.elim
                | cons xs xss =>
                  simp only
                  split
                  · rename_i hc
                    obtain ⟨c1, c2, c3, c4⟩ := hc
                    intro h
                    have ex : Ext (tupsZ Z) Z2 (noT X.ex.tb H) := ex1.trans ex2
                    obtain ⟨p, ep, ⟨vs, hp, lp, qp⟩, zf⟩ := g2.sl i _ e
                    obtain ⟨zp, np'⟩ := zf p (List.mem_singleton.mpr rfl)
                    have offT : ∀ {c : Addr} {us : List V}, H2 c = some (.lst us) → c ∉ X.ex.tb.map Prod.fst := fun {c us} e => tab_ne g2.tb e fun _ z => nomatch z
                    have np : H p = none := by
                      unfold noT at np'
                      rw [if_neg (offT hp)] at np'
                      exact np'
                    cases qp with
                    | cons hb lb qb qs =>
                      rename_i q us vs'
                      have hq2 : H2 q = some (.lst us) := g2.zh _ _ hb
                      have nq : H q = none := by
                        cases hq : H q with
                        | none => rfl
                        | some o =>
                          have nh : noT X.ex.tb H q = some o := by
                            unfold noT
                            rw [if_neg (offT hq2)]
                            exact hq
                          have e1 := g2.fh _ _ nh
                          rw [hq2] at e1
                          cases e1
                          have z0 : tupsZ Z q = none := by
                            cases z : tupsZ Z q with
                            | none => rfl
                            | some w =>
                              have := ex.1 _ _ z
                              rw [hb] at this
                              cases this
                              exact (tups_lst z).elim
                          have := ex.2 q _ nh True.intro z0
                          rw [hb] at this
                          cases this
                      have npq : p ≠ q := fun e => by rw [e, hb] at zp; cases zp
                      have ul : us.length < sizeLine := by rw [qb.length, line_eq]; exact c3
                      have vl : (V.ref q :: vs').length < sizeLine := by rw [List.length_cons, qs.length, line_eq]; exact c4
                      have hp3 : upd H2 q (.lst (us ++ [.int 0])) p = some (.lst (V.ref q :: vs')) := by rw [upd_ne npq]; exact hp
                      refine ⟨.ref p, ep, p, _, 0, .ref q, rfl, rfl, .inl (.inl hp), atI_zero _ _, .inl ⟨rfl, us, .inl (.inl hq2)⟩, q, us, .int 0, rfl, rfl, hq2, ul, ?_⟩
                      refine ⟨.ref p, ep, .inl ⟨rfl, _, .inl (.inl hp3)⟩, p, _, .int 0, rfl, rfl, hp3, vl, ?_⟩
                      have sm : Same (noT X.ex.tb H) (upd (upd H2 q (.lst (us ++ [.int 0]))) p (.lst (V.ref q :: vs' ++ [.int 0]))) := fun c o ec => by
                        have ec' := noT_same _ _ ec
                        rw [upd_ne (ne_of_none ec' np), upd_ne (ne_of_none ec' nq)]
                        exact g2.fh _ _ ec
                      have g4 := g.growT sm (tabs_upd (tabs_upd g2.tb hq2 trivial) hp3 trivial)
                      have ls : σ2.length = σ.length := by rw [← g2.len, c2, ← c1, g.len]
                      have off : ∀ j, j ≠ i → σ2[j]? = σ[j]? := fun j hj => by
                        by_cases hl : j < n
                        · exact g2.kp j (hB j hl hj)
                        · have l1 : σ.length = n := by rw [← g.len, c1]
                          rw [List.getElem?_eq_none (by omega), List.getElem?_eq_none (by omega)]
                      have st : ∀ {j : Nat} {v : Val}, (r.set i .un)[j]? = some v → (j = i ∧ v = .un) ∨ (j ≠ i ∧ r[j]? = some v) := fun {j v} hv => by
                        rcases set_get hv with ⟨rfl, _, rfl⟩ | ⟨hj, hv⟩
                        · exact .inl ⟨rfl, rfl⟩
                        · exact .inr ⟨Ne.symm hj, hv⟩
                      have ge : G X Z F (r.set i .un) σ2 _ := ⟨g4.zh, g4.fh, by rw [List.length_set, ls]; exact g.len, fun j v hv => by
                          rcases st hv with ⟨rfl, rfl⟩ | ⟨hj, hv⟩
                          · trivial
                          · rw [off j hj]
                            exact g4.sl j v hv, fun j k v w c h1 h2 e1 e2 => by
                          rcases st h1 with ⟨rfl, rfl⟩ | ⟨hj, h1⟩
                          · rw [foot_un] at e1; cases e1
                          · rcases st h2 with ⟨rfl, rfl⟩ | ⟨hk, h2⟩
                            · rw [foot_un] at e2; cases e2
                            · rw [off j hj] at e1
                              rw [off k hk] at e2
                              exact g4.di j k v w c h1 h2 e1 e2, fun j hj => by rw [off j fun e => hi (e ▸ hj)]; exact g.kp j hj, g.hh, g.nz, g.nf, g4.tb⟩
                      exact h σ2 Z _ (Ext.refl _ _) ge
                  · exact fun h => h.elim
theorem dss_iso {n i : Nat} {x : Str} {a b : M Fl} {B : List Nat} {s1 s2 : Stmt} {p1 p2 p3 p4 p5 p6 p7 q1 q2 q3 q4 q5 : Pos} {j1 j2 j3 : Nat} (hN : C.N[i]? = some x) (hv : Vis C.env.scope x) (h1 : ∀ t, DS C (apart X B t) W s1 a) (h2 : ∀ t, DS C (apart X B t) W s2 b)
    (hB : ∀ j < n, j ≠ i → j ∈ B := by decide) (hi : i ∉ X.B := by exact of_decide_eq_true rfl) (p3' : PS C (.Expr (.Call (.Attribute (.Subscript (.Name x p1) (.Constant (.int 0) j1 p2) p3) "append" p4) [.Constant (.int 0) j2 p5] [] p6) p7) (tDrop (tBM C.K "list" rAppend (tOp (rIxL C.K) (tVar i) (tC (.int 0))) (tCons (tC (.int 0)) tNil))))
    (p4' : PS C (.Expr (.Call (.Attribute (.Name x q1) "append" q2) [.Constant (.int 0) j3 q3] [] q4) q5) (tDrop (tBM C.K "list" rAppend (tVar i) (tCons (tC (.int 0)) tNil)))) :
    DSs C X W [s1, s2, .Expr (.Call (.Attribute (.Subscript (.Name x p1) (.Constant (.int 0) j1 p2) p3) "append" p4) [.Constant (.int 0) j2 p5] [] p6) p7, .Expr (.Call (.Attribute (.Name x q1) "append" q2) [.Constant (.int 0) j3 q3] [] q4) q5] (sIso n i a b) :=
  ⟨fun pins s σ H D I h => (pss_cons (h1 σ) (pss_cons (h2 σ) (pss_cons p3' (pss_one p4')))).run pins s σ H D I (iso_run hB hi h)⟩
theorem ps_app0 {i : Nat} {x : Str} {p q1 q2 q3 q4 : Pos} {j : Nat} (hN : C.N[i]? = some x) (hv : Vis C.env.scope x) (slot : Slot "list" "append" "list.append" := by exact PySem.F.slot_list_append) (hty : typeOf (.builtin "list.append") = pure (.type "method_descriptor") := by exact PySem.F.type_list_append)
    (hd : (x == ("__debug__" : Str)) = false := by decide) (hcd : (x == ("__classdict__" : Str)) = false := by decide)
    (hbase : attributeBase (.Name x p) "append" C.env (eval (.Name x p) C.env) = eval (.Name x p) C.env := by rfl)
    (hline : (q1.endLine == q3.line) = true := by rfl) (hs : swapsWith (.Call (.Attribute (.Name x p) "append" q1) [.Constant (.int 0) j q2] [] q3) none q4.line C.env = pure false := by rfl) :
    PS C (.Expr (.Call (.Attribute (.Name x p) "append" q1) [.Constant (.int 0) j q2] [] q3) q4) (tDrop (tBM C.K "list" rAppend (tVar i) (tCons (tC (.int 0)) tNil))) :=
  ps_expr (pe_bm PySem.F.plainAttrs_list slot hty mt_append (pe_var hN hv hd hcd) (pa_cons pe_int pa_nil) hbase (by rfl) hline) hs
theorem ps_app00 {i : Nat} {x : Str} {p p2 p3 q1 q2 q3 q4 : Pos} {j j' : Nat} (hN : C.N[i]? = some x) (hv : Vis C.env.scope x) (slot : Slot "list" "append" "list.append" := by exact PySem.F.slot_list_append) (hty : typeOf (.builtin "list.append") = pure (.type "method_descriptor") := by exact PySem.F.type_list_append)
    (hd : (x == ("__debug__" : Str)) = false := by decide) (hcd : (x == ("__classdict__" : Str)) = false := by decide)
    (hbase : attributeBase (.Subscript (.Name x p) (.Constant (.int 0) j' p2) p3) "append" C.env (eval (.Subscript (.Name x p) (.Constant (.int 0) j' p2) p3) C.env) = eval (.Subscript (.Name x p) (.Constant (.int 0) j' p2) p3) C.env := by rfl)
    (hline : (q1.endLine == q3.line) = true := by rfl) (hs : swapsWith (.Call (.Attribute (.Subscript (.Name x p) (.Constant (.int 0) j' p2) p3) "append" q1) [.Constant (.int 0) j q2] [] q3) none q4.line C.env = pure false := by rfl) :
    PS C (.Expr (.Call (.Attribute (.Subscript (.Name x p) (.Constant (.int 0) j' p2) p3) "append" q1) [.Constant (.int 0) j q2] [] q3) q4) (tDrop (tBM C.K "list" rAppend (tOp (rIxL C.K) (tVar i) (tC (.int 0))) (tCons (tC (.int 0)) tNil))) :=
  ps_expr (pe_bm PySem.F.plainAttrs_list slot hty mt_append (pe_ix ix_list (pe_var hN hv hd hcd) pe_int (fun _ _ => rfl)) (pa_cons pe_int pa_nil) hbase (by rfl) hline) hs
end
end MS

/-! part 6t: sorted(xs, key=f) over tracked heaps -/
namespace MS
open PySem PySem.Spec PyProof.Rows L2
/-- the very object at a -/
def ObO (a : Addr) (o : Obj) : HO := .ext fun h => h.get? a = some o
theorem obO_ok {P : Program} {w : World} {H : Hp} {h : Heap} {a : Addr} {o : Obj} (e : h.get? a = some o) : ObjOk P w H h a (ObO a o) := ⟨e, ⟨o, e⟩, fun _ _ q st => st _ q⟩
theorem obO_ne {a : Addr} {o : Obj} : ∀ ps, ObO a o ≠ .tbl ps := fun ps z => by cases z
section
variable {X : Cx} {pins : List (Addr × Obj)} {σ : L2.St} {H : Hp} {s : Shared}
theorem obO_at (I : Inv X pins σ H s) {a : Addr} {o : Obj} (h : H a = some (ObO a o)) : s.heap.get? a = some o := (I.hok a _ h).1
/-- an object of ours, younger than the frame, may be forgotten, and the heap read without it -/
theorem untrackN {a : Addr} {φ : Heap → Prop} (I : Inv X pins σ H s) (ha : H a = some (.ext φ)) (n0 : X.s_0.heap.get? a = none) :
    ∃ G : Heap, (∀ b o, G.get? b = some o → s.heap.get? b = some o) ∧ G.get? a = none ∧ Inv X pins σ (delH H a) { s with heap := G } := by
  obtain ⟨G, g1, g2⟩ := restrict s.heap fun b => decide (b ≠ a)
  have gk : ∀ b o, b ≠ a → s.heap.get? b = some o → G.get? b = some o := fun b o hb e => by
    rw [g1 b (decide_eq_true hb)]
    exact e
  have ga : G.get? a = none := g2 a (decide_eq_false fun z => z rfl)
  have gs : ∀ b o, G.get? b = some o → s.heap.get? b = some o := fun b o e => by
    by_cases hb : b = a
    · rw [hb, ga] at e
      cases e
    · rw [← g1 b (decide_eq_true hb)]
      exact e
  have ne0 : ∀ b o, X.s_0.heap.get? b = some o → b ≠ a := fun b o e z => by
    rw [z, n0] at e
    cases e
  have neN : ∀ b, H b = none → b ≠ a := fun b e z => by
    rw [z, ha] at e
    cases e
  have neT : ∀ b xs, H b = some (.tup xs) → b ≠ a := fun b xs e z => by
    rw [z, ha] at e
    cases e
  have neF : ∀ b o u, H b = some (.frz o u) → b ≠ a := fun b o u e z => by
    rw [z, ha] at e
    cases e
  have neB : ∀ b ps, H b = some (.tbl ps) → b ≠ a := fun b ps e z => by
    rw [z, ha] at e
    cases e
  have neO : ∀ b c, H b = some (.own c) → b ≠ a := fun b c e z => by
    rw [z, ha] at e
    cases e
  have cellK : ∀ x c, X.env.cells.lookup x = some c → ∀ v, s.heap.IsCell c v → G.IsCell c v := fun x c e v ⟨o, ho, hd⟩ => ⟨o, gk c o (neN c (I.freeC x c e)) ho, hd⟩
  refine ⟨G, gs, ga, ⟨I.ok, I.os, I.bare, ⟨fun b o e n hb hq => ?_, fun b o e n hb hq => ?_, fun b o e n hq => ?_, fun b o e hq => ?_, fun b xs e => ?_, fun b o u e => ?_, fun b ps e => ?_⟩, ?_, fun x c e => ?_, ?_, fun x c e => ?_, fun p hp => ?_, fun b u e => ?_, I.len⟩⟩
  · exact gk b o (ne0 b o e) (I.base.keep b o e n hb hq)
  · obtain ⟨sl, q⟩ := I.base.slot b o e n hb hq
    exact ⟨sl, gk b _ (ne0 b o e) q⟩
  · rw [delH_ne (ne0 b o e)]
    exact I.base.free b o e n hq
  · obtain ⟨o', q⟩ := I.base.there b o e hq
    exact ⟨o', gk b o' (ne0 b o e) q⟩
  · have q := I.base.tups b xs e
    rw [delH_ne (neT b xs q)]
    exact q
  · have q := I.base.frzs b o u e
    rw [delH_ne (neF b o u q)]
    exact q
  · obtain ⟨m, q⟩ := I.base.tbls b ps e
    exact ⟨m, by rw [delH_ne (neB b _ q)]; exact q⟩
  · obtain ⟨m, ⟨o, es, ep, ho, r⟩, hl⟩ := I.loc
    refine ⟨m, ⟨o, es, ep, gk _ _ (neN _ I.free) ho, r⟩, fun i x v e1 e2 e3 => ?_⟩
    obtain ⟨u, r', l⟩ := hl i x v e1 e2 e3
    refine ⟨u, r', ?_⟩
    rcases l with l | ⟨k, c, ec, z⟩
    · exact .inl l
    · exact .inr ⟨k, c, ec, cellK x c ec _ z⟩
  · obtain ⟨v, z⟩ := I.cell x c e
    exact ⟨v, cellK x c e v z⟩
  · rw [delH_ne (neN _ I.free)]
    exact I.free
  · rw [delH_ne (neN _ (I.freeC x c e))]
    exact I.freeC x c e
  · obtain ⟨e, n, ne, nf, d⟩ := I.pin p hp
    exact ⟨gk _ _ (neN _ n) e, by rw [delH_ne (neN _ n)]; exact n, ne, nf, d⟩
  · have hb : b ≠ a := fun z => by
      rw [z, delH_same] at e
      cases e
    rw [delH_ne hb] at e
    refine (I.hok b u e).stay (fun c v hc q => gk c v ?_ q) (fun c q => ?_) fun c xs q => ?_
    · rcases hc with z | z
      · rw [z]
        exact hb
      · exact neO _ _ z
    · rw [delH_ne (neO c b q)]
      exact q
    · rw [delH_ne (neT c xs q)]
      exact q
theorem upd_delH {a : Addr} {o : HO} : upd (delH H a) a o = upd H a o := by
  funext b
  by_cases e : b = a
  · rw [e, upd_same, upd_same]
  · rw [upd_ne e, upd_ne e, delH_ne e]
/-- it is put otherwise -/
theorem reobj {a : Addr} {o o' : Obj} {h' : Heap} {t' : Nat} (I : Inv X pins σ H s) (ha : H a = some (ObO a o)) (n0 : X.s_0.heap.get? a = none) (k : ∀ b u, b ≠ a → s.heap.get? b = some u → h'.get? b = some u) (hm : h'.get? a = some o') :
    Inv X pins σ (upd H a (ObO a o')) { s with heap := h', toks := t' } := by
  obtain ⟨G, gs, ga, J⟩ := untrackN I ha n0
  have := J.laidN (h' := h') (a := a) (o := ObO a o') (t' := t') (fun b u e => k b u (fun z => by rw [z, ga] at e; cases e) (gs b u e)) ga delH_same (obO_ok hm)
  rw [upd_delH] at this
  exact this
end
theorem tabs_offOb {C : Cx} {pins : List (Addr × Obj)} {σ : L2.St} {s : Shared} {T : List (Addr × Str)} {H1 H' : Hp} {a : Addr} {o : Obj} (I : Inv C pins σ H1 s) (tb : LamX.Tabs T H1) (ha : H1 a = some (ObO a o)) (hd : ∀ vs, o.data ≠ .fields vs) (k : ∀ b u, b ≠ a → H1 b = some u → H' b = some u) : LamX.Tabs T H' := fun p hp => by
  obtain ⟨ps, t1, t2, t3⟩ := tb p hp
  refine ⟨ps, k _ _ (fun z => ?_) t1, t2, fun pos cv hc => ?_⟩
  · rw [z, ha] at t1
    exact obO_ne ps (Option.some.inj t1)
  · obtain ⟨c, e1, e2⟩ := t3 pos cv hc
    refine ⟨c, e1, k _ _ (fun z => ?_) e2⟩
    rw [z] at e2
    obtain ⟨⟨oc, vs, t, q1, q2, _⟩, _⟩ := I.hok a _ e2
    have q3 := obO_at I ha
    rw [q3] at q1
    cases q1
    exact hd vs q2
theorem each_vals {us : List Value} {α : Type} {bs : List (V × α)} (e : PySem.W.EachIs (fun u (b : V × α) => RelV b.1 u) us bs) : Vals (bs.map Prod.fst) us := by
  induction e with
  | nil => exact .nil
  | cons h1 _ ih => exact .cons h1 ih
theorem zip_each : ∀ {us : List Value} {xs : List V} {ks : List Int}, Vals xs us → ks.length = us.length → PySem.W.EachIs (fun u (b : V × Int) => RelV b.1 u) us (xs.zip ks)
  | [], [], ks, _, _ => by
    cases ks
    · exact .nil
    · exact .nil
  | u :: us, x :: xs, k :: ks, r, h => by
    cases r with
    | cons r1 r2 => exact .cons r1 (zip_each r2 (by simpa using h))
  | u :: us, x :: xs, [], r, h => by simp at h
  | [], x :: xs, ks, r, h => by cases r
  | u :: us, [], ks, r, h => by cases r
theorem valsAt {xs : List V} {us : List Value} {i : Nat} {u : Value} (r : Vals xs us) (e : us[i]? = some u) : ∃ x, xs[i]? = some x ∧ RelV x u := by
  have hi : i < xs.length := by rw [r.length]; exact (List.getElem?_eq_some_iff.mp e).1
  obtain ⟨u', e1, e2⟩ := r.get (List.getElem?_eq_getElem hi)
  rw [e] at e1
  cases e1
  exact ⟨_, List.getElem?_eq_getElem hi, e2⟩
/-- sorted by the keys, stably -/
def keyLe {α : Type} (p q : α × Int) : Bool := PySem.W.dataLe false (fun b : α × Int => PyData.int b.2) p q
def sortK {α : Type} (ds : List α) (ks : List Int) : List α := ((ds.zip ks).mergeSort keyLe).map Prod.fst
theorem sortK_map {α β : Type} (f : α → β) (ds : List α) (ks : List Int) : (sortK ds ks).map f = sortK (ds.map f) ks := by
  unfold sortK
  have e : (ds.map f).zip ks = (ds.zip ks).map fun p => (f p.1, p.2) := by
    rw [List.zip_map_left]
    rfl
  rw [e, ← List.map_mergeSort (r := keyLe) (s := keyLe) (f := fun p : α × Int => (f p.1, p.2)) (fun a _ b _ => rfl), List.map_map, List.map_map]
  rfl
theorem each_ints {h : Heap} {kz : List Int} {vs : List Value} (e : PySem.W.EachIs (fun v (k : Int) => ∃ t, v = Value.int k t) vs kz) : PySem.W.EachIs (fun v (d : PyData) => ∃ as, Reads h v d as) vs (kz.map PyData.int) := by
  induction e with
  | nil => exact .nil
  | cons h1 _ ih =>
    obtain ⟨t, rfl⟩ := h1
    exact .cons ⟨[], .int _ t⟩ ih
section
open PySem.W
variable {C : Cx} {pins : List (Addr × Obj)} {σ : L2.St} {H : Hp} {s : Shared} {E : Value → Shared → Prop}
theorem sorted_lam {T : List (Addr × Str)} {l fa : Addr} {n : Nat} {its : List Value} {vsV : List V} {kz : List Int} {Q : VK} (I : Inv C pins σ H s) (tb : LamX.Tabs T H) (hl : s.heap.get? l = some { cls := .type "list", data := .seq its.toArray n }) (rv : Vals vsV its) (hz : its.length ≤ sizeLine) (hk : kz.length = its.length) (hu : C.A.units + 66 < cLine)
    (turn : ∀ (H1 : Hp) (s1 : Shared) (i : Nat) (x : V) (v : Value) (k : Int), Inv C pins σ H1 s1 → Same (noT T H) H1 → LamX.Tabs T H1 → vsV[i]? = some x → kz[i]? = some k → RelV x v →
      wpAny (model C.prog C.w) C.A.in1.in1 (call (.ref fa) [v]) (fun u s2 => ∃ t H2, u = .int k t ∧ Inv C pins σ H2 s2 ∧ Same (noT T H1) H2 ∧ LamX.Tabs T H2) (fun _ _ => False) s1)
    (h : ∀ (H' : Hp) (p : Addr), Same (noT T H) H' → LamX.Tabs T H' → H p = none → H' p = some (.lst (sortK vsV kz)) → Q (.ref p) H') :
    wpAny (model C.prog C.w) C.A (call (.builtin "sorted") [.ref l] [(Str.ofString "key", .ref fa)]) (EP C pins σ Q) E s := by
  refine sorted_of_sort ⟨_, hl, rfl, _, rfl⟩ hz (ksk_s1 _ _) (fun _ => ksk_l1 _ _) fun E' => ?_
  rw [ksk_t1]
  -- the copy
  have ls0 : C.s_0.heap.objs.size ≤ s.heap.objs.size := I.sz
  have ho : (copyHeap s.heap its).get? (s.heap.objs.size + 1) = some (seqObj "list" its.toArray 0) := copyHeap_at s.heap its
  obtain ⟨a, hA⟩ : ∃ a, a = s.heap.objs.size + 1 := ⟨_, rfl⟩
  rw [← hA] at ho ⊢
  have nHa : H a = none := I.hok.fresh (by omega)
  have n0a : C.s_0.heap.get? a = none := Heap.get?_none_of_le (by omega)
  obtain ⟨e1, ho1⟩ : ∃ e1, ((copyHeap s.heap its).update a (Obj.mapSeq fun _ => (#[] : Array Value))).get? a = some (seqObj "list" #[] e1) := ⟨_, get?_update_seq ho fun _ => #[]⟩
  have aSz : a < (copyHeap s.heap its).objs.size := Heap.lt_size ho
  have hkS : (((copyHeap s.heap its).update a (Obj.mapSeq fun _ => (#[] : Array Value))).push (seqObj "tuple" its.toArray 0)).objs.size = (copyHeap s.heap its).objs.size + 1 := by rw [size_push', Heap.size_update]
  unfold ksk_tree
  refine wpAny_bind (listItems_at (s := { s with heap := copyHeap s.heap its }) ho rfl ?_)
  refine wpAny_bind (listUpdate_at (s := { s with heap := copyHeap s.heap its }) ho rfl ?_ (by rw [List.size_toArray]; exact hz) (Nat.zero_le _))
  refine wpAny_bind (seqEpoch_at ho1 rfl ?_)
  refine wpAny_bind (wpAny_newTuple ?_ hz)
  refine wpAny_bind (wpAny_newList ?_ (Nat.zero_le _))
  refine wpAny_holding ?_
  obtain ⟨kS, hKS⟩ : ∃ kS, kS = (((copyHeap s.heap its).update a (Obj.mapSeq fun _ => (#[] : Array Value))).push (seqObj "tuple" its.toArray 0)).objs.size := ⟨_, rfl⟩
  obtain ⟨h0, hh0⟩ : ∃ h0, h0 = (((copyHeap s.heap its).update a (Obj.mapSeq fun _ => (#[] : Array Value))).push (seqObj "tuple" its.toArray 0)).push (seqObj "list" #[] 0) := ⟨_, rfl⟩
  have hka : h0.get? kS = some (seqObj "list" #[] 0) := by rw [hh0, hKS]; exact Heap.get?_push_size _ rfl
  show wpAny (model C.prog C.w) C.A.in1.in1 (ksk_rest a (.ref fa) false its.toArray e1 (.ref _)) _ _ { s with heap := _ }
  rw [← hKS, ← hh0] 
  rw [← hKS] at hkS
  have kS1 : a < kS := by omega
  have nHk : H kS = none := I.hok.fresh (by omega)
  have n0k : C.s_0.heap.get? kS = none := Heap.get?_none_of_le (by omega)
  -- the two lists are known
  have haa : h0.get? a = some (seqObj "list" #[] e1) := by rw [hh0]; exact Heap.get?_push_of_some _ (Heap.get?_push_of_some _ ho1)
  have old : ∀ b u, s.heap.get? b = some u → h0.get? b = some u := fun b u e => by
    rw [hh0]
    refine Heap.get?_push_of_some _ (Heap.get?_push_of_some _ ?_)
    rw [Heap.get?_update_ne _ _ _ _ (by rw [hA]; exact Nat.ne_of_lt (Nat.lt_succ_of_lt (Heap.lt_size e)))]
    exact copyHeap_old e
  have neK : kS ≠ a := Nat.ne_of_gt kS1
  have sz0 : h0.objs.size = kS + 1 := by rw [hh0, size_push', ← hKS]
  obtain ⟨J, hJ⟩ : ∃ J : Nat → Shared → Prop, J = fun i s' => ∃ H1 kA e, Inv C pins σ H1 s' ∧ Same (noT T H) H1 ∧ LamX.Tabs T H1 ∧ H1 kS = some (ObO kS (seqObj "list" kA e)) ∧ H1 a = some (ObO a (seqObj "list" #[] e1)) ∧ EachIs (fun v (k : Int) => ∃ t, v = Value.int k t) kA.toList (kz.take i) := ⟨_, rfl⟩
  have J0 : J 0 { s with heap := h0 } := by
    rw [hJ]
    have I1 : Inv C pins σ (upd H a (ObO a (seqObj "list" #[] e1))) { s with heap := h0 } := I.laidN (t' := s.toks) old (Heap.get?_none_of_le (by omega)) nHa (obO_ok haa)
    have nk1 : upd H a (ObO a (seqObj "list" #[] e1)) kS = none := by rw [upd_ne neK]; exact nHk
    have I2 : Inv C pins σ (upd (upd H a (ObO a (seqObj "list" #[] e1))) kS (ObO kS (seqObj "list" #[] 0))) { s with heap := h0 } := by
      obtain ⟨G, g1, g2⟩ := restrict h0 fun b => decide (b ≠ kS)
      have gs : ∀ b o, b ≠ kS → h0.get? b = some o → G.get? b = some o := fun b o hb e => by rw [g1 b (decide_eq_true hb)]; exact e
      have gk : G.get? kS = none := g2 kS (decide_eq_false fun z => z rfl)
      have J1 : Inv C pins σ (upd H a (ObO a (seqObj "list" #[] e1))) { s with heap := G } := I.laidN (t' := s.toks) (fun b u e => gs b u (Nat.ne_of_lt (Nat.lt_trans (Heap.lt_size e) (by omega))) (old b u e)) (Heap.get?_none_of_le (by omega)) nHa (obO_ok (gs _ _ neK.symm haa))
      exact J1.laidN (t' := s.toks) (fun b u e => by
        by_cases hb : b = kS
        · rw [hb, gk] at e; cases e
        · rw [g1 b (decide_eq_true hb)] at e; exact e) gk nk1 (obO_ok hka)
    have sm : Same H (upd (upd H a (ObO a (seqObj "list" #[] e1))) kS (ObO kS (seqObj "list" #[] 0))) := fun b o e => by
      rw [upd_ne (ne_of_none e nHk), upd_ne (ne_of_none e nHa)]
      exact e
    exact ⟨_, #[], 0, I2, noT_same.trans sm, tb.ext sm, upd_same, by rw [upd_ne neK.symm]; exact upd_same, by rw [List.take_zero]; exact .nil⟩
  unfold ksk_rest
  refine wpAny_bind (wpAny_rule ?_)
  first
    | rw [List.forIn_toArray]
    | (rw [← Array.forIn_toList]; simp only [List.toList_toArray])
    | rw [← Array.forIn_toList]
  refine wpAny_bind (ksk_fold J its 0 _ J0 ?step ?done)
  case step =>
    intro j x s' hx hj
    rw [hJ] at hj
    obtain ⟨H1, kA, e, I1, sm, tb1, hk1, ha1, hE⟩ := hj
    simp only [Nat.zero_add] at hE ⊢
    have hjl : j < its.length := (List.getElem?_eq_some_iff.mp hx).1
    obtain ⟨k, hkj⟩ : ∃ k, kz[j]? = some k := ⟨_, List.getElem?_eq_getElem (by omega)⟩
    obtain ⟨xv, hxv, rxv⟩ := valsAt rv hx
    have hz1 : kA.size ≤ its.length := by
      have h1 := hE.length
      rw [Array.length_toList, List.length_take] at h1
      omega
    refine wpAny_bind (wpAny_attempt (wpAny_mono (turn H1 s' j xv x k I1 sm tb1 hxv hkj rxv) (fun u s'' he => ?_) fun _ _ hF => hF.elim))
    obtain ⟨t, H2, rfl, I2, sm2, tb2⟩ := he
    try dsimp only
    have hk2 : H2 kS = some (ObO kS (seqObj "list" kA e)) := sm2 _ _ (noT_at hk1 tb1 obO_ne)
    have ha2 : H2 a = some (ObO a (seqObj "list" #[] e1)) := sm2 _ _ (noT_at ha1 tb1 obO_ne)
    have nk2 := obO_at I2 hk2
    obtain ⟨c2, hc2⟩ : ∃ c2, (s''.heap.update kS (Obj.mapSeq (·.push (Value.int k t)))).get? kS = some (seqObj "list" (kA.push (Value.int k t)) c2) := ⟨_, get?_update_seq nk2 (·.push _)⟩
    refine wpAny_bind (listUpdate_at nk2 rfl ?_ (Nat.le_trans hz1 hz) (Nat.le_trans (Nat.le_of_eq (Array.size_push ..)) (Nat.succ_le_succ (Nat.le_trans hz1 hz))))
    refine wpAny_pure ⟨rfl, ?_⟩
    rw [hJ]
    have I3 := reobj (t' := s''.toks) I2 hk2 n0k (h' := s''.heap.update kS (Obj.mapSeq (·.push (Value.int k t)))) (fun b u hb e => by rw [Heap.get?_update_ne _ _ _ _ hb]; exact e) hc2
    have smk : Same (noT T H) (upd H2 kS (ObO kS (seqObj "list" (kA.push (Value.int k t)) c2))) := fun b o eb => by
      have nb : b ≠ kS := fun z => by rw [z] at eb; have := noT_same _ _ eb; rw [nHk] at this; cases this
      rw [upd_ne nb]
      have q1 := sm b o eb
      have hb : b ∉ T.map Prod.fst := fun m => by unfold noT at eb; rw [if_pos m] at eb; cases eb
      exact sm2 b o (by unfold noT; rw [if_neg hb]; exact q1)
    have tbk : LamX.Tabs T (upd H2 kS (ObO kS (seqObj "list" (kA.push (Value.int k t)) c2))) := tabs_offOb I2 tb2 hk2 (fun _ z => nomatch z) fun b u hb e => by rw [upd_ne hb]; exact e
    have ek : kz.take (j + 1) = kz.take j ++ [k] := by rw [List.take_add_one, hkj]; simp
    have ea : (kA.push (Value.int k t)).toList = kA.toList ++ [Value.int k t] := by simp
    exact ⟨_, _, c2, I3, smk, tbk, upd_same, by rw [upd_ne neK.symm]; exact ha2, by rw [ea, ek]; exact each_snoc ⟨t, rfl⟩ hE⟩
  case done =>
    intro s' hj
    rw [hJ] at hj
    obtain ⟨H1, kA, e, I1, sm, tb1, hk1, ha1, hE⟩ := hj
    have e3 : kz.take (0 + its.length) = kz := List.take_of_length_le (by omega)
    rw [e3] at hE
    have nk := obO_at I1 hk1
    have na := obO_at I1 ha1
    have hsz : kA.size = its.length := by
      have h1 := hE.length
      rw [Array.length_toList] at h1
      omega
    have hk' := each_ints (h := s'.heap) hE
    have hal : AllAlike (kz.map PyData.int) := fun d hd d' hd' => by
      obtain ⟨_, _, rfl⟩ := List.mem_map.mp hd
      obtain ⟨_, _, rfl⟩ := List.mem_map.mp hd'
      simp [alike]
    have hsk : Sortable (kz.map PyData.int) := .inr fun d hd => by
      obtain ⟨_, _, rfl⟩ := List.mem_map.mp hd
      exact ⟨(fun z => nomatch z), fun _ z => nomatch z⟩
    have huu : ∀ d, d ∈ kz.map PyData.int → C.A.in1.in1.units + d.depth < cLine := fun d hd => by
      obtain ⟨_, _, rfl⟩ := List.mem_map.mp hd
      show C.A.units + 1 + 1 + _ < _
      simp [PyData.depth]
      omega
    refine wpAny_bind (listItems_at nk rfl ?_)
    obtain ⟨G1, gs1, ga1, K1⟩ := untrackN I1 hk1 n0k
    refine keyH_end (κ := dataKind s'.heap (kz.map PyData.int)) (h₁ := G1) (fun b o _ q => gs1 b o q) ga1 nk na neK (SortsAt.data (s := s') hk' hal hsk huu) hsz hz fun h3 tk3 c k3 n3 => ⟨rfl, ?_⟩
    -- the end
    have ha1' : delH H1 kS a = some (ObO a (seqObj "list" #[] e1)) := by rw [delH_ne neK.symm]; exact ha1
    obtain ⟨G2, gs2, ga2, K2⟩ := untrackN K1 ha1' n0a
    have tk1 : LamX.Tabs T (delH H1 kS) := tabs_offOb I1 tb1 hk1 (fun _ z => nomatch z) fun b u hb e => by rw [delH_ne hb]; exact e
    have tk2 : LamX.Tabs T (upd (delH (delH H1 kS) a) a (.lst (sortK vsV kz))) := tabs_offOb K1 tk1 ha1' (fun _ z => nomatch z) fun b u hb e => by rw [upd_ne hb, delH_ne hb]; exact e
    have rl := rv.length
    have bk : (vsV.zip kz).map (fun b : V × Int => PyData.int b.2) = kz.map PyData.int := by
      rw [show (fun b : V × Int => PyData.int b.2) = PyData.int ∘ Prod.snd from rfl, ← List.map_map, List.map_snd_zip (by omega)]
    have ko : KeyedOut false ((vsV.zip kz).map fun b : V × Int => PyData.int b.2) its (sortVals (dataKind s'.heap (kz.map PyData.int)) false kA.toList its) := by
      rw [bk]
      exact ⟨s'.heap, kA.toList, hal, rfl, hk'⟩
    have eo := each_vals (keyedOut_each (fun b : V × Int => PyData.int b.2) ko (zip_each rv hk))
    have eo : Vals (sortK vsV kz) (sortVals (dataKind s'.heap (kz.map PyData.int)) false kA.toList its) := eo
    have lo : (sortK vsV kz).length ≤ sizeLine := by
      unfold sortK
      rw [List.length_map, List.length_mergeSort, List.length_zip]
      omega
    have F := K2.laidN (h' := h3) (a := a) (o := .lst (sortK vsV kz)) (t' := tk3) (fun b u e => k3 b u (fun z => by rw [z, ga2] at e; cases e) (gs2 b u e)) ga2 delH_same ⟨lo, _, c, eo, n3⟩
    have smF : Same (noT T H) (upd (delH (delH H1 kS) a) a (.lst (sortK vsV kz))) := fun b o eb => by
      have e0 := noT_same _ _ eb
      have nb : b ≠ kS := ne_of_none e0 nHk
      have na' : b ≠ a := ne_of_none e0 nHa
      rw [upd_ne na', delH_ne na', delH_ne nb]
      exact sm b o eb
    exact ⟨.ref a, _, F, rfl, h _ a smF tk2 nHa upd_same⟩
end
end MS

/-! part 6u: sorted(xs, key=lambda one: ..), the lambda keeps names of the def -/
namespace MS
open PySem PySem.Spec PyProof.Rows L2
theorem cellsFrom_no : ∀ (r : List (Str × NameKind)) (n : Nat) (acc : List (Str × Addr)), (∀ y ∈ r, y.2 ≠ .cell) → cellsFrom n r acc = acc
  | [], _, _, _ => rfl
  | (a, k) :: r, n, acc, h => by
    have hk : ¬ (k == NameKind.cell) = true := by have := h _ (List.mem_cons_self); simpa using this
    unfold cellsFrom
    rw [if_neg hk]
    exact cellsFrom_no r n acc fun y hy => h y (List.mem_cons_of_mem _ hy)
theorem pushCells_no : ∀ (r : List (Str × NameKind)) (h : Heap), (∀ y ∈ r, y.2 ≠ .cell) → pushCells h r = h
  | [], _, _ => rfl
  | (a, k) :: r, h, q => by
    have hk : ¬ (k == NameKind.cell) = true := by have := q _ (List.mem_cons_self); simpa using this
    unfold pushCells
    rw [if_neg hk]
    exact pushCells_no r h fun y hy => q y (List.mem_cons_of_mem _ hy)
/-- one parameter, a cell; else only captured names and globals -/
structure LamK (sc scope : Scope) (x : Str) : Prop where
  kind : scope.kind = .function
  co : scope.isCoroutine = false
  gen : scope.isGenerator = false
  nm : scope.names = (x, .cell) :: scope.names.tail
  own : ∀ y ∈ scope.names.tail, y.2 ≠ .cell ∧ y.2 ≠ .local ∧ y.1 ≠ x
  free : ∀ y ∈ scope.names.tail, y.2 = .free → sc.names.lookup y.1 = some .cell ∨ sc.names.lookup y.1 = some .free
def lamKB (sc scope : Scope) (x : Str) : Bool :=
  decide (scope.kind = .function) && !scope.isCoroutine && !scope.isGenerator && decide (scope.names = (x, .cell) :: scope.names.tail) &&
  scope.names.tail.all fun y => !decide (y.2 = .cell) && !decide (y.2 = .local) && !decide (y.1 = x) && (!decide (y.2 = .free) || decide (sc.names.lookup y.1 = some .cell) || decide (sc.names.lookup y.1 = some .free))
theorem lamK_by {sc scope : Scope} {x : Str} (h : lamKB sc scope x = true) : LamK sc scope x := by
  unfold lamKB at h
  simp only [Bool.and_eq_true, Bool.or_eq_true, Bool.not_eq_true', decide_eq_true_eq, decide_eq_false_iff_not, List.all_eq_true] at h
  obtain ⟨⟨⟨⟨h1, h2⟩, h3⟩, h4⟩, h5⟩ := h
  refine ⟨h1, h2, h3, h4, fun y hy => ⟨(h5 y hy).1.1.1, (h5 y hy).1.1.2, (h5 y hy).1.2⟩, fun y hy e => ?_⟩
  rcases (h5 y hy).2 with (z | z) | z
  · exact absurd e z
  · exact .inl z
  · exact .inr z
theorem LamK.has {X : Cx} {scope : Scope} {x : Str} (L : LamK X.env.scope scope x) (ok : X.Ok) : ∀ y ∈ scope.names, y.2 = .free → ∃ c, X.env.cells.lookup y.1 = some c := fun y hy e => by
  rw [L.nm] at hy
  rcases List.mem_cons.mp hy with rfl | hy
  · cases e
  · rcases L.free y hy e with k | k
    · exact ok.has _ (.inl k)
    · exact ok.has _ (.inr k)
theorem LamK.look {sc scope : Scope} {x y : Str} {k : NameKind} (L : LamK sc scope x) (h : scope.names.lookup y = some k) : (y = x ∧ k = .cell) ∨ (y ≠ x ∧ (y, k) ∈ scope.names.tail) := by
  rw [L.nm, List.lookup_cons] at h
  cases hb : y == x with
  | true =>
    rw [hb] at h
    cases h
    exact .inl ⟨beq_iff_eq.mp hb, rfl⟩
  | false =>
    rw [hb] at h
    exact .inr ⟨(fun z => by rw [z, beq_self_eq_true] at hb; cases hb), PySem.mem_of_lookup h⟩
theorem bind_one {M : Model} {A : Around} {E : Value → Shared → Prop} {s : Shared} {env : Env} {x : Str} {v : Value} {Q : PUnit → Shared → Prop} (f : Str × Value → PUnit → Sem (ForInStep PUnit)) (hf : ∀ n v u, f (n, v) u = (do storeName env n v; pure (.yield ⟨⟩)))
    (h : wpAny M A (storeName env x v) (fun _ s' => Q ⟨⟩ s') E s) : wpAny M A (forIn [(x, v)] ⟨⟩ f) Q E s := by
  rw [List.forIn_cons, hf]
  exact wpAny_bind (wpAny_bind (wpAny_mono h (fun _ s' q => wpAny_pure (by show wpAny M A (forIn [] PUnit.unit f) Q E _; rw [List.forIn_nil]; exact wpAny_pure q)) fun _ _ q => q))
theorem lam_newEnv {M : Model} {A : Around} {E : Value → Shared → Prop} {s : Shared} {scope : Scope} {globals : Addr} {cl : List (Str × Addr)} {x : Str} {v : Value} {qual : Str} {func : Option Addr} {code : Value} {builtins : Addr} {Q : Env → Shared → Prop}
    (hk : scope.kind = .function) (nm : scope.names = (x, .cell) :: scope.names.tail) (no : ∀ y ∈ scope.names.tail, y.2 ≠ .cell)
    (hQ : ∀ h₁ : Heap, h₁.Ns s.heap.objs.size (fun _ => none) → h₁.IsCell (s.heap.objs.size + 1) (some v) → (∀ b o, s.heap.get? b = some o → h₁.get? b = some o) → Q (newEnv scope s.heap.objs.size globals ((x, s.heap.objs.size + 1) :: cl) qual func code none builtins) { s with heap := h₁ }) :
    wpAny M A (newFunctionEnv scope globals cl [(x, v)] qual func code none builtins) Q E s := by
  have e1 : ∀ (n : Nat), cellsFrom n scope.names cl = (x, n) :: cl := fun n => by
    rw [nm]
    unfold cellsFrom
    rw [if_pos (by rfl)]
    exact cellsFrom_no _ _ _ no
  have e2 : ∀ h : Heap, pushCells h scope.names = h.push { cls := .type "cell", data := .cell none } := fun h => by
    rw [nm]
    unfold pushCells
    rw [if_pos (by rfl)]
    exact pushCells_no _ _ no
  simp only [newFunctionEnv, Option.isSome_none, Bool.false_eq_true, if_false]
  refine wpAny_bind (wpAny_alloc ?_)
  refine wpAny_bind (wpAny_layCells _ (fun name kind cells => by cases hkc : kind == NameKind.cell <;> simp [hkc]) _ _ _ _ ?_)
  rw [show ({ s with heap := s.heap.push { cls := .type "frame", data := .dict #[] } } : Shared).heap.objs.size = s.heap.objs.size + 1 from Heap.size_push ..]
  rw [e1, e2]
  have hc : ((s.heap.push { cls := .type "frame", data := .dict #[] }).push { cls := .type "cell", data := .cell none } : Heap).IsCell (s.heap.objs.size + 1) none := ⟨_, by
    have := Heap.get?_push_size (s.heap.push { cls := .type "frame", data := .dict #[] }) (o := { cls := .type "cell", data := .cell none }) rfl
    rw [Heap.size_push] at this
    exact this, rfl⟩
  refine wpAny_bind (bind_one (env := newEnv scope s.heap.objs.size globals ((x, s.heap.objs.size + 1) :: cl) qual func code none builtins) _ (fun _ _ _ => rfl) (wpAny_storeName_cell (v₀ := none) hk ?_ ?_ hc fun h' hc' hs' => wpAny_pure (hQ h' ?_ hc' fun b o e => ?_)))
  · show scope.names.lookup x = some .cell
    rw [nm, List.lookup_cons, beq_self_eq_true]
  · show List.lookup x ((x, s.heap.objs.size + 1) :: cl) = _
    rw [List.lookup_cons, beq_self_eq_true]
  · refine Heap.Ns.sameBut ?_ hs' (Nat.ne_of_lt (Nat.lt_succ_self _))
    exact (Heap.Ns.new s.heap (.type "frame")).keeps fun b o e => Heap.get?_push_of_some _ e
  · exact hs'.extBut b o (Nat.ne_of_lt (Nat.lt_succ_of_lt (Heap.lt_size e))) (Heap.get?_push_of_some _ (Heap.get?_push_of_some _ e))
abbrev lamEnvK (X : Cx) (scope : Scope) (x : Str) (L f c' : Addr) : Env := PySem.W.envX (X.env.qual ++ "<lambda>") scope L f (.ref c') ((x, L + 1) :: cloFrom X.env.cells scope.names [])
/-- nothing may be raised -/
def noX : XK := fun _ _ _ => False
def lamCxK (X : Cx) (A : Around) (outer : List Env) (s : Shared) (H : Hp) (scope : Scope) (x : Str) (f c' : Addr) (N : List Str) : Cx where
  prog := X.prog
  w := X.w
  K := X.K
  mg := X.mg
  base := X.base
  A := A.deeper (lamEnvK X scope x s.heap.objs.size f c')
  N := N
  s_0 := s
  H_0 := H
  env := lamEnvK X scope x s.heap.objs.size f c'
  outer := outer
  stack := lamEnvK X scope x s.heap.objs.size f c' :: outer
  ex := []
  fn := fun _ => false
  calm := true
  pn := []
  xe := fun e s' => wpAny (model X.prog X.w) (A.deeper (lamEnvK X scope x s.heap.objs.size f c')) (leaving (lamEnvK X scope x s.heap.objs.size f c') e) (fun _ s'' => L2N.CX X.prog X.w outer H s noX e s'') (fun e' s'' => L2N.CX X.prog X.w outer H s noX e' s'') s'
section
variable {X : Cx} {pins : List (Addr × Obj)} {σ : L2.St} {H : Hp} {s : Shared}
theorem lam_startK {A : Around} {outer : List Env} {scope : Scope} {x : Str} {f c' : Addr} {N : List Str} {h₁ : Heap} {vx : V} {ux : Value} {ys : List V} (I : Inv X pins σ H s) (L : LamK X.env.scope scope x) (e0 : Env0 X.prog X.w X.K X.mg X.base A outer s H) (hd : A.handled = none)
    (hns : h₁.Ns s.heap.objs.size fun _ => none) (hce : h₁.IsCell (s.heap.objs.size + 1) (some ux)) (kp : ∀ b o, s.heap.get? b = some o → h₁.get? b = some o) (hux : RelV vx ux)
    (hN0 : N[0]? = some x) (hNx : ∀ i : Nat, N[i + 1]? ≠ some x) (hl : ys.length + 1 ≤ N.length) (hcap : ∀ (i : Nat) (v : V), ys[i]? = some v → ∃ j : Nat, X.N[j]? = N[i + 1]? ∧ σ[j]? = some (some v)) :
    Inv (lamCxK X A outer s H scope x f c' N) [] (L2.start N (vx :: ys)) H { s with heap := h₁ } := by
  have hfree := L.has I.ok
  have inT : ∀ {y k}, (y, k) ∈ scope.names → k = NameKind.free → (y, k) ∈ scope.names.tail := fun {y k} hm e => by
    rw [L.nm] at hm
    rcases List.mem_cons.mp hm with z | z
    · cases z
      cases e
    · exact z
  have cm : ∀ {y c}, (cloFrom X.env.cells scope.names []).lookup y = some c → X.env.cells.lookup y = some c ∧ y ≠ x := fun {y c} e => by
    rcases cloFrom_mem (PySem.mem_of_lookup e) with hm | ⟨h1, h2⟩
    · cases hm
    · obtain ⟨c1, hc⟩ := hfree _ h1 rfl
      have hc : X.env.cells.lookup y = some c1 := hc
      have e2 : c = c1 := by
        rw [h2, hc] <;> rfl
      exact ⟨by rw [e2]; exact hc, (L.own _ (inT h1 rfl)).2.2⟩
  have look : ∀ {y}, scope.names.lookup y = some .free → ∃ c, (cloFrom X.env.cells scope.names []).lookup y = some c := fun {y} hl => by
    have hy : (y, NameKind.free) ∈ scope.names := PySem.mem_of_lookup hl
    exact mem_lookup (cloFrom_has (cells := X.env.cells) (acc := []) hy)
  have lx : ((x, s.heap.objs.size + 1) :: cloFrom X.env.cells scope.names []).lookup x = some (s.heap.objs.size + 1) := by rw [List.lookup_cons, beq_self_eq_true]
  have ly : ∀ {y}, y ≠ x → ((x, s.heap.objs.size + 1) :: cloFrom X.env.cells scope.names []).lookup y = (cloFrom X.env.cells scope.names []).lookup y := fun {y} n => by
    rw [List.lookup_cons, beq_false_of_ne n]
  have two : ∀ {y c}, ((x, s.heap.objs.size + 1) :: cloFrom X.env.cells scope.names []).lookup y = some c → (y = x ∧ c = s.heap.objs.size + 1) ∨ (y ≠ x ∧ X.env.cells.lookup y = some c ∧ ∃ v, s.heap.IsCell c v) := fun {y c} e => by
    by_cases hy : y = x
    · rw [hy, lx] at e
      cases e
      exact .inl ⟨hy, rfl⟩
    · rw [ly hy] at e
      exact .inr ⟨hy, (cm e).1, I.cell y c (cm e).1⟩
  have noA : ∀ b : Addr, b ∉ (lamCxK X A outer s H scope x f c' N).ex := fun b z => absurd (show b ∈ ([] : List Addr) from z) (by simp)
  refine ⟨⟨e0.mod, L.kind, rfl, rfl, Nat.le_refl _, fun y z c e1 e2 => ?_, fun y hy => ?_, fun y c z _ => ?_, fun _ => hd, Around.frames_deeper e0.frames, .inr ⟨rfl, rfl⟩, fun b z => absurd z (noA b), e0.bs, e0.bsz, fun b _ _ => noA b,
      fun b z => absurd z (noA b), e0.funs, e0.frf⟩,
    rfl, e0.bare, Un.kept kp, ⟨_, hns, fun i y v e1 e2 e3 => ?_⟩, fun y c e => ?_, e0.hok.fresh (Nat.le_refl _), fun y c e => ?_, fun q hq => absurd (show q ∈ ([] : List (Addr × Obj)) ++ [] from hq) (by simp), e0.hok.kept kp, ?_⟩
  · rcases two e1 with ⟨z1, z2⟩ | ⟨n1, z1, _, w1⟩ <;> rcases two e2 with ⟨u1, u2⟩ | ⟨n2, u1, _, w2⟩
    · rw [z1, u1]
    · rw [z2] at w2; exact absurd (Nat.lt_of_succ_lt w2.lt) (Nat.lt_irrefl _)
    · rw [u2] at w1; exact absurd (Nat.lt_of_succ_lt w1.lt) (Nat.lt_irrefl _)
    · exact I.ok.inj y z c z1 u1
  · have hy : scope.names.lookup y = some .cell ∨ scope.names.lookup y = some .free := hy
    rcases hy with hy | hy
    · rcases L.look hy with ⟨z, _⟩ | ⟨_, z⟩
      · exact ⟨_, by rw [z]; exact lx⟩
      · exact absurd rfl (L.own _ z).1
    · obtain ⟨c, hc⟩ := look hy
      exact ⟨c, (ly (cm hc).2).trans hc⟩
  · have z : false = true := z
    cases z
  · have e3 : Vis scope y := e3
    have hi : (vx :: ys)[i]? = some v := by
      unfold L2.start at e2
      by_cases hi : i < (vx :: ys).length
      · rw [List.getElem?_append_left (by simpa using hi), List.getElem?_map] at e2
        cases e : (vx :: ys)[i]? with
        | none => rw [e] at e2; cases e2
        | some a => rw [e] at e2; cases e2; rfl
      · rw [List.getElem?_append_right (by simpa using hi), List.getElem?_replicate] at e2
        split at e2 <;> cases e2
    have e1 : N[i]? = some y := e1
    cases i with
    | zero =>
      rw [hN0] at e1
      cases e1
      cases hi
      refine ⟨ux, hux, .inr ⟨.inl ?_, _, lx, hce⟩⟩
      show scope.names.lookup x = some .cell
      rw [L.nm, List.lookup_cons, beq_self_eq_true]
    | succ i =>
      have yx : y ≠ x := fun z => hNx i (by rw [e1, z])
      obtain ⟨j, j1, j2⟩ := hcap i v hi
      rw [e1] at j1
      have k : scope.names.lookup y = some .free := by
        rcases e3 with k | k | k
        · rcases L.look k with ⟨z, _⟩ | ⟨_, z⟩
          · exact absurd z yx
          · exact absurd rfl (L.own _ z).2.1
        · rcases L.look k with ⟨z, _⟩ | ⟨_, z⟩
          · exact absurd z yx
          · exact absurd rfl (L.own _ z).1
        · exact k
      have kT : (y, NameKind.free) ∈ scope.names.tail := inT (PySem.mem_of_lookup k) rfl
      obtain ⟨m, hn, hl⟩ := I.loc
      have hvis : Vis X.env.scope y := (L.free _ kT rfl).elim (fun k => .inr (.inl k)) (fun k => .inr (.inr k))
      obtain ⟨w', r, q⟩ := hl j y v j1 j2 hvis
      obtain ⟨c2, h2⟩ := look k
      refine ⟨w', r, .inr ⟨.inr k, c2, (ly yx).trans h2, ?_⟩⟩
      have c1 := (cm h2).1
      rcases q with ⟨k', _⟩ | ⟨_, c3, e', z⟩
      · have k' : X.env.scope.names.lookup y = some .local := k'
        rcases L.free _ kT rfl with k2 | k2 <;> rw [show X.env.scope.names.lookup y = _ from k2] at k' <;> cases k'
      · rw [c1] at e'
        cases e'
        exact z.keeps kp
  · rcases two e with ⟨_, rfl⟩ | ⟨_, z, v, w⟩
    · exact ⟨_, hce⟩
    · exact ⟨v, w.keeps kp⟩
  · rcases two e with ⟨_, rfl⟩ | ⟨_, z, v, w⟩
    · exact e0.hok.fresh (Nat.le_succ _)
    · exact I.freeC y c z
  · unfold L2.start
    show _ = N.length
    rw [List.length_append, List.length_map, List.length_replicate]
    simp only [List.length_cons]
    omega
/-- the lambda is made; the new function is known from now on -/
theorem lam_makeO {T : List (Addr × Str)} {c P : Addr} {params : Arguments} {body : Expr} {scope : Scope} {pos : Pos} {E : Value → Shared → Prop} {Q : Value → Shared → Prop} (I : Inv X pins σ H s) (TB : LamX.TabB X.base X.mg c P) (hcode : X.env.code = .ref c)
    (hm : (P, X.env.qual ++ "<lambda>") ∈ T) (hu : ∀ p ∈ T, p.1 = P → p.2 = X.env.qual ++ "<lambda>") (hT : LamX.Tabs T H) (hdef : defaultsOf params X.env = ([], [])) (hfree : ∀ y ∈ scope.names, y.2 = .free → ∃ c, X.env.cells.lookup y.1 = some c)
    (h : ∀ (f c' : Addr) (pm ctv : Value) (H1 : Hp) (s' : Shared), Inv X pins σ H1 s' → Same (noT T H) H1 → LamX.Tabs T H1 → H f = none →
      H1 f = some (ObO f (PySem.W.kla_obj "<lambda>" (X.env.qual ++ "<lambda>") params body scope (cloFrom X.env.cells scope.names []) pm c' ctv)) → H1 c' = some (LamX.CodeO c' (X.env.qual ++ "<lambda>")) → Q (.ref f) s') :
    wpAny (model X.prog X.w) X.A (eval (.Lambda params body scope pos) X.env) Q E s := by
  obtain ⟨ps, hP, ht, ha⟩ := hT _ hm
  refine PySem.W.kla_eval hdef ?_
  have bP : s.heap.BuiltinsAt X.mg P := TB.bm.keeps I.bk
  have hP' : s.heap.get? P = some { cls := .none, data := .fields ps } := I.hok P _ hP
  have hPT : P ∈ T.map Prod.fst := List.mem_map.mpr ⟨_, hm, rfl⟩
  -- the function is pushed
  have fin : ∀ (h' : Heap) (H1 : Hp) (c' : Addr) (pm ctv : Value) (tk : Nat), Inv X pins σ H1 { s with heap := h', toks := tk } → s.heap.objs.size ≤ h'.objs.size → Same (noT T H) H1 → LamX.Tabs T H1 → H1 c' = some (LamX.CodeO c' (X.env.qual ++ "<lambda>")) →
      Q (.ref h'.objs.size) { s with heap := h'.push (PySem.W.kla_obj "<lambda>" (X.env.qual ++ "<lambda>") params body scope (cloFrom X.env.cells scope.names []) pm c' ctv), toks := tk } := fun h' H1 c' pm ctv tk I1 hsz sm tb hc => by
    have n1 : H1 h'.objs.size = none := I1.hok.fresh (Nat.le_refl _)
    have I2 := I1.laid (t' := tk) (h' := h'.push (PySem.W.kla_obj "<lambda>" (X.env.qual ++ "<lambda>") params body scope (cloFrom X.env.cells scope.names []) pm c' ctv)) (a := h'.objs.size) (o := ObO h'.objs.size (PySem.W.kla_obj "<lambda>" (X.env.qual ++ "<lambda>") params body scope (cloFrom X.env.cells scope.names []) pm c' ctv)) (fun b u e => Heap.get?_push_of_some _ e) (Nat.le_refl _) (obO_ok (Heap.get?_push_size _ rfl))
    exact h h'.objs.size c' pm ctv _ _ I2 (sm.trans (Same.upd n1)) (tb.ext (Same.upd n1)) (I.hok.fresh hsz) upd_same (by rw [upd_ne (ne_of_none hc n1)]; exact hc)
  cases hc : codeAmong pos ps.toList with
  | none =>
    refine PySem.W.kla_makeFunction (mg := X.mg) (c := c) (P := P) (ps := ps) (closure_ok hfree) I.ok.glob (I.mod.glob.keeps I.bk) hcode (TB.code.keeps I.bk) hP' ht hc TB.gP bP fun c' ctv h' tk hx hge hlt hrec htb => ?_
    obtain ⟨c2, oc, vs, t, e2, hoc, hd, hv⟩ := hrec
    cases e2
    have hsz : s.heap.objs.size ≤ h'.objs.size := Nat.le_trans hge (Nat.le_of_lt hlt)
    have nC : H c' = none := I.hok.fresh hge
    have I1 := LamX.inv_table (t' := tk) (more := #[rawInt pos.line, rawInt pos.col, .ref c']) (h' := h') I hP hx htb hge ⟨oc, vs, t, hoc, hd, hv⟩
    have hE : ∀ b o, b ≠ P → H b = some o → upd (upd H P (.tbl (ps ++ #[rawInt pos.line, rawInt pos.col, .ref c']))) c' (LamX.CodeO c' (X.env.qual ++ "<lambda>")) b = some o := fun b o n e => by
      rw [upd_ne (ne_of_none e nC), upd_ne n]
      exact e
    have nT : ∀ b o, noT T H b = some o → b ≠ P := fun b o e z => by
      rw [z] at e
      unfold noT at e
      rw [if_pos hPT] at e
      cases e
    have nCo : ∀ c0 q, H c0 = some (LamX.CodeO c0 q) → c0 ≠ P := fun c0 q e z => by
      rw [z, hP] at e
      exact LamX.codeO_ne ps (Option.some.inj e).symm
    have eL : (ps ++ #[rawInt pos.line, rawInt pos.col, .ref c']).toList = ps.toList ++ [rawInt pos.line, rawInt pos.col, .ref c'] := by simp
    refine fin h' _ c' _ ctv tk I1 hsz (fun b o e => hE b o (nT b o e) (noT_same _ _ e)) (fun p hp => ?_) upd_same
    by_cases hb : p.1 = P
    · rw [hu p hp hb, hb]
      refine ⟨_, by rw [upd_ne (ne_of_none hP nC), upd_same], by rw [eL]; exact PySem.TriplesOk_snoc _ _ _ _ ht, fun p' cv hcv => ?_⟩
      rw [eL] at hcv
      rcases LamX.among_app _ ht hcv with z | z
      · obtain ⟨c0, e1, e2⟩ := ha p' cv z
        exact ⟨c0, e1, hE _ _ (nCo _ _ e2) e2⟩
      · exact ⟨c', z, upd_same⟩
    · obtain ⟨ps', a1, a2, a3⟩ := hT p hp
      refine ⟨ps', by rw [upd_ne (ne_of_none a1 nC), upd_ne hb]; exact a1, a2, fun p' cv hcv => ?_⟩
      obtain ⟨c0, e1, e2⟩ := a3 p' cv hcv
      exact ⟨c0, e1, hE _ _ (nCo _ _ e2) e2⟩
  | some cv =>
    obtain ⟨c', e, hco⟩ := ha pos cv hc
    subst e
    refine PySem.W.kla_makeFunctionHit (mg := X.mg) (c := c) (P := P) (ps := ps) (closure_ok hfree) I.ok.glob (I.mod.glob.keeps I.bk) hcode (TB.code.keeps I.bk) hP' ht hc bP fun ctv h' tk hx hsz => ?_
    exact fin h' H c' _ ctv tk (I.kept hx) hsz noT_same hT hco
theorem cx_no {P : Program} {w : World} {outer : List Env} {H : Hp} {s s' : Shared} {e : Value} (c : L2N.CX P w outer H s noX e s') : False := by
  obtain ⟨_, _, _, _, _, _, _, _, _, _, _, _, z⟩ := c
  exact z
/-- the lambda called with one value -/
theorem lam_call {k : Nat} {scope : Scope} {x : Str} {f c' : Addr} {params : Arguments} {body : Expr} {pm ctv : Value} {N : List Str} {vx : V} {ux : Value} {ys : List V} {tb : TE} {Q : VK} (I : Inv X pins σ H s) (L : LamK X.env.scope scope x)
    (hf : H f = some (ObO f (PySem.W.kla_obj "<lambda>" (X.env.qual ++ "<lambda>") params body scope (cloFrom X.env.cells scope.names []) pm c' ctv))) (hc : H c' = some (LamX.CodeO c' (X.env.qual ++ "<lambda>")))
    (hbind : bindArgs (PySem.W.kla_fn "<lambda>" (X.env.qual ++ "<lambda>") params body scope (cloFrom X.env.cells scope.names []) pm (.ref c') ctv) ⟨[ux], []⟩ = pure [(x, ux)]) (hr : Room (k + 1) X.A)
    (hbody : ∀ (A : Around) (outer : List Env) (s : Shared) (H : Hp), Room k (A.deeper (lamEnvK X scope x s.heap.objs.size f c')) → PE (lamCxK X A outer s H scope x f c' N) body tb) (hux : RelV vx ux)
    (hN0 : N[0]? = some x) (hNx : ∀ i : Nat, N[i + 1]? ≠ some x) (hl : ys.length + 1 ≤ N.length) (hcap : ∀ (i : Nat) (v : V), ys[i]? = some v → ∃ j : Nat, X.N[j]? = N[i + 1]? ∧ σ[j]? = some (some v)) (h : tb (L2.start N (vx :: ys)) H Q) :
    wpAny (model X.prog X.w) X.A.in1.in1 (call (.ref f) [ux]) (EP X pins σ Q) (fun _ _ => False) s := by
  have e0 := I.env0
  have e1 : Env0 X.prog X.w X.K X.mg X.base X.A.in1.in1 X.stack s H := ⟨e0.frames, e0.mod, e0.bs, e0.bsz, e0.funs, e0.frf, e0.hok, e0.bare⟩
  have hd : X.A.in1.in1.handled = none := hr.hd
  have hdep : X.A.in1.in1.depth < recursionLimit := by have := hr.dp; show X.A.depth < _; omega
  have hrm : ∀ env, Room k (X.A.in1.in1.deeper env) := fun env => by
    refine ⟨L2.Room.mk hr.hd ?_ ?_, hr.gd⟩
    · have := hr.dp; show X.A.depth + 1 + 3 * k + 5 < _; omega
    · have := hr.un; show X.A.units + 1 + 1 + 3 + 16 * k + 200 < _; omega
  have of1 := obO_at I hf
  obtain ⟨⟨oc, vs, t, hoc, hdc, hvc⟩, _, _⟩ := I.hok c' _ hc
  have rc : codeAny (model X.prog X.w) X.A.in1.in1 (.call (.ref f) ⟨[ux], []⟩) (CR (L2N.CX X.prog X.w) X.stack X.prog X.w H s Q noX) s := by
    refine PySem.W.kla_callFunE hdep of1 rfl L.co L.gen rfl ⟨c', oc, vs, t, rfl, hoc, hdc, hvc⟩ ?_
    rw [hbind]
    refine wpAny_pure (lam_newEnv L.kind L.nm (fun y hy => (L.own y hy).1) fun h₁ hns hce kp => ⟨I.nolimit.keeps kp, ?_⟩)
    show codeAny _ _ (.expr body (lamEnvK X scope x s.heap.objs.size f c')) _ _
    have J : Inv (lamCxK X X.A.in1.in1 X.stack s H scope x f c' N) [] (L2.start N (vx :: ys)) H { s with heap := h₁ } := lam_startK I L e1 hd hns hce kp hux hN0 hNx hl hcap
    refine PySem.W.kla_codeExpr (wpAny_mono ((hbody _ _ s H (hrm _)).run [] _ _ H Q J h) (fun v s' hq => ?_) fun e s' hq => hq)
    obtain ⟨w', H', J', rv, q⟩ := hq
    exact ⟨w', H', J'.os, J'.bare, J'.base, J'.hok, rv, q⟩
  refine wpAny_call (codeAny_mono rc fun r s' hq => ?_)
  cases r with
  | error e => exact cx_no hq
  | ok fl =>
    cases fl with
    | ret u => exact I.after hq
    | next => exact False.elim hq
    | brk => exact False.elim hq
    | cont => exact False.elim hq
end
end MS

/-! part 6v: the rule for sorted(xs, key=lambda one: ..) -/
namespace MS
open PySem PySem.Spec PyProof.Rows L2
/-- the captured names' values -/
def capsD (r : List Val) : List Nat → Option (List D)
  | [] => some []
  | j :: js => match r[j]? with
    | some (.fz d) => (capsD r js).map (d :: ·)
    | _ => none
def keyRun (b : M Val) (cs : List D) (n : Nat) (d : D) : Option Int := match b ((d :: cs).map .fz ++ List.replicate n .un) with
  | .ok (.fz (.int k)) _ => some k
  | _ => none
def keysO (f : D → Option Int) : List D → Option (List Int)
  | [] => some []
  | d :: ds => match f d, keysO f ds with
    | some k, some ks => some (k :: ks)
    | _, _ => none
theorem keysO_len {f : D → Option Int} : ∀ {ds : List D} {ks : List Int}, keysO f ds = some ks → ks.length = ds.length
  | [], ks, h => by cases h; rfl
  | d :: ds, ks, h => by
    unfold keysO at h
    split at h
    · rename_i k ks' e1 e2
      cases h
      rw [List.length_cons, List.length_cons, keysO_len e2]
    · cases h
theorem keysO_at {f : D → Option Int} : ∀ {ds : List D} {ks : List Int} {i : Nat} {d : D}, keysO f ds = some ks → ds[i]? = some d → ∃ k, ks[i]? = some k ∧ f d = some k
  | [], ks, i, d, h, e => by simp at e
  | d0 :: ds, ks, i, d, h, e => by
    unfold keysO at h
    split at h
    · rename_i k ks' e1 e2
      cases h
      cases i with
      | zero =>
        simp at e
        subst e
        exact ⟨k, by simp, e1⟩
      | succ i =>
        obtain ⟨k', h1, h2⟩ := keysO_at e2 (i := i) (d := d) (by simpa using e)
        exact ⟨k', by simpa using h1, h2⟩
    · cases h
/-- sorted(m, key=lambda one: b) -/
def eSortK (m b : M Val) (js : List Nat) (n : Nat) : M Val := fun r => match frz m r with
  | .ok (.list ds) r' => match capsD r' js with
    | some cs => match keysO (keyRun b cs n) ds with
      | some ks => .ok (.ol (sortK ds ks)) r'
      | none => .err
    | none => .err
  | .ok _ _ => .err
  | .exc c ds r' => .exc c ds r'
  | .err => .err
theorem reps_pairs {K : PySem.W.Frag} {Z : Hp} : ∀ {L : List (V × D)}, (∀ p ∈ L, Rep K Z p.1 p.2) → Reps K Z (L.map Prod.fst) (L.map Prod.snd)
  | [], _ => .nil
  | p :: L, h => .cons (h p (List.mem_cons_self)) (reps_pairs fun q hq => h q (List.mem_cons_of_mem _ hq))
theorem reps_zip {K : PySem.W.Frag} {Z : Hp} {vs : List V} : ∀ {ds : List D}, Reps K Z vs ds → ∀ p ∈ vs.zip ds, Rep K Z p.1 p.2 := by
  induction vs with
  | nil => intro ds h p hp; simp at hp
  | cons v vs ih =>
    intro ds h p hp
    cases h with
    | cons r rs =>
      rw [List.zip_cons_cons] at hp
      rcases List.mem_cons.mp hp with rfl | hp
      · exact r
      · exact ih rs p hp
theorem sortK_mem {α : Type} {ds : List α} {ks : List Int} {x : α} (h : x ∈ sortK ds ks) : x ∈ ds := by
  unfold sortK at h
  obtain ⟨p, hp, rfl⟩ := List.mem_map.mp h
  rw [List.mem_mergeSort] at hp
  exact (List.of_mem_zip hp).1
theorem sortK_len {α : Type} (ds : List α) (ks : List Int) : (sortK ds ks).length ≤ ds.length := by
  unfold sortK
  rw [List.length_map, List.length_mergeSort, List.length_zip]
  exact Nat.min_le_left _ _
theorem reps_sortK {K : PySem.W.Frag} {Z : Hp} {vs : List V} {ds : List D} (h : Reps K Z vs ds) (ks : List Int) : Reps K Z (sortK vs ks) (sortK ds ks) := by
  have l := h.length
  have e1 : (vs.zip ds).map Prod.fst = vs := List.map_fst_zip (by omega)
  have e2 : (vs.zip ds).map Prod.snd = ds := List.map_snd_zip (by omega)
  have h1 := sortK_map (Prod.fst : V × D → V) (vs.zip ds) ks
  have h2 := sortK_map (Prod.snd : V × D → D) (vs.zip ds) ks
  rw [e1] at h1
  rw [e2] at h2
  rw [← h1, ← h2]
  exact reps_pairs fun p hp => reps_zip h p (sortK_mem hp)
section
variable {C : Cx} {X : Fx} {W : WX} {Z F H H' : Hp} {r : List Val} {σ : L2.St} {pins : List (Addr × Obj)} {s : Shared}
theorem caps_rel (g : G X Z F r σ H) : ∀ {js : List Nat} {cs : List D}, capsD r js = some cs → ∃ ys : List V, ys.length = js.length ∧ (∀ (i : Nat) (v : V), ys[i]? = some v → ∃ j, js[i]? = some j ∧ σ[j]? = some (some v)) ∧ Reps X.K Z ys cs
  | [], cs, h => by cases h; exact ⟨[], rfl, fun i v e => by simp at e, .nil⟩
  | j :: js, cs, h => by
    unfold capsD at h
    split at h
    · rename_i d e
      obtain ⟨cs', h1, rfl⟩ := Option.map_eq_some_iff.mp h
      obtain ⟨ys, l, h2, h3⟩ := caps_rel g h1
      obtain ⟨y, ey, ry⟩ := g.sl j _ e
      refine ⟨y :: ys, by rw [List.length_cons, List.length_cons, l], fun i v ev => ?_, .cons ry h3⟩
      cases i with
      | zero => simp at ev; subst ev; exact ⟨j, by simp, ey⟩
      | succ i =>
        obtain ⟨j', q1, q2⟩ := h2 i v (by simpa using ev)
        exact ⟨j', by simpa using q1, q2⟩
    · cases h
theorem Out.growT {b : Addr} (o : Out H r σ b) (g : G X Z F r σ H) (s : Same (noT X.ex.tb H) H') : Out H' r σ b := fun i v h m => by
  have c : foot H' σ[i]? v = foot H σ[i]? v :=
    ((g.sl i v h).congr (H' := H') (Z' := Z) (F' := F) (fun b hb => by
      obtain ⟨⟨o, e, n⟩, _, _⟩ := (g.sl i v h).at b hb
      rw [s _ _ (noT_at e g.tb n.not), e]) (Same.refl Z) fun b hb => ((g.sl i v h).at b hb).2).2
  rw [c] at m
  exact o i v h m
theorem liL_here {a : Addr} {xs : List V} (I : Inv C pins σ H s) (h : LiL C.K H a xs) : ∃ (its : List Value) (n : Nat), s.heap.get? a = some { cls := .type "list", data := .seq its.toArray n } ∧ Vals xs its ∧ its.length ≤ sizeLine := by
  rcases h with h | ⟨its, n, e, l, v⟩
  · obtain ⟨lz, its, n, rv, ho⟩ := Rd.ok h I.hok
    exact ⟨its, n, ho, rv, by rw [← rv.length]; exact lz⟩
  · exact ⟨its, n, I.kIn _ _ e, v, l⟩
/-- the making of a lambda -/
def tLamO (X : Cx) (T : List (Addr × Str)) (params : Arguments) (body : Expr) (scope : Scope) : TE := fun σ H Q => LamX.Tabs T H ∧ ∀ (f c' : Addr) (pm ctv : Value) (H1 : Hp), Same (noT T H) H1 → LamX.Tabs T H1 → H f = none →
  H1 f = some (ObO f (PySem.W.kla_obj "<lambda>" (X.env.qual ++ "<lambda>") params body scope (cloFrom X.env.cells scope.names []) pm c' ctv)) → H1 c' = some (LamX.CodeO c' (X.env.qual ++ "<lambda>")) → Q (.ref f) H1
theorem pe_lamO {T : List (Addr × Str)} {c P : Addr} {x : Str} {params : Arguments} {body : Expr} {scope : Scope} {pos : Pos} (TB : LamX.TabB C.base C.mg c P) (hcode : C.env.code = .ref c) (hm : (P, C.env.qual ++ "<lambda>") ∈ T) (hu : ∀ p ∈ T, p.1 = P → p.2 = C.env.qual ++ "<lambda>")
    (hdef : defaultsOf params C.env = ([], [])) (L : LamK C.env.scope scope x) : PE C (.Lambda params body scope pos) (tLamO C T params body scope) :=
  ⟨fun pins s σ H Q I h => lam_makeO I TB hcode hm hu h.1 hdef (L.has I.ok) fun f c' pm ctv H1 s' I1 sm tb nf hf hc => ⟨.ref f, H1, I1, rfl, h.2 f c' pm ctv H1 sm tb nf hf hc⟩⟩
theorem start_get {N : List Str} {vs : List V} {i : Nat} {v : V} (h : vs[i]? = some v) : (L2.start N vs)[i]? = some (some v) := by
  have hi : i < vs.length := (List.getElem?_eq_some_iff.mp h).1
  unfold L2.start
  rw [List.getElem?_append_left (by simpa using hi), List.getElem?_map, h]
  rfl
/-- the state of the lambda -/
theorem lam_G {K : PySem.W.Frag} {ex : Ex} {N : List Str} {vs : List V} {ds : List D} {n : Nat} (h : Reps K (noT ex.tb H) vs ds) (tb : LamX.Tabs ex.tb H) (hn : n = N.length - vs.length) : G ⟨K, [], [], ex, fun _ => none⟩ (noT ex.tb H) (noT ex.tb H) (ds.map .fz ++ List.replicate n .un) (L2.start N vs) H := by
  have l := h.length
  have own : ∀ {i : Nat} {v : Val}, (ds.map Val.fz ++ List.replicate n Val.un)[i]? = some v → (∃ d, ds[i]? = some d ∧ v = .fz d) ∨ v = .un := fun {i v} e => by
    by_cases hi : i < ds.length
    · rw [List.getElem?_append_left (by simpa using hi), List.getElem?_map] at e
      obtain ⟨d, e1, e2⟩ := Option.map_eq_some_iff.mp e
      exact .inl ⟨d, e1, e2.symm⟩
    · rw [List.getElem?_append_right (by simpa using hi)] at e
      exact .inr (List.eq_of_mem_replicate (List.mem_of_getElem? e))
  refine ⟨noT_same, noT_same, ?_, fun i v e => ?_, fun i j v u p e1 e2 o1 o2 => ?_, fun i hi => absurd hi (by show ¬ i ∈ ([] : List Nat); simp), no_hx _, noT_no, noT_no, tb⟩
  · unfold L2.start
    rw [List.length_append, List.length_append, List.length_map, List.length_map, List.length_replicate, List.length_replicate, hn, l]
  · rcases own e with ⟨d, e1, rfl⟩ | rfl
    · obtain ⟨v, h1, h2⟩ := h.get e1
      exact ⟨v, start_get h1, h2⟩
    · exact True.intro
  · rcases own e1 with ⟨d, _, rfl⟩ | rfl
    · rw [foot_fz] at o1; cases o1
    · rw [foot_un] at o1; cases o1
theorem de_sortK {c P : Addr} {k : Nat} {x : Str} {N : List Str} {js : List Nat} {params : Arguments} {body : Expr} {scope : Scope} {a : Expr} {m bm : M Val} {p lpos pos kpos : Pos} (hg : Gl C "sorted") (hmn : C.mg "sorted" = none) (ha : DE C X W a m)
    (TB : LamX.TabB C.base C.mg c P) (hcode : C.env.code = .ref c) (hT : X.ex.tb = [(P, C.env.qual ++ "<lambda>")]) (hr : Room (k + 1) C.A) (L : LamK C.env.scope scope x) (hdef : defaultsOf params C.env = ([], []))
    (hbind : ∀ (q : Str) (cl : List (Str × Addr)) (pm cv ctv u : Value), bindArgs (PySem.W.kla_fn "<lambda>" q params body scope cl pm cv ctv) ⟨[u], []⟩ = pure [(x, u)])
    (hN0 : N[0]? = some x) (hNx : x ∉ N.drop 1) (hl : js.length + 1 ≤ N.length) (hcap : js.map (fun j => C.N[j]?) = ((N.drop 1).take js.length).map some)
    (hbody : ∀ (A : Around) (outer : List Env) (s : Shared) (H : Hp) (f c' : Addr), Room k (A.deeper (lamEnvK C scope x s.heap.objs.size f c')) → DE (lamCxK C A outer s H scope x f c' N) ⟨C.K, [], [], X.ex, fun _ => none⟩ WN body bm)
    (hv : bootBuiltins "sorted" = some (.builtin "sorted") := by decide +kernel) (na : starEach [a] C.env = (false, eval a C.env) :: starEach [] C.env := by rfl)
    (he : backTo pos (starEach [a] C.env) = (false, eval a C.env) :: backTo pos (starEach [] C.env) := by rfl) (hpl : (backTo pos (starEach [a] C.env)).any (·.1) = false := by rfl)
    (hall : (backToKw pos (keywordEach [⟨some "key", .Lambda params body scope lpos, kpos⟩] C.env)).all (·.1.isSome) = true := by rfl) (hnone : (backToKw pos (keywordEach [⟨some "key", .Lambda params body scope lpos, kpos⟩] C.env)).any (·.1.isNone) = false := by rfl)
    (hks : (backToKw pos (keywordEach [⟨some "key", .Lambda params body scope lpos, kpos⟩] C.env)).filterMap (·.1) = [Str.ofString "key"] := by rfl) (hK : X.K = C.K := by rfl) :
    DE C X W (.Call (.Name "sorted" p) [a] [⟨some "key", .Lambda params body scope lpos, kpos⟩] pos) (eSortK m bm js (N.length - (js.length + 1))) := by
  refine ⟨fun pins s σ H Q I h => ?_⟩
  obtain ⟨Z, F, r, g, h⟩ := h
  obtain ⟨P1, hP1⟩ : ∃ P1 : List V → Hp → Prop, P1 = fun vs H1 => ∃ (y : V) (Z1 : Hp) (r1 : List Val) (ds cs : List D) (ks : List Int), vs = [y] ∧ G X Z1 F r1 σ H1 ∧ capsD r1 js = some cs ∧ keysO (keyRun bm cs (N.length - (js.length + 1))) ds = some ks ∧ Rep X.K Z1 y (.list ds) ∧
      ∀ Z' H', Ext Z1 Z' F → G X Z' F r1 σ H' → ∀ y, RV X Z' F H' r1 σ y (.ol (sortK ds ks)) → Q y H' := ⟨_, rfl⟩
  have hA : rdE X W m σ H fun x H1 => P1 [x] H1 := by
    rw [hP1]
    refine frz_run g ?_
    revert h
    unfold eSortK
    cases frz m r with
    | exc c ds r' => exact fun h => h
    | err => exact fun h => h
    | ok d r1 =>
      cases d with
      | list ds =>
        cases e1 : capsD r1 js with
        | none => exact fun h => by simp only [e1] at h; exact h.elim
        | some cs =>
          cases e2 : keysO (keyRun bm cs (N.length - (js.length + 1))) ds with
          | none => exact fun h => by simp only [e1, e2] at h; exact h.elim
          | some ks =>
            intro h Z1 H1 ex1 g1 y hy
            simp only [e1, e2] at h
            exact ⟨y, Z1, r1, ds, cs, ks, rfl, g1, e1, e2, hy, fun Z' H' ex' g' y hy => h Z' H' (ex1.trans ex') g' y hy⟩
      | _ => exact fun h => h.elim
  refine wpAny_Call_Name_kw (ld_blt I hg hmn hv ?_ (by decide) (by decide))
  have hm : (P, C.env.qual ++ "<lambda>") ∈ X.ex.tb := by rw [hT]; exact List.mem_singleton.mpr rfl
  have hmu : ∀ p ∈ X.ex.tb, p.1 = P → p.2 = C.env.qual ++ "<lambda>" := fun p hp _ => by
    rw [hT] at hp
    rw [List.mem_singleton.mp hp]
  have hk : PK C [⟨some "key", .Lambda params body scope lpos, kpos⟩] (tCons (tLamO C X.ex.tb params body scope) tNil) := pk_cons (pe_lamO TB hcode hm hmu hdef L) pk_nil
  refine callWith_kw (thn ((pa_cons ha pa_nil na).run pos pins s σ H P1 I hA) fun us s1 ⟨vs, H1, I1, r1, q1⟩ => ?_) he hpl hall hnone
  rw [hP1] at q1
  obtain ⟨y, Z1, r1', ds, cs, ks, rfl, g1, hcs, hks', hy, hq⟩ := q1
  refine thn (hk.run pos pins s1 σ H1 (fun zs H2 => ∃ (f c' : Addr) (pm ctv : Value), zs = [.ref f] ∧ Same (noT X.ex.tb H1) H2 ∧ LamX.Tabs X.ex.tb H2 ∧
    H2 f = some (ObO f (PySem.W.kla_obj "<lambda>" (C.env.qual ++ "<lambda>") params body scope (cloFrom C.env.cells scope.names []) pm c' ctv)) ∧ H2 c' = some (LamX.CodeO c' (C.env.qual ++ "<lambda>"))) I1
    ⟨g1.tb, fun f c' pm ctv H2 sm tb _ hf hc => ⟨f, c', pm, ctv, rfl, sm, tb, hf, hc⟩⟩) fun ws s2 ⟨zs, H2, I2, r2, q2⟩ => ?_
  obtain ⟨f, c', pm, ctv, rfl, sm2, tb2, hf2, hc2⟩ := q2
  rw [hks]
  have g2 := g1.growT sm2 tb2
  cases hy with
  | lst hlist hlen hreps =>
    rename_i l vsV
    rw [Vals.ref1 r1, Vals.ref1 r2]
    have hL2 : LiL C.K H2 l vsV := by rw [← hK]; exact LiL.same g2.zh hlist
    obtain ⟨its, n, hob, rv, hz⟩ := liL_here I2 hL2
    have lk := keysO_len hks'
    have lr := hreps.length
    have lv := rv.length
    refine sorted_lam (T := X.ex.tb) (kz := ks) I2 tb2 hob rv hz (by omega) (by have := hr.un; omega) (fun H3 s3 i xv v k' I3 sm3 tb3 ex ek rx => ?_) fun H' p' sm3 tb3 np hp => ?_
    · have sz : Same Z1 (noT X.ex.tb H3) := g1.nz.same ((g1.nz.same g2.zh).trans sm3)
      obtain ⟨dx, ed, rd⟩ := hreps.getV ex
      obtain ⟨k2, e2, hrun⟩ := keysO_at hks' ed
      rw [ek] at e2
      cases e2
      obtain ⟨ys, yl, yc, yr⟩ := caps_rel g2 hcs
      have hb := hbody
      unfold keyRun at hrun
      split at hrun
      · rename_i kk rr erun
        cases hrun
        refine thn (lam_call (k := k) (Q := fun w H4 => w = .int k' ∧ Same (noT X.ex.tb H3) H4 ∧ LamX.Tabs X.ex.tb H4) (ys := ys) I3 L (sm3 _ _ (noT_at hf2 tb2 obO_ne)) (sm3 _ _ (noT_at hc2 tb2 LamX.codeO_ne)) (hbind _ _ _ _ _ _) hr
          (fun A outer s H hr' => hbody A outer s H f c' hr') rx hN0 (fun i z => hNx ?_) (by omega) (fun i w ew => ?_) ?_) fun u s4 ⟨w, H4, I4, rw4, ew, sm4, tb4⟩ => ?_
        · rw [List.mem_iff_getElem?]
          exact ⟨i, by rw [List.getElem?_drop, Nat.add_comm]; exact z⟩
        · obtain ⟨j, j1, j2⟩ := yc i w ew
          refine ⟨j, ?_, j2⟩
          have q := congrArg (fun l => l[i]?) hcap
          simp only [List.getElem?_map, j1, Option.map_some] at q
          rw [List.getElem?_take_of_lt (List.getElem?_eq_some_iff.mp j1).1, List.getElem?_drop, Nat.add_comm] at q
          cases e : N[i + 1]? with
          | none => rw [e] at q; cases q
          | some z => rw [e] at q; exact Option.some.inj q
        · have gl : G ⟨C.K, [], [], X.ex, fun _ => none⟩ (noT X.ex.tb H3) (noT X.ex.tb H3) ((dx :: cs).map .fz ++ List.replicate (N.length - (js.length + 1)) .un) (L2.start N (xv :: ys)) H3 :=
            lam_G (by rw [← hK]; exact .cons (rd.up sz) (yr.up sz)) tb3 (by rw [List.length_cons, yl])
          refine ⟨_, _, _, gl, ?_⟩
          rw [erun]
          intro Z' H' ex' g' x' rv'
          cases rv'
          exact ⟨rfl, g'.fh, g'.tb⟩
        · subst ew
          obtain ⟨t, rfl⟩ := rw4
          exact ⟨t, H4, rfl, I4, sm4, tb4⟩
      · cases hrun
    · have g3 := g2.growT sm3 tb3
      refine hq Z1 H' (Ext.refl _ _) g3 _ ⟨p', _, rfl, hp, ?_, reps_sortK hreps ks, none_of g2.zh np, none_of g2.fh np, (g2.out (.inl np)).growT g2 sm3⟩
      exact Nat.le_trans (sortK_len _ _) hlen
end
end MS

/-! part 6w: the end of a law whose module has lambdas -/
namespace MS
open PySem PySem.Spec PyProof.Rows L2
theorem TopF.weak {K : PySem.W.Frag} {mg : Str → Option Value} {x : Str} {st : Stmt} {ps : List Str} {v : Value} (t : ∃ (f : Addr) (fd : FuncData), TopF K mg x st ps f fd ∧ fd.code = v) : ∃ (f : Addr) (fd : FuncData), TopF K mg x st ps f fd := by
  obtain ⟨f, fd, t, _⟩ := t
  exact ⟨f, fd, t⟩
theorem DefM.ofC {P : Program} {w : World} {K : PySem.W.Frag} {mg : Str → Option Value} {base : Heap} {ex : Ex} {k : Nat} {x : Str} {st : Stmt} {ps : List Str} {g : Fn} {v : Value} (t : ∃ (f : Addr) (fd : FuncData), TopF K mg x st ps f fd ∧ fd.code = v) (h : ∀ f fd, Fun K x x st f fd → fd.code = v → FnM P w K mg base ex k f fd ps g) : DefM P w K mg base ex k x ps g := by
  obtain ⟨f, fd, t, e⟩ := t
  exact ⟨f, fd, h f fd t.fn e, t.gl, t.fn.kp, t.bd⟩
abbrev tabN : Obj := { cls := .none, data := .fields #[] }
/-- the law's def, called at the top, with empty tables of code objects -/
theorem law_callTG {P : Program} {w : World} {K : PySem.W.Frag} {mg mb : Str → Option Value} {CX : CXT} {k : Nat} {fa a : Addr} {tb : List (Addr × Addr)} {fd : FuncData} {x : Str} {sp : Sp} {s₁ : Shared} {vs : List Value} {ns : List Int}
    (KX : K.In s₁.heap) (hns : s₁.heap.Ns mainGlobals mg) (hb : s₁.heap.Ns builtinsNs mb) (hbb : ∀ x : Str, x ≠ "__name__" → mb x = bootBuiltins x) (hlim : s₁.heap.NoLimit) (hg : s₁.gens = #[])
    (zt : ∀ q ∈ tb, s₁.heap.get? q.2 = some tabN) (zn : ∀ q ∈ tb, K.lookup q.2 = none) (zc : ∀ q ∈ tb, PySem.W.CodeHd s₁.heap q.1 q.2)
    (zb : ∃ (bm : Addr) (ob : Obj), mg "__builtins__" = some (.ref bm) ∧ bm ≠ builtinsNs ∧ s₁.heap.get? bm = some ob ∧ ob.cls = .type "module" ∧ ob.dict = some builtinsNs ∧ ob.data = .plain)
    (ha : s₁.heap.get? a = some { cls := .type "list", data := .seq vs.toArray }) (hi : IntsAre vs ns) (hl : ns.length ≤ sizeLine) (hr : Room k callerA)
    (F : ∀ base : Heap, K.In base → base.Ns mainGlobals mg → (∀ q ∈ tb, LamX.TabB base mg q.1 q.2) → FnG P w K mg base CX k fa fd [x] sp) (hbind : ∀ (s : Shared) (u : Value), BindsTo s fd ⟨[u], []⟩ [(x, u)])
    (hsp : ∀ H : Hp, (∀ q ∈ tb, H q.2 = some (.tbl #[])) → SqL K H a (ns.map V.int) → sp [.ref a] H (fun v _ => v = .bl true) fun _ _ _ => False)
    (hCX : ∀ H e s', CX [] H s₁ (fun _ _ _ => False) e s' → False) :
    codeAny (model P w) callerA (.call (.ref fa) ⟨[.ref a], []⟩) (fun r s' => r = .ok (.ret (.bool true)) ∧ OldK s₁.heap s'.heap ∧ s'.os = s₁.os ∧ AllBare s'.gens) s₁ := by
  have rv := vals_ints hi
  have nA : ∀ q ∈ tb, q.2 ≠ a := fun q hq z => by
    have e := zt q hq
    rw [z, ha] at e
    cases e
  have core : ∀ H : Hp, (∀ q ∈ tb, H q.2 = some (.tbl #[])) → (∀ b u, H b = some u → (∃ q ∈ tb, q.2 = b) ∨ ∃ ob xs, u = .frz ob (.lst xs)) → SqL K H a (ns.map V.int) → HOk P w H s₁.heap → (∀ b, H b ≠ none → b = a ∨ ∃ q ∈ tb, q.2 = b) → (H a ≠ none → K.lookup a = none) →
      codeAny (model P w) callerA (.call (.ref fa) ⟨[.ref a], []⟩) (fun r s' => r = .ok (.ret (.bool true)) ∧ OldK s₁.heap s'.heap ∧ s'.os = s₁.os ∧ AllBare s'.gens) s₁ := by
    intro H htb only sq hok one fresh
    have notH : ∀ {b : Addr}, b ≠ a → (∀ q ∈ tb, q.2 ≠ b) → H b = none := fun {b} n m => Classical.byContradiction fun z => (one b z).elim n fun ⟨q, hq, e⟩ => m q hq e
    -- what is neither a list nor a table is not tracked
    have plainH : ∀ {b : Addr} {o : Obj}, s₁.heap.get? b = some o → (∀ l n, o.data ≠ .seq l n) → o.data ≠ .fields #[] → H b = none := fun {b o} e n1 n2 => notH (fun z => by
        rw [z, ha] at e
        cases e
        exact n1 _ _ rfl) fun q hq z => by
        have e' := zt q hq
        rw [z, e] at e'
        cases e'
        exact n2 rfl
    have isD : ∀ {b : Addr} {o : Obj} {es : Array DictEntry} {ep : Nat}, s₁.heap.get? b = some o → o.data = .dict es ep → H b = none := fun {b o es ep} e d => plainH e (fun l n z => by rw [d] at z; cases z) fun z => by rw [d] at z; cases z
    have ns' : ∀ {b : Addr} {m : Str → Option Value}, s₁.heap.Ns b m → (hidT s₁.heap H).Ns b m := fun {b m} ⟨o, es, ep, e, d, r⟩ => ⟨o, es, ep, hidT_get e (isD e d), d, r⟩
    have kb : K.In (hidT s₁.heap H) := fun b o e => hidT_get (KX b o e) (Classical.byContradiction fun z => by
      rcases one b z with rfl | ⟨q, hq, y⟩
      · rw [fresh z] at e
        cases e
      · rw [← y, zn q hq] at e
        cases e)
    have md : Mod K mg (hidT s₁.heap H) := ⟨kb, ns' hns, ⟨mb, ns' hb, hbb⟩, let ⟨mc, h1, h2⟩ := hlim; ⟨mc, ns' h1, h2⟩⟩
    have gN : ∀ q ∈ tb, mainGlobals ≠ q.2 := fun q hq z => by
      obtain ⟨o, es, ep, e, d, _⟩ := hns
      rw [z, zt q hq] at e
      cases e
      cases d
    have tbs : ∀ q ∈ tb, LamX.TabB (hidT s₁.heap H) mg q.1 q.2 := fun q hq => by
      refine ⟨?_, ?_, gN q hq⟩
      · obtain ⟨o, us, f1, f2, f3, f4, f5, f6, f7, e, r1, r2, r3, rest⟩ := zc q hq
        refine ⟨o, us, f1, f2, f3, f4, f5, f6, f7, hidT_get e (plainH e (fun l n z => ?_) fun z => ?_), r1, r2, r3, rest⟩
        · rw [r2] at z
          cases z
        · rw [r2] at z
          cases z
          exact absurd r3 (by simp)
      · obtain ⟨bm, ob, b1, b2, b3, b4, b5, b6⟩ := zb
        refine ⟨bm, ob, b1, b2, fun z => ?_, fun z => ?_, hidT_get b3 (plainH b3 (fun l n z => ?_) fun z => ?_), b4, b5, b6⟩
        · obtain ⟨o, es, ep, e, d, _⟩ := hns
          rw [z, e] at b3
          cases b3
          rw [d] at b6
          cases b6
        · rw [z, zt q hq] at b3
          cases b3
          cases b6
        · rw [b6] at z
          cases z
        · rw [b6] at z
          cases z
    have e0 : Env0 P w K mg (hidT s₁.heap H) callerA [] s₁ H := ⟨rfl, md, fun b o e => of_hidT e, Nat.le_of_eq (hidT_size _ _), trivial, (fun b q => by cases q), hok, .of_eq hg⟩
    refine codeAny_mono ((F _ kb (ns' hns) tbs).run callerA [] s₁ H ⟨[.ref a], []⟩ [.ref a] [.ref a] _ _ hr e0 (hbind s₁ (.ref a)) (.cons rfl .nil) (hsp H htb sq)) fun r s' z => ?_
    match r, z with
    | .error e, z => exact (hCX H e s' z).elim
    | .ok .next, z => exact False.elim z
    | .ok .brk, z => exact False.elim z
    | .ok .cont, z => exact False.elim z
    | .ok (.ret u), z =>
      obtain ⟨v, H', os, bare, un, hok', r', q⟩ := z
      have q' : v = .bl true := q
      subst q'
      obtain rfl : u = Value.bool true := r'
      -- a table has grown, all else is as it was
      have grew : ∀ q ∈ tb, ∃ more : Array Value, s'.heap.get? q.2 = some { cls := .none, data := .fields (#[] ++ more) } := fun q hq => by
        obtain ⟨more, z⟩ := un.tbls q.2 #[] (htb q hq)
        exact ⟨more, hok' q.2 _ z⟩
      have same : ∀ b o, (∀ q ∈ tb, q.2 ≠ b) → s₁.heap.get? b = some o → s'.heap.get? b = some o := fun b o n e => by
        cases hq : H b with
        | none => exact un.keep b o e hq (by intro z; cases z) (by simp)
        | some u =>
          rcases only b u hq with ⟨q, h1, h2⟩ | ⟨ob, xs, rfl⟩
          · exact absurd h2 (n q h1)
          · obtain ⟨e1, _⟩ := hok b _ hq
            obtain ⟨e2, _⟩ := hok' b _ (un.frzs b ob _ hq)
            rw [e] at e1
            cases e1
            exact e2
      refine ⟨rfl, ⟨fun b o e => ?_, fun b o e => ?_⟩, os, bare⟩
      · by_cases hn : ∃ q ∈ tb, q.2 = b
        · obtain ⟨q, hq, rfl⟩ := hn
          obtain ⟨more, hm⟩ := grew q hq
          rw [zt q hq] at e
          cases e
          exact .inr (.inl ⟨((zc q hq).tab (zt q hq)).isCodeTable, rfl, #[], more, rfl, hm⟩)
        · exact .inl (same b o (fun q hq z => hn ⟨q, hq, z⟩) e)
      · by_cases hn : ∃ q ∈ tb, q.2 = b
        · obtain ⟨q, hq, rfl⟩ := hn
          obtain ⟨more, hm⟩ := grew q hq
          exact ⟨_, hm⟩
        · exact ⟨o, same b o (fun q hq z => hn ⟨q, hq, z⟩) e⟩
  have len : vs.length ≤ sizeLine := by rw [hi.length]; exact hl
  obtain ⟨H, hH⟩ : ∃ H : Hp, H = fun b => if ∃ q ∈ tb, q.2 = b then some (.tbl #[]) else if b = a ∧ K.lookup a = none then some (.frz { cls := .type "list", data := .seq vs.toArray } (.lst (ns.map V.int))) else none := ⟨_, rfl⟩
  have hT : ∀ q ∈ tb, H q.2 = some (.tbl #[]) := fun q hq => by
    rw [hH]
    exact if_pos ⟨q, hq, rfl⟩
  have cases3 : ∀ b u, H b = some u → ((∃ q ∈ tb, q.2 = b) ∧ u = .tbl #[]) ∨ ((b = a ∧ K.lookup a = none) ∧ u = .frz { cls := .type "list", data := .seq vs.toArray } (.lst (ns.map V.int))) := fun b u e => by
    rw [hH] at e
    by_cases h1 : ∃ q ∈ tb, q.2 = b
    · have e' := (if_pos h1).symm.trans e
      cases e'
      exact .inl ⟨h1, rfl⟩
    · have e' := (if_neg h1).symm.trans e
      by_cases h2 : b = a ∧ K.lookup a = none
      · have e2 := (if_pos h2).symm.trans e'
        cases e2
        exact .inr ⟨h2, rfl⟩
      · have e2 := (if_neg h2).symm.trans e'
        cases e2
  refine core H hT (fun b u e => ?_) ?_ (fun b u e => ?_) (fun b z => ?_) fun z => ?_
  · rcases cases3 b u e with ⟨h, _⟩ | ⟨_, rfl⟩
    · exact .inl h
    · exact .inr ⟨_, _, rfl⟩
  · cases hk : K.lookup a with
    | some o =>
      have e := KX a o hk
      rw [ha] at e
      cases e
      exact .inr ⟨_, vs.toArray, _, hk, rfl, rfl, rfl, by rw [List.size_toArray]; exact len, by simpa using rv⟩
    | none =>
      refine .inl (.inr ⟨{ cls := .type "list", data := .seq vs.toArray }, ?_⟩)
      rw [hH]
      exact (if_neg fun ⟨q, hq, z⟩ => nA q hq z).trans (if_pos ⟨rfl, hk⟩)
  · rcases cases3 b u e with ⟨⟨q, hq, rfl⟩, rfl⟩ | ⟨⟨rfl, _⟩, rfl⟩
    · exact zt q hq
    · exact ⟨ha, by rw [List.length_map]; exact hl, vs, _, rv, ha⟩
  · cases e : H b with
    | none => exact absurd e z
    | some u =>
      rcases cases3 b u e with ⟨h, _⟩ | ⟨⟨h, _⟩, _⟩
      · exact .inr h
      · exact .inl h
  · cases e : H a with
    | none => exact absurd e z
    | some u =>
      rcases cases3 a u e with ⟨⟨q, hq, h⟩, _⟩ | ⟨⟨_, h⟩, _⟩
      · exact absurd h (nA q hq)
      · exact h
/-- the law's row, where the module has lambdas: each def that makes one has a table -/
theorem law_walkT {l : PySem.W.OpenLaw} {n k : Nat} {q : Program} {loose : List Str} {XP : (Str → Option Value) → Heap → Prop} {YP : World → Heap → Prop} {d : DefRec} {K : Params → PySem.W.Frag} {gf : Fn} {x : Str} (hn : l.most = some n) (h2 : n ≤ sizeLine) (hdf : d.params.defaults = []) (hr : Room k callerA)
    (kin : ∀ (w : World) (h : Heap), YP w h → (K w.params).In h) (run : ∀ ns : List Int, ns.length ≤ n → ∃ r, gf [.fz (scriptD ns)] = .ok (.fz (.bool true)) r)
    (top : ∀ (w : World) (mg : Str → Option Value) (fa : Addr) (h : Heap), YP w h → (K w.params).In h → h.Ns mainGlobals mg → mg d.name = some (.ref fa) →
      ∃ (fd : FuncData) (tb : List (Addr × Addr)) (ex : Ex), (∀ q ∈ tb, h.get? q.2 = some tabN) ∧ (∀ q ∈ tb, (K w.params).lookup q.2 = none) ∧ (∀ q ∈ tb, PySem.W.CodeHd h q.1 q.2) ∧ (∀ p ∈ ex.tb, ∃ q ∈ tb, q.2 = p.1) ∧
        (∀ (s : Shared) (u : Value), BindsTo s fd ⟨[u], []⟩ [(x, u)]) ∧ ∀ base : Heap, (K w.params).In base → base.Ns mainGlobals mg → (∀ q ∈ tb, LamX.TabB base mg q.1 q.2) → FnM l.prog w (K w.params) mg base ex k fa fd [x] gf) :
    PySem.W.WalkO q loose XP YP l.row.toRowW d [] (fun f vs => PySem.call f vs) := by
  refine Att.attach_call hn hdf fun w s₀ s₁ mg mb fa o pm cd doc a vs ns G Y ho hd hcd hmg hobj hints hlen hg => ?_
  have inK := kin w _ Y
  obtain ⟨fd, tb, ex, zt, zn, zc, he, hb, hF⟩ := top w mg fa _ Y inK G.T.g hmg
  obtain ⟨r, hrun⟩ := run ns hlen
  have hle : ns.length ≤ sizeLine := Nat.le_trans hlen h2
  refine law_callTG inK G.T.g G.T.b G.T.builtins G.T.nolimit hg zt zn zc G.T.bmain hobj hints hle hr hF hb (fun H hT hS => sp_law (liL_of inK hobj hS) hle hrun fun p hp => ?_) fun H e s' c => ?_
  · obtain ⟨q, hq, e⟩ := he p hp
    rw [← e]
    exact LamX.TabS.nil (hT q hq)
  · obtain ⟨_, _, _, _, _, _, _, _, _, _, _, _, z⟩ := c
    exact z
end MS

/-! part 6h: sorted(t), t a tuple of rows -/
namespace MS
open PySem PySem.Spec PyProof.Rows L2
section
variable {C : Cx} {X : Fx} {W : WX} {pins : List (Addr × Obj)} {σ : L2.St} {H Z : Hp} {s : Shared}
theorem ints_as {h : Heap} : ∀ {ns : List Int} {us : List Value} {as : List Addr}, PySem.ReadsAll h us (ns.map PyData.int) as → as = []
  | [], _, _, r => by
    have r' : PySem.ReadsAll h _ [] _ := r
    cases r'
    rfl
  | n :: ns, _, _, r => by
    have r' : PySem.ReadsAll h _ (PyData.int n :: ns.map PyData.int) _ := r
    cases r' with
    | cons h1 h2 =>
      cases h1
      exact ints_as h2
theorem row_as {h : Heap} {u : Value} {ns : List Int} {as : List Addr} (r : PySem.Reads h u (rowD ns) as) : as = [] := by
  have r' : PySem.Reads h u (.tuple (ns.map .int)) as := r
  cases r' with
  | tuple h1 h2 h3 h4 => exact ints_as h4
def rSortTR (K : PySem.W.Frag) : List V → Hp → VK → Prop := fun vs H Q => ∃ (Z : Hp) (a : Addr) (xs : List V) (nss : List (List Int)), Same Z H ∧ vs = [V.ref a] ∧ SqT K H a xs ∧ Reps K Z xs (nss.map rowD) ∧ (nss.all fun ns => !ns.isEmpty) = true ∧ ∀ (ys : List V) (p : Addr), Reps K Z ys ((isort leL nss).map rowD) → ys.length ≤ sizeLine → H p = none → Q (.ref p) (upd H p (.lst ys))
theorem cr_sortTR (hu : C.A.units + 64 < cLine) : CallR C (.builtin "sorted") (rSortTR C.K) := by
  intro pins s σ H xs us Q I rx ⟨Z, a, ws, nss, hz0, ex, hq, hr, hne, q⟩
  subst ex
  rw [Vals.ref1 rx]
  obtain ⟨its, rv, ⟨o, ho, hc, n, hd⟩, hz⟩ := I.tuple hq
  have hzi : its.length ≤ sizeLine := by rw [← rv.length]; exact hz
  refine call_function_entry_kw kind_sorted plain_sorted entry_sorted (args_sorted1 _) ?_
  unfold Builtin.«sorted»
  refine wpAny_bind (m := checkCount "sorted" 1 1 _) (wpAny_pure ?_)
  refine wpAny_bind (wpAny_collect_seq a (.inr rfl) ho hc hd (fun h' hk => ?_) (by simpa using hzi))
  refine wpAny_bind (wpAny_newList ?_ (by simpa using hzi))
  have I2 : Inv C pins σ H { s with heap := h' } := I.kept hk
  have fr : H h'.objs.size = none := I2.hok.fresh (Nat.le_refl _)
  have I3 : Inv C pins σ (upd H h'.objs.size (.lst ws)) { s with heap := h'.push { cls := .type "list", data := .seq its.toArray.toList.toArray } } := I2.laid (t' := s.toks) (fun b ob q => Heap.get?_push_of_some _ q) (Nat.le_refl _) ⟨hz, its, 0, rv, Heap.get?_push_size _ rfl⟩
  obtain ⟨bs, b1, b2, b3, b4, b5⟩ := rows_each I2 hz0 hr rv
  have ll : bs.length ≤ sizeLine := by rw [← List.length_map (f := fun b : V × List Int => b.1), b1]; exact hz
  have hob : (h'.push { cls := .type "list", data := .seq its.toArray.toList.toArray }).get? h'.objs.size = some (seqObj "list" its.toArray 0) := Heap.get?_push_size _ rfl
  have er : PySem.W.EachIs (fun u b => ∃ as, PySem.Reads (h'.push { cls := .type "list", data := .seq its.toArray.toList.toArray }) u (encR b) as ∧ h'.objs.size ∉ as) its bs := b5.mono fun u b ⟨as, r⟩ => ⟨as, PyProof.Rows.Reads.keeps (fun _ _ q => Heap.get?_push_of_some _ q) r, by rw [row_as r]; simp⟩
  refine wpAny_bind (wpAny_holding ?_)
  refine PySem.W.list_sort_data (s := { s with heap := h'.push { cls := .type "list", data := .seq its.toArray.toList.toArray } }) (R := fun u b => RelV b.1 u) (enc := encR) hob b4 er (PySem.W.AllAlike.of fun b b' => by simp [encR, rowD, PySem.W.alike, alike_ints]) (.inl fun d hd => ?_) ll (fun b _ => ?_) fun out ho eo => ?_
  · obtain ⟨b, hb, rfl⟩ := List.mem_map.mp hd
    have hm : b.2 ∈ nss := by rw [← b2]; exact List.mem_map.mpr ⟨b, hb, rfl⟩
    have := List.all_eq_true.mp hne _ hm
    obtain ⟨bv, bn⟩ := b
    cases bn with
    | nil => simp at this
    | cons i is => exact ⟨.int i, is.map .int, rfl⟩
  · have := row_depth b.2
    show C.A.units + 1 + 1 + (rowD b.2).depth < cLine
    omega
  · obtain ⟨ep, he'⟩ := PyProof.Rows.sortedHeap_at (vs := its) (out := out.toArray) hob
    have pm := List.mergeSort_perm bs (PySem.W.dataLe false encR)
    have es : (bs.mergeSort (PySem.W.dataLe false encR)).map (·.2) = isort leL nss := by
      rw [le_rows] at pm ⊢
      refine List.Perm.eq_of_pairwise (le := fun a b => leL a b = true) (fun a b _ _ p q => leL_an a b p q) ?_ (isort_pair leL_tr leL_to nss) ?_
      · exact List.pairwise_map.mpr (List.pairwise_mergeSort (le := fun p q : V × List Int => leL p.2 q.2) (fun a b c => leL_tr _ _ _) (fun a b => leL_to _ _) bs)
      · refine (pm.map _).trans ?_
        rw [b2]
        exact (isort_perm nss).symm
    have len : ((bs.mergeSort (PySem.W.dataLe false encR)).map (·.1)).length ≤ sizeLine := by rw [List.length_map, pm.length_eq]; exact ll
    have eu : upd (upd H h'.objs.size (.lst ws)) h'.objs.size (.lst ((bs.mergeSort (PySem.W.dataLe false encR)).map (·.1))) = upd H h'.objs.size (.lst ((bs.mergeSort (PySem.W.dataLe false encR)).map (·.1))) := by
      funext b
      by_cases hb : b = h'.objs.size
      · subst hb; rw [upd_same, upd_same]
      · rw [upd_ne hb, upd_ne hb, upd_ne hb]
    refine wpAny_pure ⟨_, rfl, .ref h'.objs.size, upd H h'.objs.size (.lst ((bs.mergeSort (PySem.W.dataLe false encR)).map (·.1))), ?_, rfl, q _ _ (by rw [← es]; exact reps_each fun b hb => b3 b (pm.mem_iff.mp hb)) len fr⟩
    rw [← eu]
    refine I3.write (e := h'.objs.size) (t' := s.toks) (by rw [upd_same]; trivial) (.inl rfl) (fun b u hb hu => ?_) ⟨_, he'⟩ ⟨len, out, ep, vals_each eo, he'⟩
    show (PyProof.Rows.sortedHeap _ h'.objs.size its out.toArray).get? b = some u
    rw [PyProof.Rows.sortedHeap_old hb (Heap.lt_size hu)]
    exact hu
/-- a list, or a tuple -/
def sortedU : List D → Option Val
  | [.tuple ds] => (sortLD ds).map .ol
  | ds => sortedV ds
theorem call_sortedU (hu : C.A.units + 64 < cLine) : CallR C (.builtin "sorted") (rApp C.K sortedU) := by
  intro pins s σ H xs us Q I rx ⟨Z, ds, v, hz, hx, hf, fr⟩
  unfold sortedU at hf
  split at hf
  · rename_i ds
    obtain ⟨x, rfl, hx1⟩ := RepHs.one hx
    cases hx1 with
    | tup s1 l q =>
      rename_i a vs
      unfold sortLD at hf
      split at hf
      · rename_i ns e1
        cases hf
        obtain rfl := q.ints e1
        refine cr_sortTI pins s σ H _ us Q I rx ⟨a, ns, rfl, SqT.at hz s1, fun ns' p h1 h2 np => ?_⟩
        obtain rfl := sortI_uniq h1 h2
        refine fr.lst hz (reps_ints _) ?_ p np
        rw [List.length_map, h1.length_eq]
        rw [List.length_map] at l
        exact l
      · split at hf
        · rename_i nss e1
          split at hf
          · rename_i hne
            cases hf
            obtain rfl := rowsD_eq e1
            exact cr_sortTR hu pins s σ H _ us Q I rx ⟨Z, a, vs, nss, hz, rfl, SqT.at hz s1, q, hne, fun ys p ry hl np => fr.lst hz ry hl p np⟩
          · cases hf
        · cases hf
  · exact call_sortedV hu pins s σ H xs us Q I rx ⟨Z, ds, v, hz, hx, hf, fr⟩
end
@[simp] theorem sortedU_l (ds : List D) : sortedU [.list ds] = sortedV [.list ds] := (rfl)
@[simp] theorem sortedU_t (ds : List D) : sortedU [.tuple ds] = (sortLD ds).map .ol := (rfl)
end MS

namespace MP
open PySem PySem.Spec PyProof.Rows L2 MS
def b__law_cell : M Fl := (sSeq (sIf (asB (bin ltD (.sl 1) (.v (app lenD [(.sl 0)]))))
    (sRet (bin ixD (.sl 0) (.sl 1)))
    sNil)
    (sRet (eK (.int 0))))
def f__law_cell : Fn := runF 2 2 [] b__law_cell
def b__law_draw : M Fl := (sSeq (sIf (asB (bin eqD (.v (bin ixD (.sl 0) (.v (eK (.int 1))))) (.v (eK (.int 1)))))
    (sSeq (sSet 2 (bin modD (.v (bin ixD (.sl 0) (.v (eK (.int 0))))) (.sl 1)))
    (sSeq (sPut 0 (eK (.int 0)) (bin fdivD (.v (bin ixD (.sl 0) (.v (eK (.int 0))))) (.sl 1)))
    (sRet (eMv 2))))
    sNil)
    (sSeq (sPut 0 (eK (.int 0)) (bin modD (.v (bin addD (.v (bin mulD (.v (bin modD (.v (bin ixD (.sl 0) (.v (eK (.int 0))))) (.v (eK (.int 2147483629))))) (.v (eK (.int 48271))))) (.v (eK (.int 11))))) (.v (eK (.int 2147483629)))))
    (sRet (bin modD (.v (bin fdivD (.v (bin modD (.v (bin addD (.v (bin mulD (.v (bin ixD (.sl 0) (.v (eK (.int 0))))) (.v (bin ixD (.sl 0) (.v (eK (.int 0))))))) (.v (bin mulD (.v (eK (.int 40692))) (.v (bin ixD (.sl 0) (.v (eK (.int 0))))))))) (.v (eK (.int 2147483647))))) (.v (eK (.int 8))))) (.sl 1)))))
def f__law_draw : Fn := runF 3 2 [0] b__law_draw
def b__law_pen : M Fl := (sRet (eLst [(eRd 0), (app intV [(.v (bin geD (.sl 0) (.v (bin powD (.v (eK (.int 10))) (.v (eK (.int 18)))))))])]))
def f__law_pen : Fn := runF 1 1 [] b__law_pen
def b__law_kind_of (c : String) : M Fl := (sSeq (sSet 1 (eLst [(eK (.bool ("NoNumber" == c))), (eK (.bool ("NoSet" == c))), (eK (.bool ("NoHues" == c))), (eK (.bool ("NoLot" == c)))]))
    (sSeq (sSet 1 (bin addD (.sl 1) (.v (eLst [(eK (.bool ("NoMap" == c))), (eK (.bool ("NoTurn" == c))), (eK (.bool ("NoWeights" == c))), (eK (.bool ("NoRow" == c)))]))))
    (sSeq (sSet 1 (bin addD (.sl 1) (.v (eLst [(eK (.bool ("NoText" == c))), (eK (.bool ("NoLine" == c))), (eK (.bool ("NoDeed" == c))), (eK (.bool ("TooGreat" == c)))]))))
    (sSeq (sIf (tOrM (tNotM (asB (eK (.bool true)))) (asB (bin neD (.v (eRm cntD (.sl 1) (.v (eK (.bool true))))) (.v (eK (.int 1))))))
    (sRet (eK (.str "other")))
    sNil)
    (sSeq (sSet 2 (eLst [(eK (.str "number")), (eK (.str "set")), (eK (.str "hues")), (eK (.str "lot")), (eK (.str "map")), (eK (.str "turn")), (eK (.str "weights")), (eK (.str "row")), (eK (.str "text")), (eK (.str "line")), (eK (.str "deed")), (eK (.str "great"))]))
    (sRet (bin ixD (.sl 2) (.v (eRm idxD (.sl 1) (.v (eK (.bool true))))))))))))
def kw__law_kind_of : String → Option Str := kwOf b__law_kind_of 3
def b_all_of : M Fl := (sSeq (sSet 2 (eLst [(eTup [])]))
    (sSeq (sFor (tgN 3) (iR1 (.sl 1))
    (sSet 2 (eSumL (eLc [4] (iSeq (eRd 2)) (tgN 4) tTrue (eLc [5] (iR2 (.v (bin addD (.v (app maxD [(.v (bin addD (.v (eTup [(una negD (.v (eK (.int 1))))])) (.sl 4)))])) (.v (eK (.int 1))))) (.sl 0)) (tgN 5) tTrue (bin addD (.sl 4) (.v (eTup [(eRd 5)]))))))))
    (sRet (eMv 2))))
def f_all_of : Fn := runF 6 2 [] b_all_of
def b_missing : M Fl := (sRet (eNot (app anyD [(.v (eLc [2] (iSeq (eRd 0)) (tgN 2) tTrue (bin inD (.sl 2) (.sl 1))))])))
def f_missing : Fn := runF 3 2 [] b_missing
def b_gone_on (self : Fn) : M Fl := (sSeq (sIf (asB (bin eqD (.sl 1) (.v (eLst []))))
    (sRet (eIf (tOrM (tNotM (asB (eRd 2))) (asB (callV f_missing [(bin ixD (.sl 0) (.v (eK (.int 0)))), (bin ixD (.sl 0) (.v (una negD (.v (eK (.int 1))))))]))) (eRd 0) (eK .none)))
    sNil)
    (sSeq (sSet 3 (eLc [4] (iSeq (eRd 1)) (tgN 4) (asB (callV f_missing [(bin ixD (.sl 0) (.v (una negD (.v (eK (.int 1)))))), (eRd 4)])) (eRd 4)))
    (sSeq (sFor (tgN 4) (iSeq (eSortK (eRd 3) (app lenD [(.v (eLc [2] (iSeq (eRd 1)) (tgN 2) (asB (callV f_missing [(eRd 0), (eRd 2)])) (eRd 2)))]) [1] 1))
    (sSeq (sSet 5 (callV self [(bin addD (.sl 0) (.v (eTup [(eRd 4)]))), (eLc [6] (iSeq (eRd 1)) (tgN 6) (asB (bin neD (.sl 6) (.sl 4))) (eRd 6)), (eRd 2)]))
    (sIf (asB (bin isnD (.sl 5) (.v (eK .none))))
    (sRet (eMv 5))
    sNil)))
    (sRet (eK .none)))))
def f_gone_on : Nat → Fn
  | 0 => fun _ => .err
  | d + 1 => runF 7 3 [] (b_gone_on (f_gone_on d))
def b_is_whole : M Fl := (sRet (eAnd (eIsi "int" (.sl 0)) (eNot (eIsi "bool" (.sl 0)))))
def f_is_whole : Fn := runF 1 1 [] b_is_whole
def b_is_from : M Fl := (sRet (eAnd (callV f_is_whole [(eRd 0)]) (eChain leD leD (.sl 1) (.sl 0) (.sl 2))))
def f_is_from : Fn := runF 3 3 [] b_is_from
def b_must_from : M Fl := (sIf (tNotM (asB (callV f_is_from [(eRd 0), (eRd 1), (eRd 2)])))
    (sRaise "NoNumber")
    sNil)
def f_must_from : Fn := runF 3 3 [] b_must_from
def b_must_size : M Fl := (sSeq (sDrop (callV f_must_from [(eRd 0), (eK (.int 1)), (eK (.int 8))]))
    (sDrop (callV f_must_from [(eRd 1), (eK (.int 1)), (eRd 0)])))
def f_must_size : Fn := runF 2 2 [] b_must_size
def b_must_few : M Fl := (sSeq (sDrop (callV f_must_size [(eRd 0), (eRd 1)]))
    (sIf (asB (bin gtD (.v (app lenD [(.v (callV f_all_of [(eRd 0), (eRd 1)]))])) (.sl 2)))
    (sRaiseV "TooGreat" [(app lenD [(.v (callV f_all_of [(eRd 0), (eRd 1)]))]), (eRd 2)])
    sNil))
def f_must_few : Fn := runF 3 3 [] b_must_few
def b_some_ring : M Fl := (sSeq (sDrop (callV f_must_few [(eRd 0), (eRd 1), (eK (.int 21))]))
    (sSeq (sSet 2 (callV f_all_of [(eRd 0), (eRd 1)]))
    (sSeq (sIf (asB (bin ltD (.v (app lenD [(.sl 2)])) (.v (eK (.int 3)))))
    (sRet (eK .none))
    sNil)
    (sRet (callV (f_gone_on 24) [(eTup [(bin ixD (.sl 2) (.v (eK (.int 0))))]), (eSl slD (.sl 2) (some (eK (.int 1))) none), (eK (.bool true))])))))
def f_some_ring : Fn := runF 3 2 [] b_some_ring
def b_some_row : M Fl := (sSeq (sDrop (callV f_must_few [(eRd 0), (eRd 1), (eK (.int 21))]))
    (sSeq (sSet 2 (callV f_all_of [(eRd 0), (eRd 1)]))
    (sRet (callV (f_gone_on 24) [(eTup [(bin ixD (.sl 2) (.v (eK (.int 0))))]), (eSl slD (.sl 2) (some (eK (.int 1))) none), (eK (.bool false))]))))
def f_some_row : Fn := runF 3 2 [] b_some_row
def b__law_came : M Fl := (sTry 3 (sRet (callT [f_some_row, f_some_ring] (eRd 0) [(eRd 1), (eRd 2)]))
    (fun c ds => (sSeq (sIf (asB (bin eqD (.v (kwE kw__law_kind_of c)) (.v (eK (.str "great")))))
    (sRet (eLst [(xfE 0 ds), (xfE 1 ds)]))
    sNil)
    (sRet (kwE kw__law_kind_of c)))))
def f__law_came : Fn := runF 4 3 [] b__law_came
def b__law_miss : M Fl := (sRet (bin eqD (.v (eLc [2] (iSeq (eRd 0)) (tgN 2) (asB (bin inD (.sl 2) (.sl 1))) (eRd 2))) (.v (eLst []))))
def f__law_miss : Fn := runF 3 2 [] b__law_miss
def b__law_whole : M Fl := (sRet (eAnd (eIsi "int" (.sl 0)) (eNot (eIsi "bool" (.sl 0)))))
def f__law_whole : Fn := runF 1 1 [] b__law_whole
def b__law_is_set : M Fl := (sSeq (sIf (tOrM (tNotM (asB (eIsi "tuple" (.sl 2)))) (tOrM (asB (bin neD (.v (app lenD [(.sl 2)])) (.sl 1))) (tNotM (asB (app allD [(.v (eLc [3] (iSeq (eRd 2)) (tgN 3) tTrue (callV f__law_whole [(eRd 3)])))])))))
    (sRet (eK (.bool false)))
    sNil)
    (sRet (eAnd (bin eqD (.v (app listV [(.sl 2)])) (.v (una ssetD (.sl 2)))) (eAnd (bin leD (.v (eK (.int 0))) (.v (bin ixD (.sl 2) (.v (eK (.int 0)))))) (bin ltD (.v (bin ixD (.sl 2) (.v (una negD (.v (eK (.int 1))))))) (.sl 0))))))
def f__law_is_set : Fn := runF 4 3 [] b__law_is_set
def b__law_sets : M Fl := (sSeq (sSet 2 (eLst [(eTup [])]))
    (sSeq (sFor (tgN 3) (iR1 (.sl 0))
    (sSet 2 (bin addD (.sl 2) (.v (eLc [4] (iSeq (eRd 2)) (tgN 4) (asB (bin ltD (.v (app lenD [(.sl 4)])) (.sl 1))) (bin addD (.sl 4) (.v (eTup [(eRd 3)]))))))))
    (sRet (app sortedV [(.v (eLc [4] (iSeq (eRd 2)) (tgN 4) (asB (bin eqD (.v (app lenD [(.sl 4)])) (.sl 1))) (eRd 4)))]))))
def f__law_sets : Fn := runF 5 2 [] b__law_sets
def b__law_row_good : M Fl := (sSeq (sIf (tNotM (asB (eIsi "tuple" (.sl 2))))
    (sRet (eK (.bool false)))
    sNil)
    (sSeq (sFor (tgN 3) (iSeq (eRd 2))
    (sIf (tNotM (asB (callV f__law_is_set [(eRd 0), (eRd 1), (eRd 3)])))
    (sRet (eK (.bool false)))
    sNil))
    (sSeq (sIf (asB (bin neD (.v (app sortedU [(.sl 2)])) (.v (callV f__law_sets [(eRd 0), (eRd 1)]))))
    (sRet (eK (.bool false)))
    sNil)
    (sRet (bin eqD (.v (eLc [4] (iR2 (.v (eK (.int 1))) (.v (app lenD [(.sl 2)]))) (tgN 4) (tNotM (asB (callV f__law_miss [(bin ixD (.sl 2) (.v (bin subD (.sl 4) (.v (eK (.int 1)))))), (bin ixD (.sl 2) (.sl 4))]))) (eRd 4))) (.v (eLst [])))))))
def f__law_row_good : Fn := runF 5 3 [] b__law_row_good
def b__law_ring_good : M Fl := (sRet (eAnd (callV f__law_row_good [(eRd 0), (eRd 1), (eRd 2)]) (eAnd (bin gtD (.v (app lenD [(.sl 2)])) (.v (eK (.int 2)))) (callV f__law_miss [(bin ixD (.sl 2) (.v (eK (.int 0)))), (bin ixD (.sl 2) (.v (una negD (.v (eK (.int 1))))))]))))
def f__law_ring_good : Fn := runF 3 3 [] b__law_ring_good
def b__law_same (self : Fn) : M Fl := (sSeq (sIf (asB (bin isD (.sl 1) (.v (eK .none))))
    (sRet (bin isD (.sl 0) (.v (eK .none))))
    sNil)
    (sSeq (sIf (tOrM (asB (eIsi "tuple" (.sl 1))) (asB (eIsi "list" (.sl 1))))
    (sSeq (sIf (tOrM (asB (bin neD (.v (eIsi "tuple" (.sl 0))) (.v (eIsi "tuple" (.sl 1))))) (asB (bin neD (.v (eIsi "list" (.sl 0))) (.v (eIsi "list" (.sl 1))))))
    (sRet (eK (.bool false)))
    sNil)
    (sSeq (sIf (asB (bin neD (.v (app lenD [(.sl 0)])) (.v (app lenD [(.sl 1)]))))
    (sRet (eK (.bool false)))
    sNil)
    (sSeq (sFor (tgT [(tgN 2), (tgN 3)]) (iApp zipsD [(eRd 0), (eRd 1)])
    (sIf (tNotM (asB (callV self [(eRd 2), (eRd 3)])))
    (sRet (eK (.bool false)))
    sNil))
    (sRet (eK (.bool true))))))
    sNil)
    (sSeq (sIf (asB (eIsi "str" (.sl 1)))
    (sRet (eAnd (eIsi "str" (.sl 0)) (bin eqD (.sl 0) (.sl 1))))
    sNil)
    (sRet (eAnd (bin eqD (.v (eIsi "bool" (.sl 0))) (.v (eIsi "bool" (.sl 1)))) (eAnd (eIsi "int" (.sl 0)) (bin eqD (.sl 0) (.sl 1))))))))
def f__law_same : Nat → Fn
  | 0 => fun _ => .err
  | d + 1 => runF 4 2 [] (b__law_same (f__law_same d))
def b__law_through : M Fl := (sSeq (sSet 3 (app lenD [(.v (callV f__law_sets [(eRd 0), (eRd 1)]))]))
    (sSeq (sIf (asB (eRd 2))
    (sRet (eAnd (bin gtD (.sl 3) (.v (eK (.int 2)))) (eAnd (bin gtD (.sl 0) (.v (bin mulD (.v (eK (.int 2))) (.sl 1)))) (bin neD (.v (eTup [(eRd 0), (eRd 1)])) (.v (eTup [(eK (.int 5)), (eK (.int 2))]))))))
    sNil)
    (sRet (eOr (eAnd (bin ltD (.sl 3) (.v (eK (.int 3)))) (bin gtD (.sl 0) (.v (bin subD (.v (bin mulD (.v (eK (.int 2))) (.sl 1))) (.v (eK (.int 1))))))) (eOr (bin eqD (.sl 3) (.v (eK (.int 1)))) (bin gtD (.sl 0) (.v (bin mulD (.v (eK (.int 2))) (.sl 1)))))))))
def f__law_through : Fn := runF 4 3 [] b__law_through
def b__law_right : M Fl := (sSeq (sSet 2 (app lenD [(.v (callV f__law_sets [(eRd 0), (eRd 1)]))]))
    (sSeq (sPar2 3 4 [(callV f__law_came [(eK (.int 0)), (eRd 0), (eRd 1)]), (callV f__law_came [(eK (.int 1)), (eRd 0), (eRd 1)])])
    (sSeq (sIf (asB (bin gtD (.sl 2) (.v (eK (.int 21)))))
    (sRet (eAnd (callV (f__law_same 12) [(eRd 3), (eLst [(eRd 2), (eK (.int 21))])]) (callV (f__law_same 12) [(eRd 4), (eLst [(eRd 2), (eK (.int 21))])])))
    sNil)
    (sSeq (sIf (tOrM (asB (bin neD (.v (bin isnD (.sl 3) (.v (eK .none)))) (.v (callV f__law_through [(eRd 0), (eRd 1), (eK (.bool false))])))) (asB (bin neD (.v (bin isnD (.sl 4) (.v (eK .none)))) (.v (callV f__law_through [(eRd 0), (eRd 1), (eK (.bool true))])))))
    (sRet (eK (.bool false)))
    sNil)
    (sSeq (sIf (tAndM (asB (bin isnD (.sl 3) (.v (eK .none)))) (tNotM (asB (callV f__law_row_good [(eRd 0), (eRd 1), (eRd 3)]))))
    (sRet (eK (.bool false)))
    sNil)
    (sRet (eOr (bin isD (.sl 4) (.v (eK .none))) (callV f__law_ring_good [(eRd 0), (eRd 1), (eRd 4)]))))))))
def f__law_right : Fn := runF 5 2 [] b__law_right
def b__law_size : M Fl := (sSeq (sSet 1 (bin ixD (.v (eLst [(eK (.int 8)), (eK (.int 7)), (eK (.int 6)), (eK (.int 5)), (eK (.int 7)), (eK (.int 6)), (eK (.int 5)), (eK (.int 4)), (eK (.int 8)), (eK (.int 3)), (eK (.int 2)), (eK (.int 1))])) (.v (callB f__law_draw 0 [(eK (.int 12))]))))
    (sRet (eTup [(eRd 1), (bin ixD (.v (eLst [(bin addD (.v (eK (.int 1))) (.v (callB f__law_draw 0 [(eRd 1)]))), (bin addD (.v (eK (.int 1))) (.v (callB f__law_draw 0 [(bin fdivD (.v (bin addD (.sl 1) (.v (eK (.int 1))))) (.v (eK (.int 2))))])))])) (.v (callB f__law_draw 0 [(eK (.int 2))])))])))
def f__law_size : Fn := runF 2 1 [0] b__law_size
def b_law : M Fl := (sSeq (sFor (tgT [(tgN 1), (tgN 2)]) (iSeq (eLst [(eTup [(eK (.int 1)), (eK (.int 1))]), (eTup [(eK (.int 2)), (eK (.int 1))]), (eTup [(eK (.int 3)), (eK (.int 1))]), (eTup [(eK (.int 2)), (eK (.int 2))]), (eTup [(eK (.int 3)), (eK (.int 2))]), (eTup [(eK (.int 4)), (eK (.int 2))]), (eTup [(eK (.int 5)), (eK (.int 2))]), (eTup [(eK (.int 6)), (eK (.int 3))]), (eTup [(eK (.int 7)), (eK (.int 2))])]))
    (sIf (tNotM (asB (callV f__law_right [(eRd 1), (eRd 2)])))
    (sRet (eK (.bool false)))
    sNil))
    (sSeq (sFor (tgN 3) (iSeq (bin addD (.v (eLst [(callV f__law_cell [(eRd 0), (eK (.int 0))])])) (.v (eSl slD (.sl 0) (some (eK (.int 1))) (some (eK (.int 4)))))))
    (sSeq (sSet 4 (callV f__law_pen [(eRd 3)]))
    (sSeq (sAsg (tgT [(tgN 1), (tgN 2)]) (callB f__law_size 4 []))
    (sSeq (sIf (tNotM (asB (callV f__law_right [(eRd 1), (eRd 2)])))
    (sRet (eK (.bool false)))
    sNil)
    (sSeq (sAsg (tgT [(tgN 1), (tgN 2)]) (bin ixD (.v (eLst [(eTup [(eK (.int 8)), (eK (.int 2))]), (eTup [(eK (.int 8)), (eK (.int 3))]), (eTup [(eK (.int 8)), (eK (.int 4))]), (eTup [(eK (.int 8)), (eK (.int 5))]), (eTup [(eK (.int 8)), (eK (.int 6))]), (eTup [(eK (.int 7)), (eK (.int 3))]), (eTup [(eK (.int 7)), (eK (.int 4))])])) (.v (callB f__law_draw 4 [(eK (.int 7))]))))
    (sIf (tNotM (asB (callV f__law_right [(eRd 1), (eRd 2)])))
    (sRet (eK (.bool false)))
    sNil))))))
    (sRet (eK (.bool true)))))
def f_law : Fn := runF 5 1 [] b_law
end MP

namespace MP
open PySem PySem.Spec PyProof.Rows L2 MS
def topS (i : Nat) : Stmt := PySem.Challenge.pw_missingsets_k71_rows_and_rings_found.main.body.getD i (.Pass ⟨0, 0, 0, 0⟩)
def clsS (st : Stmt) (i : Nat) : Stmt := match st with
  | .ClassDef _ _ _ body .. => body.getD i (.Pass ⟨0, 0, 0, 0⟩)
  | _ => .Pass ⟨0, 0, 0, 0⟩
abbrev s__law_cell : Stmt := topS 30
abbrev s__law_draw : Stmt := topS 32
abbrev s__law_pen : Stmt := topS 31
abbrev s__law_kind_of : Stmt := topS 35
abbrev s_all_of : Stmt := topS 20
abbrev s_missing : Stmt := topS 22
abbrev s_gone_on : Stmt := topS 26
abbrev s_is_whole : Stmt := topS 16
abbrev s_is_from : Stmt := topS 17
abbrev s_must_from : Stmt := topS 18
abbrev s_must_size : Stmt := topS 19
abbrev s_must_few : Stmt := topS 25
abbrev s_some_ring : Stmt := topS 28
abbrev s_some_row : Stmt := topS 27
abbrev s__law_came : Stmt := topS 43
abbrev s__law_miss : Stmt := topS 37
abbrev s__law_whole : Stmt := topS 33
abbrev s__law_is_set : Stmt := topS 39
abbrev s__law_sets : Stmt := topS 36
abbrev s__law_row_good : Stmt := topS 41
abbrev s__law_ring_good : Stmt := topS 42
abbrev s__law_same : Stmt := topS 34
abbrev s__law_through : Stmt := topS 40
abbrev s__law_right : Stmt := topS 44
abbrev s__law_size : Stmt := topS 38
abbrev s_law : Stmt := topS 45
abbrev s_tginit : Stmt := clsS (topS 13) 0
theorem sc_tginit : FnScope ["self", "many", "most"] ["self", "many", "most"] (defScope s_tginit) := ⟨rfl, rfl, rfl, by decide +kernel, rfl, by decide +kernel, by decide +kernel⟩
/-- what the top has written -/
structure Tb (K : PySem.W.Frag) (mg : Str → Option Value) (base : Heap) (c_gone_on p_gone_on : Addr) : Prop where
  f__law_cell : ∃ (f : Addr) (fd : FuncData), TopF K mg "_law_cell" s__law_cell ["_law_script", "_law_k"] f fd
  f__law_draw : ∃ (f : Addr) (fd : FuncData), TopF K mg "_law_draw" s__law_draw ["_law_pen_here", "_law_many"] f fd
  f__law_pen : ∃ (f : Addr) (fd : FuncData), TopF K mg "_law_pen" s__law_pen ["_law_cell_here"] f fd
  f__law_kind_of : ∃ (f : Addr) (fd : FuncData), TopF K mg "_law_kind_of" s__law_kind_of ["_law_e"] f fd
  f_all_of : ∃ (f : Addr) (fd : FuncData), TopF K mg "all_of" s_all_of ["n", "k"] f fd
  f_missing : ∃ (f : Addr) (fd : FuncData), TopF K mg "missing" s_missing ["one", "other"] f fd
  f_gone_on : ∃ (f : Addr) (fd : FuncData), TopF K mg "gone_on" s_gone_on ["row", "left", "closed"] f fd ∧ fd.code = .ref c_gone_on
  tb_gone_on : LamX.TabB base mg c_gone_on p_gone_on
  f_is_whole : ∃ (f : Addr) (fd : FuncData), TopF K mg "is_whole" s_is_whole ["thing"] f fd
  f_is_from : ∃ (f : Addr) (fd : FuncData), TopF K mg "is_from" s_is_from ["thing", "low", "high"] f fd
  f_must_from : ∃ (f : Addr) (fd : FuncData), TopF K mg "must_from" s_must_from ["thing", "low", "high"] f fd
  f_must_size : ∃ (f : Addr) (fd : FuncData), TopF K mg "must_size" s_must_size ["n", "k"] f fd
  f_must_few : ∃ (f : Addr) (fd : FuncData), TopF K mg "must_few" s_must_few ["n", "k", "most"] f fd
  f_some_ring : ∃ (f : Addr) (fd : FuncData), TopF K mg "some_ring" s_some_ring ["n", "k"] f fd
  f_some_row : ∃ (f : Addr) (fd : FuncData), TopF K mg "some_row" s_some_row ["n", "k"] f fd
  f__law_came : ∃ (f : Addr) (fd : FuncData), TopF K mg "_law_came" s__law_came ["_law_way", "_law_n", "_law_k"] f fd
  f__law_miss : ∃ (f : Addr) (fd : FuncData), TopF K mg "_law_miss" s__law_miss ["_law_one", "_law_other"] f fd
  f__law_whole : ∃ (f : Addr) (fd : FuncData), TopF K mg "_law_whole" s__law_whole ["_law_thing"] f fd
  f__law_is_set : ∃ (f : Addr) (fd : FuncData), TopF K mg "_law_is_set" s__law_is_set ["_law_n", "_law_k", "_law_thing"] f fd
  f__law_sets : ∃ (f : Addr) (fd : FuncData), TopF K mg "_law_sets" s__law_sets ["_law_n", "_law_k"] f fd
  f__law_row_good : ∃ (f : Addr) (fd : FuncData), TopF K mg "_law_row_good" s__law_row_good ["_law_n", "_law_k", "_law_thing"] f fd
  f__law_ring_good : ∃ (f : Addr) (fd : FuncData), TopF K mg "_law_ring_good" s__law_ring_good ["_law_n", "_law_k", "_law_thing"] f fd
  f__law_same : ∃ (f : Addr) (fd : FuncData), TopF K mg "_law_same" s__law_same ["_law_found", "_law_due"] f fd
  f__law_through : ∃ (f : Addr) (fd : FuncData), TopF K mg "_law_through" s__law_through ["_law_n", "_law_k", "_law_closed"] f fd
  f__law_right : ∃ (f : Addr) (fd : FuncData), TopF K mg "_law_right" s__law_right ["_law_n", "_law_k"] f fd
  f__law_size : ∃ (f : Addr) (fd : FuncData), TopF K mg "_law_size" s__law_size ["_law_pen_here"] f fd
  f_law : ∃ (f : Addr) (fd : FuncData), TopF K mg "law" s_law ["_law_script"] f fd
  m_ValueError : mg "ValueError" = none
  m_all : mg "all" = none
  m_any : mg "any" = none
  m_bool : mg "bool" = none
  m_int : mg "int" = none
  m_isinstance : mg "isinstance" = none
  m_len : mg "len" = none
  m_list : mg "list" = none
  m_max : mg "max" = none
  m_range : mg "range" = none
  m_set : mg "set" = none
  m_sorted : mg "sorted" = none
  m_str : mg "str" = none
  m_sum : mg "sum" = none
  m_tuple : mg "tuple" = none
  m_zip : mg "zip" = none
  c_MOST_POINTS : ∃ t, mg "MOST_POINTS" = some (.int 8 t)
  c_MOST_THROUGH : ∃ t, mg "MOST_THROUGH" = some (.int 21 t)
  e_NoNumber : ClsR K mg (exNT K mg [(p_gone_on, (("gone_on" : Str) ++ ".<locals>.") ++ "<lambda>")]) "NoNumber" "NoNumber"
  e_TooGreat : ClsV K mg (exNT K mg [(p_gone_on, (("gone_on" : Str) ++ ".<locals>.") ++ "<lambda>")]) "TooGreat" "TooGreat" s_tginit
  x_MissError : ∃ DM : Addr, mg "MissError" = some (.ref DM)
section
variable {P : Program} {w : World} {K : PySem.W.Frag} {mg : Str → Option Value} {base : Heap}
variable {c_gone_on p_gone_on : Addr}
theorem sc__law_cell : FnScope ["_law_script", "_law_k"] ["_law_script", "_law_k"] (defScope s__law_cell) := ⟨rfl, rfl, rfl, by decide +kernel, rfl, by decide +kernel, by decide +kernel⟩
theorem ok__law_cell (T : Tb K mg base c_gone_on p_gone_on) {f : Addr} {fd : FuncData} (F : Fun K "_law_cell" "_law_cell" s__law_cell f fd) : FnM P w K mg base (exNT K mg [(p_gone_on, (("gone_on" : Str) ++ ".<locals>.") ++ "<lambda>")]) 1 f fd ["_law_script", "_law_k"] f__law_cell :=
  fn_ok (k := 0) (N := ["_law_script", "_law_k"]) (body := b__law_cell) [] F sc__law_cell fun cdv A outer s H vs E hr hl => by
  unfold b__law_cell
  exact (dss_cons (ds_if (dt_cmp op_ltD (do_sl (i := 1) rfl (vis_by rfl)) (do_v (de_callB call_lenD rfl T.m_len rfl (dos_cons (do_sl (i := 0) rfl (vis_by rfl)) dos_nil))))
    (dss_one (ds_ret (de_ix (do_sl (i := 0) rfl (vis_by rfl)) (do_sl (i := 1) rfl (vis_by rfl)))))
    dss_nil)
    (dss_one (ds_ret de_int)))
theorem dm__law_cell (T : Tb K mg base c_gone_on p_gone_on) : DefM P w K mg base (exNT K mg [(p_gone_on, (("gone_on" : Str) ++ ".<locals>.") ++ "<lambda>")]) 1 "_law_cell" ["_law_script", "_law_k"] f__law_cell := DefM.of T.f__law_cell fun _ _ F => ok__law_cell T F

theorem sc__law_draw : FnScope ["_law_pen_here", "_law_many", "_law_found"] ["_law_pen_here", "_law_many"] (defScope s__law_draw) := ⟨rfl, rfl, rfl, by decide +kernel, rfl, by decide +kernel, by decide +kernel⟩
theorem ok__law_draw (T : Tb K mg base c_gone_on p_gone_on) {f : Addr} {fd : FuncData} (F : Fun K "_law_draw" "_law_draw" s__law_draw f fd) : FnM P w K mg base (exNT K mg [(p_gone_on, (("gone_on" : Str) ++ ".<locals>.") ++ "<lambda>")]) 1 f fd ["_law_pen_here", "_law_many"] f__law_draw :=
  fn_ok (k := 0) (N := ["_law_pen_here", "_law_many", "_law_found"]) (body := b__law_draw) [0] F sc__law_draw fun cdv A outer s H vs E hr hl => by
  unfold b__law_draw
  exact (dss_cons (ds_if (dt_cmp (op_eqP (hu64 hr)) (do_v (de_ix (do_sl (i := 0) rfl (vis_by rfl)) (do_v de_int))) (do_v de_int))
    (dss_cons (ds_set (i := 2) sc__law_draw.nd rfl (loc_by rfl) (de_bin op_modD (do_v (de_ix (do_sl (i := 0) rfl (vis_by rfl)) (do_v de_int))) (do_sl (i := 1) rfl (vis_by rfl))))
    (dss_cons (ds_put (i := 0) rfl (vis_by rfl) de_int (de_bin op_fdivD (do_v (de_ix (do_sl (i := 0) rfl (vis_by rfl)) (do_v de_int))) (do_sl (i := 1) rfl (vis_by rfl))))
    (dss_one (ds_ret (de_mv (i := 2) rfl (vis_by rfl))))))
    dss_nil)
    (dss_cons (ds_put (i := 0) rfl (vis_by rfl) de_int (de_bin op_modD (do_v (de_bin op_addD (do_v (de_bin op_mulD (do_v (de_bin op_modD (do_v (de_ix (do_sl (i := 0) rfl (vis_by rfl)) (do_v de_int))) (do_v de_int))) (do_v de_int))) (do_v de_int))) (do_v de_int)))
    (dss_one (ds_ret (de_bin op_modD (do_v (de_bin op_fdivD (do_v (de_bin op_modD (do_v (de_bin op_addD (do_v (de_bin op_mulD (do_v (de_ix (do_sl (i := 0) rfl (vis_by rfl)) (do_v de_int))) (do_v (de_ix (do_sl (i := 0) rfl (vis_by rfl)) (do_v de_int))))) (do_v (de_bin op_mulD (do_v de_int) (do_v (de_ix (do_sl (i := 0) rfl (vis_by rfl)) (do_v de_int))))))) (do_v de_int))) (do_v de_int))) (do_sl (i := 1) rfl (vis_by rfl)))))))
theorem dm__law_draw (T : Tb K mg base c_gone_on p_gone_on) : DefM P w K mg base (exNT K mg [(p_gone_on, (("gone_on" : Str) ++ ".<locals>.") ++ "<lambda>")]) 1 "_law_draw" ["_law_pen_here", "_law_many"] f__law_draw := DefM.of T.f__law_draw fun _ _ F => ok__law_draw T F

theorem sc__law_pen : FnScope ["_law_cell_here"] ["_law_cell_here"] (defScope s__law_pen) := ⟨rfl, rfl, rfl, by decide +kernel, rfl, by decide +kernel, by decide +kernel⟩
theorem ok__law_pen (T : Tb K mg base c_gone_on p_gone_on) {f : Addr} {fd : FuncData} (F : Fun K "_law_pen" "_law_pen" s__law_pen f fd) : FnM P w K mg base (exNT K mg [(p_gone_on, (("gone_on" : Str) ++ ".<locals>.") ++ "<lambda>")]) 1 f fd ["_law_cell_here"] f__law_pen :=
  fn_ok (k := 0) (N := ["_law_cell_here"]) (body := b__law_pen) [] F sc__law_pen fun cdv A outer s H vs E hr hl => by
  unfold b__law_pen
  exact (dss_one (ds_ret (de_lst (dvs_cons (de_rd (i := 0) rfl (vis_by rfl)) (dvs_cons (de_callTy call_intV rfl T.m_int rfl (dos_cons (do_v (de_cmp op_geD (do_sl (i := 0) rfl (vis_by rfl)) (do_v (de_bin op_powD (do_v de_int) (do_v de_int))))) dos_nil)) dvs_nil)) (of_decide_eq_true rfl))))
theorem dm__law_pen (T : Tb K mg base c_gone_on p_gone_on) : DefM P w K mg base (exNT K mg [(p_gone_on, (("gone_on" : Str) ++ ".<locals>.") ++ "<lambda>")]) 1 "_law_pen" ["_law_cell_here"] f__law_pen := DefM.of T.f__law_pen fun _ _ F => ok__law_pen T F

theorem sc__law_kind_of : FnScope ["_law_e", "_law_marks", "_law_words"] ["_law_e"] (defScope s__law_kind_of) := ⟨rfl, rfl, rfl, by decide +kernel, rfl, by decide +kernel, by decide +kernel⟩
theorem okx__law_kind_of (T : Tb K mg base c_gone_on p_gone_on) {f : Addr} {fd : FuncData} (F : Fun K "_law_kind_of" "_law_kind_of" s__law_kind_of f fd) : FnP P w K mg base 1 f fd ["_law_e"] (spE K mg kw__law_kind_of) :=
  fn_okE (k := 0) (N := ["_law_e", "_law_marks", "_law_words"]) (body := b__law_kind_of) F sc__law_kind_of rfl fun tT cdv A outer s H E a oe c D d hr cx hz hf hxd => by
  unfold b__law_kind_of
  exact (dss_cons (ds_set (i := 1) sc__law_kind_of.nd rfl (loc_by rfl) (de_lst (dvs_cons (de_isE (i := 0) (Tn := "NoNumber") (.head _) cx hz hf hxd (.head _) rfl rfl (vis_by rfl) (by decide) rfl rfl rfl T.m_isinstance) (dvs_cons (de_isE (i := 0) (Tn := "NoSet") (.head _) cx hz hf hxd (.head _) rfl rfl (vis_by rfl) (by decide) rfl rfl rfl T.m_isinstance) (dvs_cons (de_isE (i := 0) (Tn := "NoHues") (.head _) cx hz hf hxd (.head _) rfl rfl (vis_by rfl) (by decide) rfl rfl rfl T.m_isinstance) (dvs_cons (de_isE (i := 0) (Tn := "NoLot") (.head _) cx hz hf hxd (.head _) rfl rfl (vis_by rfl) (by decide) rfl rfl rfl T.m_isinstance) dvs_nil)))) (of_decide_eq_true rfl)))
    (dss_cons (ds_set (i := 1) sc__law_kind_of.nd rfl (loc_by rfl) (de_bin op_addD (do_sl (i := 1) rfl (vis_by rfl)) (do_v (de_lst (dvs_cons (de_isE (i := 0) (Tn := "NoMap") (.head _) cx hz hf hxd (.head _) rfl rfl (vis_by rfl) (by decide) rfl rfl rfl T.m_isinstance) (dvs_cons (de_isE (i := 0) (Tn := "NoTurn") (.head _) cx hz hf hxd (.head _) rfl rfl (vis_by rfl) (by decide) rfl rfl rfl T.m_isinstance) (dvs_cons (de_isE (i := 0) (Tn := "NoWeights") (.head _) cx hz hf hxd (.head _) rfl rfl (vis_by rfl) (by decide) rfl rfl rfl T.m_isinstance) (dvs_cons (de_isE (i := 0) (Tn := "NoRow") (.head _) cx hz hf hxd (.head _) rfl rfl (vis_by rfl) (by decide) rfl rfl rfl T.m_isinstance) dvs_nil)))) (of_decide_eq_true rfl)))))
    (dss_cons (ds_set (i := 1) sc__law_kind_of.nd rfl (loc_by rfl) (de_bin op_addD (do_sl (i := 1) rfl (vis_by rfl)) (do_v (de_lst (dvs_cons (de_isE (i := 0) (Tn := "NoText") (.head _) cx hz hf hxd (.head _) rfl rfl (vis_by rfl) (by decide) rfl rfl rfl T.m_isinstance) (dvs_cons (de_isE (i := 0) (Tn := "NoLine") (.head _) cx hz hf hxd (.head _) rfl rfl (vis_by rfl) (by decide) rfl rfl rfl T.m_isinstance) (dvs_cons (de_isE (i := 0) (Tn := "NoDeed") (.head _) cx hz hf hxd (.head _) rfl rfl (vis_by rfl) (by decide) rfl rfl rfl T.m_isinstance) (dvs_cons (de_isE (i := 0) (Tn := "TooGreat") (.head _) cx hz hf hxd (.head _) rfl rfl (vis_by rfl) (by decide) rfl rfl rfl T.m_isinstance) dvs_nil)))) (of_decide_eq_true rfl)))))
    (dss_cons (ds_if (dt_w (dw_or (dt_not (dt_val (de_isV (i := 0) (.head _) cx hz hf hxd (.head _) rfl rfl (vis_by rfl) rfl T.m_ValueError rfl T.m_isinstance))) (dw_or1 (dt_cmp (op_neP (huH64 hr)) (do_v (de_rm (rm_count (huH65 hr)) PySem.F.slot_list_count PySem.F.type_list_count (do_sl (i := 1) rfl (vis_by rfl)) (do_v de_bl))) (do_v de_int)))))
    (dss_one (ds_ret de_str))
    dss_nil)
    (dss_cons (ds_set (i := 2) sc__law_kind_of.nd rfl (loc_by rfl) (de_lst (dvs_cons de_str (dvs_cons de_str (dvs_cons de_str (dvs_cons de_str (dvs_cons de_str (dvs_cons de_str (dvs_cons de_str (dvs_cons de_str (dvs_cons de_str (dvs_cons de_str (dvs_cons de_str (dvs_cons de_str dvs_nil)))))))))))) (of_decide_eq_true rfl)))
    (dss_one (ds_ret (de_ix (do_sl (i := 2) rfl (vis_by rfl)) (do_v (de_rm (rm_index (huH65 hr)) PySem.F.slot_list_index PySem.F.type_list_index (do_sl (i := 1) rfl (vis_by rfl)) (do_v de_bl)))))))))))
theorem dx__law_kind_of (T : Tb K mg base c_gone_on p_gone_on) : DefE P w K mg base 1 "_law_kind_of" kw__law_kind_of := by
  obtain ⟨f, fd, t⟩ := T.f__law_kind_of
  exact ⟨f, fd, _, okx__law_kind_of T t.fn, rfl, t.gl, t.fn.kp, t.bd⟩

theorem sc_all_of : FnScope ["n", "k", "found", "turn", "one", "point"] ["n", "k"] (defScope s_all_of) := ⟨rfl, rfl, rfl, by decide +kernel, rfl, by decide +kernel, by decide +kernel⟩
theorem ok_all_of (T : Tb K mg base c_gone_on p_gone_on) {f : Addr} {fd : FuncData} (F : Fun K "all_of" "all_of" s_all_of f fd) : FnM P w K mg base (exNT K mg [(p_gone_on, (("gone_on" : Str) ++ ".<locals>.") ++ "<lambda>")]) 1 f fd ["n", "k"] f_all_of :=
  fn_ok (k := 0) (N := ["n", "k", "found", "turn", "one", "point"]) (body := b_all_of) [] F sc_all_of fun cdv A outer s H vs E hr hl => by
  unfold b_all_of
  exact (dss_cons (ds_set (i := 2) sc_all_of.nd rfl (loc_by rfl) (de_lst (dvs_cons (de_tup dvs_nil) dvs_nil) (of_decide_eq_true rfl)))
    (dss_cons (ds_for (L2.passes_of rfl) rfl (di_r1 rfl T.m_range (do_sl (i := 1) rfl (vis_by rfl))) (dg_name (i := 3) sc_all_of.nd rfl (loc_by rfl))
    (dss_one (ds_set (i := 2) sc_all_of.nd rfl (loc_by rfl) (de_sumL rfl rfl T.m_sum (de_lc (own := [("one", 4)]) rfl sc_all_of.nd (di_seq (de_rd (i := 2) rfl (vis_by rfl))) (blkOk_by rfl) (fun _ _ _ _ _ => (dg_name (i := 4) sc_all_of.nd rfl (loc_by rfl))) (fun _ _ _ _ _ => dts_nil) (fun _ _ _ _ _ => (de_lc (own := [("point", 5)]) rfl sc_all_of.nd (di_r2 rfl T.m_range (do_v (de_bin op_addD (do_v (de_callB (call_maxD rfl (hu64 hr)) rfl T.m_max rfl (dos_cons (do_v (de_bin op_addD (do_v (de_tup (dvs_cons (de_un un_negD (do_v de_int)) dvs_nil))) (do_sl (i := 4) rfl (vis_by rfl)))) dos_nil))) (do_v de_int))) (do_sl (i := 0) rfl (vis_by rfl))) (blkOk_by rfl) (fun _ _ _ _ _ => (dg_name (i := 5) sc_all_of.nd rfl (loc_by rfl))) (fun _ _ _ _ _ => dts_nil) (fun _ _ _ _ _ => (de_bin op_addD (do_sl (i := 4) rfl (vis_by rfl)) (do_v (de_tup (dvs_cons (de_rd (i := 5) rfl (vis_by rfl)) dvs_nil))))))))))))
    (dss_one (ds_ret (de_mv (i := 2) rfl (vis_by rfl))))))
theorem dm_all_of (T : Tb K mg base c_gone_on p_gone_on) : DefM P w K mg base (exNT K mg [(p_gone_on, (("gone_on" : Str) ++ ".<locals>.") ++ "<lambda>")]) 1 "all_of" ["n", "k"] f_all_of := DefM.of T.f_all_of fun _ _ F => ok_all_of T F

theorem sc_missing : FnScope ["one", "other", "point"] ["one", "other"] (defScope s_missing) := ⟨rfl, rfl, rfl, by decide +kernel, rfl, by decide +kernel, by decide +kernel⟩
theorem ok_missing (T : Tb K mg base c_gone_on p_gone_on) {f : Addr} {fd : FuncData} (F : Fun K "missing" "missing" s_missing f fd) : FnM P w K mg base (exNT K mg [(p_gone_on, (("gone_on" : Str) ++ ".<locals>.") ++ "<lambda>")]) 1 f fd ["one", "other"] f_missing :=
  fn_ok (k := 0) (N := ["one", "other", "point"]) (body := b_missing) [] F sc_missing fun cdv A outer s H vs E hr hl => by
  unfold b_missing
  exact (dss_one (ds_ret (de_not (de_callB (call_anyD rfl) rfl T.m_any rfl (dos_cons (do_v (de_lc (own := [("point", 2)]) rfl sc_missing.nd (di_seq (de_rd (i := 0) rfl (vis_by rfl))) (blkOk_by rfl) (fun _ _ _ _ _ => (dg_name (i := 2) sc_missing.nd rfl (loc_by rfl))) (fun _ _ _ _ _ => dts_nil) (fun _ _ _ _ _ => (de_cmp (op_inP (hu64 hr)) (do_sl (i := 2) rfl (vis_by rfl)) (do_sl (i := 1) rfl (vis_by rfl)))))) dos_nil)))))
theorem dm_missing (T : Tb K mg base c_gone_on p_gone_on) : DefM P w K mg base (exNT K mg [(p_gone_on, (("gone_on" : Str) ++ ".<locals>.") ++ "<lambda>")]) 1 "missing" ["one", "other"] f_missing := DefM.of T.f_missing fun _ _ F => ok_missing T F

theorem sc_gone_on : FnScope ["row", "left", "closed", "some", "one", "found", "other"] ["row", "left", "closed"] (defScope s_gone_on) := ⟨rfl, rfl, rfl, by decide +kernel, rfl, by decide +kernel, by decide +kernel⟩
theorem ok_gone_on (T : Tb K mg base c_gone_on p_gone_on) (d : Nat) (ih : DefM P w K mg base (exNT K mg [(p_gone_on, (("gone_on" : Str) ++ ".<locals>.") ++ "<lambda>")]) (2 + d) "gone_on" ["row", "left", "closed"] (f_gone_on d)) {f : Addr} {fd : FuncData} (F : Fun K "gone_on" "gone_on" s_gone_on f fd) (hc : fd.code = .ref c_gone_on) : FnM P w K mg base (exNT K mg [(p_gone_on, (("gone_on" : Str) ++ ".<locals>.") ++ "<lambda>")]) (2 + d + 1) f fd ["row", "left", "closed"] (f_gone_on (d + 1)) :=
  fn_okC (N := ["row", "left", "closed", "some", "one", "found", "other"]) (body := b_gone_on (f_gone_on d)) [] F sc_gone_on fun cdv hcdv A outer s H vs E hr hl => by
  have hcode : cdv = .ref c_gone_on := hcdv.symm.trans hc
  unfold b_gone_on
  exact (dss_cons (ds_if (dt_cmp (op_eqP (hu64 hr)) (do_sl (i := 1) rfl (vis_by rfl)) (do_v (de_lst dvs_nil (of_decide_eq_true rfl))))
    (dss_one (ds_ret (de_ifExp (dt_w (dw_or (dt_not (dt_val (de_rd (i := 2) rfl (vis_by rfl)))) (dw_or1 (dt_val (de_callD (dm_missing T) (hr.mono (by omega)) rfl (L2N.takes_of rfl rfl rfl rfl) (dvs_cons (de_ix (do_sl (i := 0) rfl (vis_by rfl)) (do_v de_int)) (dvs_cons (de_ix (do_sl (i := 0) rfl (vis_by rfl)) (do_v (de_un un_negD (do_v de_int)))) dvs_nil))))))) (de_rd (i := 0) rfl (vis_by rfl)) de_non)))
    dss_nil)
    (dss_cons (ds_setLc (i := 3) (own := [("one", 4)]) rfl sc_gone_on.nd rfl rfl rfl (di_seq (de_rd (i := 1) rfl (vis_by rfl))) (blkOk_by rfl) (fun _ _ _ _ _ => (dg_name (i := 4) sc_gone_on.nd rfl (loc_by rfl))) (fun _ _ _ _ _ => (dts_one (dt_val (de_callD (dm_missing T) (hr.mono (by omega)) rfl tk0 (dvs_cons (de_ix (do_sl (i := 0) rfl (vis_by rfl)) (do_v (de_un un_negD (do_v de_int)))) (dvs_cons (de_rd (i := 4) rfl (vis_by rfl)) dvs_nil)))))) (fun _ _ _ _ _ => (de_rd (i := 4) rfl (vis_by rfl))))
    (dss_cons (ds_for (L2.passes_of rfl) rfl (di_seq (de_sortK (k := 1) (x := "one") (N := ["one", "left", "other"]) (js := [1]) rfl T.m_sorted (de_rd (i := 3) rfl (vis_by rfl)) T.tb_gone_on hcode rfl (hr.mono (by omega)) (lamK_by (sc := defScope s_gone_on) (by decide +kernel)) rfl (fun _ _ _ _ _ _ => rfl) rfl (by decide +kernel) (by decide) rfl (fun A outer s H f c' hr => (de_callB call_lenD rfl T.m_len rfl (dos_cons (do_v (de_lc (own := [("other", 2)]) rfl (show (["one", "left", "other"] : List Str).Nodup by decide +kernel) (di_seq (de_rd (i := 1) rfl (vis_by rfl))) (blkOk_by rfl) (fun _ _ _ _ _ => (dg_name (i := 2) (show (["one", "left", "other"] : List Str).Nodup by decide +kernel) rfl (loc_by rfl))) (fun _ _ _ _ _ => (dts_one (dt_val (de_callD (dm_missing T) (hr.mono (by decide)) rfl tk0 (dvs_cons (de_rd (i := 0) rfl (vis_by rfl)) (dvs_cons (de_rd (i := 2) rfl (vis_by rfl)) dvs_nil)))))) (fun _ _ _ _ _ => (de_rd (i := 2) rfl (vis_by rfl))))) dos_nil))))) (dg_name (i := 4) sc_gone_on.nd rfl (loc_by rfl))
    (dss_cons (ds_set (i := 5) sc_gone_on.nd rfl (loc_by rfl) (de_callD ih hr rfl (L2N.takes_of rfl rfl rfl rfl) (dvs_cons (de_bin op_addD (do_sl (i := 0) rfl (vis_by rfl)) (do_v (de_tup (dvs_cons (de_rd (i := 4) rfl (vis_by rfl)) dvs_nil)))) (dvs_cons (de_lc (own := [("other", 6)]) rfl sc_gone_on.nd (di_seq (de_rd (i := 1) rfl (vis_by rfl))) (blkOk_by rfl) (fun _ _ _ _ _ => (dg_name (i := 6) sc_gone_on.nd rfl (loc_by rfl))) (fun _ _ _ _ _ => (dts_one (dt_cmp (op_neP (hu64 hr)) (do_sl (i := 6) rfl (vis_by rfl)) (do_sl (i := 4) rfl (vis_by rfl))))) (fun _ _ _ _ _ => (de_rd (i := 6) rfl (vis_by rfl)))) (dvs_cons (de_rd (i := 2) rfl (vis_by rfl)) dvs_nil)))))
    (dss_one (ds_if (dt_cmp op_isnP (do_sl (i := 5) rfl (vis_by rfl)) (do_v de_non))
    (dss_one (ds_ret (de_mv (i := 5) rfl (vis_by rfl))))
    dss_nil))))
    (dss_one (ds_ret de_non)))))
theorem dr_gone_on (T : Tb K mg base c_gone_on p_gone_on) : ∀ d : Nat, DefM P w K mg base (exNT K mg [(p_gone_on, (("gone_on" : Str) ++ ".<locals>.") ++ "<lambda>")]) (2 + d) "gone_on" ["row", "left", "closed"] (f_gone_on d)
  | 0 => DefM.none (TopF.weak T.f_gone_on)
  | d + 1 => DefM.ofC T.f_gone_on fun _ _ F hc => ok_gone_on T d (dr_gone_on T d) F hc
theorem dm_gone_on (T : Tb K mg base c_gone_on p_gone_on) : DefM P w K mg base (exNT K mg [(p_gone_on, (("gone_on" : Str) ++ ".<locals>.") ++ "<lambda>")]) 26 "gone_on" ["row", "left", "closed"] (f_gone_on 24) := dr_gone_on T 24

theorem sc_is_whole : FnScope ["thing"] ["thing"] (defScope s_is_whole) := ⟨rfl, rfl, rfl, by decide +kernel, rfl, by decide +kernel, by decide +kernel⟩
theorem ok_is_whole (T : Tb K mg base c_gone_on p_gone_on) {f : Addr} {fd : FuncData} (F : Fun K "is_whole" "is_whole" s_is_whole f fd) : FnM P w K mg base (exNT K mg [(p_gone_on, (("gone_on" : Str) ++ ".<locals>.") ++ "<lambda>")]) 1 f fd ["thing"] f_is_whole :=
  fn_ok (k := 0) (N := ["thing"]) (body := b_is_whole) [] F sc_is_whole fun cdv A outer s H vs E hr hl => by
  unfold b_is_whole
  exact (dss_one (ds_ret (de_and (de_isi (do_sl (i := 0) rfl (vis_by rfl)) rfl T.m_isinstance rfl T.m_int rfl) (de_one (de_not (de_isi (do_sl (i := 0) rfl (vis_by rfl)) rfl T.m_isinstance rfl T.m_bool rfl))))))
theorem dm_is_whole (T : Tb K mg base c_gone_on p_gone_on) : DefM P w K mg base (exNT K mg [(p_gone_on, (("gone_on" : Str) ++ ".<locals>.") ++ "<lambda>")]) 1 "is_whole" ["thing"] f_is_whole := DefM.of T.f_is_whole fun _ _ F => ok_is_whole T F

theorem sc_is_from : FnScope ["thing", "low", "high"] ["thing", "low", "high"] (defScope s_is_from) := ⟨rfl, rfl, rfl, by decide +kernel, rfl, by decide +kernel, by decide +kernel⟩
theorem ok_is_from (T : Tb K mg base c_gone_on p_gone_on) {f : Addr} {fd : FuncData} (F : Fun K "is_from" "is_from" s_is_from f fd) : FnM P w K mg base (exNT K mg [(p_gone_on, (("gone_on" : Str) ++ ".<locals>.") ++ "<lambda>")]) 2 f fd ["thing", "low", "high"] f_is_from :=
  fn_ok (k := 1) (N := ["thing", "low", "high"]) (body := b_is_from) [] F sc_is_from fun cdv A outer s H vs E hr hl => by
  unfold b_is_from
  exact (dss_one (ds_ret (de_and (de_callD (dm_is_whole T) (hr.mono (by decide)) rfl (L2N.takes_of rfl rfl rfl rfl) (dvs_cons (de_rd (i := 0) rfl (vis_by rfl)) dvs_nil)) (de_one (de_chain (op_leD (hu0 hr)) (op_leD (hu0 hr)) (do_sl (i := 1) rfl (vis_by rfl)) (do_sl (i := 0) rfl (vis_by rfl)) (do_sl (i := 2) rfl (vis_by rfl)))))))
theorem dm_is_from (T : Tb K mg base c_gone_on p_gone_on) : DefM P w K mg base (exNT K mg [(p_gone_on, (("gone_on" : Str) ++ ".<locals>.") ++ "<lambda>")]) 2 "is_from" ["thing", "low", "high"] f_is_from := DefM.of T.f_is_from fun _ _ F => ok_is_from T F

theorem sc_must_from : FnScope ["thing", "low", "high"] ["thing", "low", "high"] (defScope s_must_from) := ⟨rfl, rfl, rfl, by decide +kernel, rfl, by decide +kernel, by decide +kernel⟩
theorem ok_must_from (T : Tb K mg base c_gone_on p_gone_on) {f : Addr} {fd : FuncData} (F : Fun K "must_from" "must_from" s_must_from f fd) : FnM P w K mg base (exNT K mg [(p_gone_on, (("gone_on" : Str) ++ ".<locals>.") ++ "<lambda>")]) 3 f fd ["thing", "low", "high"] f_must_from :=
  fn_ok (k := 2) (N := ["thing", "low", "high"]) (body := b_must_from) [] F sc_must_from fun cdv A outer s H vs E hr hl => by
  unfold b_must_from
  exact (dss_one (ds_if (dt_not (dt_val (de_callD (dm_is_from T) (hr.mono (by decide)) rfl (L2N.takes_of rfl rfl rfl rfl) (dvs_cons (de_rd (i := 0) rfl (vis_by rfl)) (dvs_cons (de_rd (i := 1) rfl (vis_by rfl)) (dvs_cons (de_rd (i := 2) rfl (vis_by rfl)) dvs_nil))))))
    (dss_one (ds_raise T.e_NoNumber rfl (L2N.takes_of rfl rfl rfl rfl) rfl))
    dss_nil))
theorem dm_must_from (T : Tb K mg base c_gone_on p_gone_on) : DefM P w K mg base (exNT K mg [(p_gone_on, (("gone_on" : Str) ++ ".<locals>.") ++ "<lambda>")]) 3 "must_from" ["thing", "low", "high"] f_must_from := DefM.of T.f_must_from fun _ _ F => ok_must_from T F

theorem sc_must_size : FnScope ["n", "k"] ["n", "k"] (defScope s_must_size) := ⟨rfl, rfl, rfl, by decide +kernel, rfl, by decide +kernel, by decide +kernel⟩
theorem ok_must_size (T : Tb K mg base c_gone_on p_gone_on) {f : Addr} {fd : FuncData} (F : Fun K "must_size" "must_size" s_must_size f fd) : FnM P w K mg base (exNT K mg [(p_gone_on, (("gone_on" : Str) ++ ".<locals>.") ++ "<lambda>")]) 4 f fd ["n", "k"] f_must_size :=
  fn_ok (k := 3) (N := ["n", "k"]) (body := b_must_size) [] F sc_must_size fun cdv A outer s H vs E hr hl => by
  unfold b_must_size
  exact (dss_cons (ds_expr (de_callD (dm_must_from T) (hr.mono (by decide)) rfl (L2N.takes_of rfl rfl rfl rfl) (dvs_cons (de_rd (i := 0) rfl (vis_by rfl)) (dvs_cons de_int (dvs_cons (de_gint rfl (Classical.choose_spec T.c_MOST_POINTS)) dvs_nil)))))
    (dss_one (ds_expr (de_callD (dm_must_from T) (hr.mono (by decide)) rfl (L2N.takes_of rfl rfl rfl rfl) (dvs_cons (de_rd (i := 1) rfl (vis_by rfl)) (dvs_cons de_int (dvs_cons (de_rd (i := 0) rfl (vis_by rfl)) dvs_nil)))))))
theorem dm_must_size (T : Tb K mg base c_gone_on p_gone_on) : DefM P w K mg base (exNT K mg [(p_gone_on, (("gone_on" : Str) ++ ".<locals>.") ++ "<lambda>")]) 4 "must_size" ["n", "k"] f_must_size := DefM.of T.f_must_size fun _ _ F => ok_must_size T F

theorem sc_must_few : FnScope ["n", "k", "most"] ["n", "k", "most"] (defScope s_must_few) := ⟨rfl, rfl, rfl, by decide +kernel, rfl, by decide +kernel, by decide +kernel⟩
theorem ok_must_few (T : Tb K mg base c_gone_on p_gone_on) {f : Addr} {fd : FuncData} (F : Fun K "must_few" "must_few" s_must_few f fd) : FnM P w K mg base (exNT K mg [(p_gone_on, (("gone_on" : Str) ++ ".<locals>.") ++ "<lambda>")]) 5 f fd ["n", "k", "most"] f_must_few :=
  fn_ok (k := 4) (N := ["n", "k", "most"]) (body := b_must_few) [] F sc_must_few fun cdv A outer s H vs E hr hl => by
  unfold b_must_few
  exact (dss_cons (ds_expr (de_callD (dm_must_size T) (hr.mono (by decide)) rfl (L2N.takes_of rfl rfl rfl rfl) (dvs_cons (de_rd (i := 0) rfl (vis_by rfl)) (dvs_cons (de_rd (i := 1) rfl (vis_by rfl)) dvs_nil))))
    (dss_one (ds_if (dt_cmp op_gtD (do_v (de_callB call_lenD rfl T.m_len rfl (dos_cons (do_v (de_callD (dm_all_of T) (hr.mono (by decide)) rfl (L2N.takes_of rfl rfl rfl rfl) (dvs_cons (de_rd (i := 0) rfl (vis_by rfl)) (dvs_cons (de_rd (i := 1) rfl (vis_by rfl)) dvs_nil)))) dos_nil))) (do_sl (i := 2) rfl (vis_by rfl)))
    (dss_one (ds_raiseV T.e_TooGreat sc_tginit rfl (vis_by rfl) (vis_by rfl) (vis_by rfl) (hr.mono (by decide)) rfl (L2N.takes_of rfl rfl rfl rfl) rfl (dvs_cons (de_callB call_lenD rfl T.m_len rfl (dos_cons (do_v (de_callD (dm_all_of T) (hr.mono (by decide)) rfl (L2N.takes_of rfl rfl rfl rfl) (dvs_cons (de_rd (i := 0) rfl (vis_by rfl)) (dvs_cons (de_rd (i := 1) rfl (vis_by rfl)) dvs_nil)))) dos_nil)) (dvs_cons (de_rd (i := 2) rfl (vis_by rfl)) dvs_nil))))
    dss_nil)))
theorem dm_must_few (T : Tb K mg base c_gone_on p_gone_on) : DefM P w K mg base (exNT K mg [(p_gone_on, (("gone_on" : Str) ++ ".<locals>.") ++ "<lambda>")]) 5 "must_few" ["n", "k", "most"] f_must_few := DefM.of T.f_must_few fun _ _ F => ok_must_few T F

theorem sc_some_ring : FnScope ["n", "k", "some"] ["n", "k"] (defScope s_some_ring) := ⟨rfl, rfl, rfl, by decide +kernel, rfl, by decide +kernel, by decide +kernel⟩
theorem ok_some_ring (T : Tb K mg base c_gone_on p_gone_on) {f : Addr} {fd : FuncData} (F : Fun K "some_ring" "some_ring" s_some_ring f fd) : FnM P w K mg base (exNT K mg [(p_gone_on, (("gone_on" : Str) ++ ".<locals>.") ++ "<lambda>")]) 27 f fd ["n", "k"] f_some_ring :=
  fn_ok (k := 26) (N := ["n", "k", "some"]) (body := b_some_ring) [] F sc_some_ring fun cdv A outer s H vs E hr hl => by
  unfold b_some_ring
  exact (dss_cons (ds_expr (de_callD (dm_must_few T) (hr.mono (by decide)) rfl (L2N.takes_of rfl rfl rfl rfl) (dvs_cons (de_rd (i := 0) rfl (vis_by rfl)) (dvs_cons (de_rd (i := 1) rfl (vis_by rfl)) (dvs_cons (de_gint rfl (Classical.choose_spec T.c_MOST_THROUGH)) dvs_nil)))))
    (dss_cons (ds_set (i := 2) sc_some_ring.nd rfl (loc_by rfl) (de_callD (dm_all_of T) (hr.mono (by decide)) rfl (L2N.takes_of rfl rfl rfl rfl) (dvs_cons (de_rd (i := 0) rfl (vis_by rfl)) (dvs_cons (de_rd (i := 1) rfl (vis_by rfl)) dvs_nil))))
    (dss_cons (ds_if (dt_cmp op_ltD (do_v (de_callB call_lenD rfl T.m_len rfl (dos_cons (do_sl (i := 2) rfl (vis_by rfl)) dos_nil))) (do_v de_int))
    (dss_one (ds_ret de_non))
    dss_nil)
    (dss_one (ds_ret (de_callD (dm_gone_on T) (hr.mono (by decide)) rfl (L2N.takes_of rfl rfl rfl rfl) (dvs_cons (de_tup (dvs_cons (de_ix (do_sl (i := 2) rfl (vis_by rfl)) (do_v de_int)) dvs_nil)) (dvs_cons (de_sl (do_sl (i := 2) rfl (vis_by rfl)) (po_S de_int) po_N) (dvs_cons de_bl dvs_nil)))))))))
theorem dm_some_ring (T : Tb K mg base c_gone_on p_gone_on) : DefM P w K mg base (exNT K mg [(p_gone_on, (("gone_on" : Str) ++ ".<locals>.") ++ "<lambda>")]) 27 "some_ring" ["n", "k"] f_some_ring := DefM.of T.f_some_ring fun _ _ F => ok_some_ring T F

theorem sc_some_row : FnScope ["n", "k", "some"] ["n", "k"] (defScope s_some_row) := ⟨rfl, rfl, rfl, by decide +kernel, rfl, by decide +kernel, by decide +kernel⟩
theorem ok_some_row (T : Tb K mg base c_gone_on p_gone_on) {f : Addr} {fd : FuncData} (F : Fun K "some_row" "some_row" s_some_row f fd) : FnM P w K mg base (exNT K mg [(p_gone_on, (("gone_on" : Str) ++ ".<locals>.") ++ "<lambda>")]) 27 f fd ["n", "k"] f_some_row :=
  fn_ok (k := 26) (N := ["n", "k", "some"]) (body := b_some_row) [] F sc_some_row fun cdv A outer s H vs E hr hl => by
  unfold b_some_row
  exact (dss_cons (ds_expr (de_callD (dm_must_few T) (hr.mono (by decide)) rfl (L2N.takes_of rfl rfl rfl rfl) (dvs_cons (de_rd (i := 0) rfl (vis_by rfl)) (dvs_cons (de_rd (i := 1) rfl (vis_by rfl)) (dvs_cons (de_gint rfl (Classical.choose_spec T.c_MOST_THROUGH)) dvs_nil)))))
    (dss_cons (ds_set (i := 2) sc_some_row.nd rfl (loc_by rfl) (de_callD (dm_all_of T) (hr.mono (by decide)) rfl (L2N.takes_of rfl rfl rfl rfl) (dvs_cons (de_rd (i := 0) rfl (vis_by rfl)) (dvs_cons (de_rd (i := 1) rfl (vis_by rfl)) dvs_nil))))
    (dss_one (ds_ret (de_callD (dm_gone_on T) (hr.mono (by decide)) rfl (L2N.takes_of rfl rfl rfl rfl) (dvs_cons (de_tup (dvs_cons (de_ix (do_sl (i := 2) rfl (vis_by rfl)) (do_v de_int)) dvs_nil)) (dvs_cons (de_sl (do_sl (i := 2) rfl (vis_by rfl)) (po_S de_int) po_N) (dvs_cons de_bl dvs_nil))))))))
theorem dm_some_row (T : Tb K mg base c_gone_on p_gone_on) : DefM P w K mg base (exNT K mg [(p_gone_on, (("gone_on" : Str) ++ ".<locals>.") ++ "<lambda>")]) 27 "some_row" ["n", "k"] f_some_row := DefM.of T.f_some_row fun _ _ F => ok_some_row T F

theorem sc__law_came : FnScope ["_law_way", "_law_n", "_law_k", "_law_e"] ["_law_way", "_law_n", "_law_k"] (defScope s__law_came) := ⟨rfl, rfl, rfl, by decide +kernel, rfl, by decide +kernel, by decide +kernel⟩
theorem ok__law_came (T : Tb K mg base c_gone_on p_gone_on) {f : Addr} {fd : FuncData} (F : Fun K "_law_came" "_law_came" s__law_came f fd) : FnM P w K mg base (exNT K mg [(p_gone_on, (("gone_on" : Str) ++ ".<locals>.") ++ "<lambda>")]) 28 f fd ["_law_way", "_law_n", "_law_k"] f__law_came :=
  fn_ok (k := 27) (N := ["_law_way", "_law_n", "_law_k", "_law_e"]) (body := b__law_came) [] F sc__law_came fun cdv A outer s H vs E hr hl => by
  unfold b__law_came
  exact (dss_one (let ⟨_, hM⟩ := T.x_MissError; ds_try (i := 3) (hd := fun c ds => (sSeq (sIf (asB (bin eqD (.v (kwE kw__law_kind_of c)) (.v (eK (.str "great")))))
    (sRet (eLst [(xfE 0 ds), (xfE 1 ds)]))
    sNil)
    (sRet (kwE kw__law_kind_of c)))) rfl rfl sc__law_came.nd rfl rfl ⟨rfl, by decide, .inl hM⟩ (L2N.takes_of rfl rfl rfl rfl) (by exact of_decide_eq_true rfl)
    (fun _ _ _ tkT hpT => (dss_one (ds_ret (de_callT (.cons (dm_some_row T) rfl (hr.mono (by decide)) rfl (by decide) (.cons (dm_some_ring T) rfl (hr.mono (by decide)) rfl (by decide) .nil)) tkT (de_rd (i := 0) rfl (vis_by rfl)) (dvs_cons (de_rd (i := 1) rfl (vis_by rfl)) (dvs_cons (de_rd (i := 2) rfl (vis_by rfl)) dvs_nil))))))
    (fun c ds cls d H hx => by obtain ⟨D, rfl, cx, _⟩ := hx; exact cx.em _ hM)
    (fun _ _ _ _ _ h => exN.part h) (fun _ _ _ _ _ h => by obtain ⟨_, _, _, x⟩ := h; exact x.ok)
    (fun a oe cls d pn c ds H σ hz hv hx hx2 => by
      obtain ⟨D, rfl, cx, hxf⟩ := hx
      have hx := hx2
      exact (dss_cons (ds_if (dt_cmp (op_eqP (huH64 (roomS hr))) (do_v (de_kind (i := 3) (dx__law_kind_of T) (roomS (hr.mono (by decide))) (.head _) (hotS hz hv) cx hz.zc hv hxf.ok (.head _) hx rfl (vis_by rfl) rfl)) (do_v de_str))
    (dss_one (ds_ret (de_lst (dvs_cons (de_xf (i := 3) (.inl ⟨rfl, rfl⟩) cx hz.zc hv hxf (.head _) hx rfl (vis_by rfl)) (dvs_cons (de_xf (i := 3) (.inr ⟨rfl, rfl⟩) cx hz.zc hv hxf (.head _) hx rfl (vis_by rfl)) dvs_nil)) (of_decide_eq_true rfl))))
    dss_nil)
    (dss_one (ds_ret (de_kind (i := 3) (dx__law_kind_of T) (roomS (hr.mono (by decide))) (.head _) (hotS hz hv) cx hz.zc hv hxf.ok (.head _) hx rfl (vis_by rfl) rfl)))))))
theorem dm__law_came (T : Tb K mg base c_gone_on p_gone_on) : DefM P w K mg base (exNT K mg [(p_gone_on, (("gone_on" : Str) ++ ".<locals>.") ++ "<lambda>")]) 28 "_law_came" ["_law_way", "_law_n", "_law_k"] f__law_came := DefM.of T.f__law_came fun _ _ F => ok__law_came T F

theorem sc__law_miss : FnScope ["_law_one", "_law_other", "_law_point"] ["_law_one", "_law_other"] (defScope s__law_miss) := ⟨rfl, rfl, rfl, by decide +kernel, rfl, by decide +kernel, by decide +kernel⟩
theorem ok__law_miss (T : Tb K mg base c_gone_on p_gone_on) {f : Addr} {fd : FuncData} (F : Fun K "_law_miss" "_law_miss" s__law_miss f fd) : FnM P w K mg base (exNT K mg [(p_gone_on, (("gone_on" : Str) ++ ".<locals>.") ++ "<lambda>")]) 1 f fd ["_law_one", "_law_other"] f__law_miss :=
  fn_ok (k := 0) (N := ["_law_one", "_law_other", "_law_point"]) (body := b__law_miss) [] F sc__law_miss fun cdv A outer s H vs E hr hl => by
  unfold b__law_miss
  exact (dss_one (ds_ret (de_cmp (op_eqP (hu64 hr)) (do_v (de_lc (own := [("_law_point", 2)]) rfl sc__law_miss.nd (di_seq (de_rd (i := 0) rfl (vis_by rfl))) (blkOk_by rfl) (fun _ _ _ _ _ => (dg_name (i := 2) sc__law_miss.nd rfl (loc_by rfl))) (fun _ _ _ _ _ => (dts_one (dt_cmp (op_inP (hu64 hr)) (do_sl (i := 2) rfl (vis_by rfl)) (do_sl (i := 1) rfl (vis_by rfl))))) (fun _ _ _ _ _ => (de_rd (i := 2) rfl (vis_by rfl))))) (do_v (de_lst dvs_nil (of_decide_eq_true rfl))))))
theorem dm__law_miss (T : Tb K mg base c_gone_on p_gone_on) : DefM P w K mg base (exNT K mg [(p_gone_on, (("gone_on" : Str) ++ ".<locals>.") ++ "<lambda>")]) 1 "_law_miss" ["_law_one", "_law_other"] f__law_miss := DefM.of T.f__law_miss fun _ _ F => ok__law_miss T F

theorem sc__law_whole : FnScope ["_law_thing"] ["_law_thing"] (defScope s__law_whole) := ⟨rfl, rfl, rfl, by decide +kernel, rfl, by decide +kernel, by decide +kernel⟩
theorem ok__law_whole (T : Tb K mg base c_gone_on p_gone_on) {f : Addr} {fd : FuncData} (F : Fun K "_law_whole" "_law_whole" s__law_whole f fd) : FnM P w K mg base (exNT K mg [(p_gone_on, (("gone_on" : Str) ++ ".<locals>.") ++ "<lambda>")]) 1 f fd ["_law_thing"] f__law_whole :=
  fn_ok (k := 0) (N := ["_law_thing"]) (body := b__law_whole) [] F sc__law_whole fun cdv A outer s H vs E hr hl => by
  unfold b__law_whole
  exact (dss_one (ds_ret (de_and (de_isi (do_sl (i := 0) rfl (vis_by rfl)) rfl T.m_isinstance rfl T.m_int rfl) (de_one (de_not (de_isi (do_sl (i := 0) rfl (vis_by rfl)) rfl T.m_isinstance rfl T.m_bool rfl))))))
theorem dm__law_whole (T : Tb K mg base c_gone_on p_gone_on) : DefM P w K mg base (exNT K mg [(p_gone_on, (("gone_on" : Str) ++ ".<locals>.") ++ "<lambda>")]) 1 "_law_whole" ["_law_thing"] f__law_whole := DefM.of T.f__law_whole fun _ _ F => ok__law_whole T F

theorem sc__law_is_set : FnScope ["_law_n", "_law_k", "_law_thing", "_law_point"] ["_law_n", "_law_k", "_law_thing"] (defScope s__law_is_set) := ⟨rfl, rfl, rfl, by decide +kernel, rfl, by decide +kernel, by decide +kernel⟩
theorem ok__law_is_set (T : Tb K mg base c_gone_on p_gone_on) {f : Addr} {fd : FuncData} (F : Fun K "_law_is_set" "_law_is_set" s__law_is_set f fd) : FnM P w K mg base (exNT K mg [(p_gone_on, (("gone_on" : Str) ++ ".<locals>.") ++ "<lambda>")]) 2 f fd ["_law_n", "_law_k", "_law_thing"] f__law_is_set :=
  fn_ok (k := 1) (N := ["_law_n", "_law_k", "_law_thing", "_law_point"]) (body := b__law_is_set) [] F sc__law_is_set fun cdv A outer s H vs E hr hl => by
  unfold b__law_is_set
  exact (dss_cons (ds_if (dt_w (dw_or (dt_not (dt_val (de_isi (do_sl (i := 2) rfl (vis_by rfl)) rfl T.m_isinstance rfl T.m_tuple rfl))) (dw_or (dt_cmp (op_neP (hu64 hr)) (do_v (de_callB call_lenD rfl T.m_len rfl (dos_cons (do_sl (i := 2) rfl (vis_by rfl)) dos_nil))) (do_sl (i := 1) rfl (vis_by rfl))) (dw_or1 (dt_not (dt_val (de_callB (call_allD rfl) rfl T.m_all rfl (dos_cons (do_v (de_lc (own := [("_law_point", 3)]) rfl sc__law_is_set.nd (di_seq (de_rd (i := 2) rfl (vis_by rfl))) (blkOk_by rfl) (fun _ _ _ _ _ => (dg_name (i := 3) sc__law_is_set.nd rfl (loc_by rfl))) (fun _ _ _ _ _ => dts_nil) (fun _ _ _ _ _ => (de_callD (dm__law_whole T) (hr.mono (by decide)) rfl tk0 (dvs_cons (de_rd (i := 3) rfl (vis_by rfl)) dvs_nil))))) dos_nil))))))))
    (dss_one (ds_ret de_bl))
    dss_nil)
    (dss_one (ds_ret (de_and (de_cmp (op_eqP (hu64 hr)) (do_v (de_callTy call_listV rfl T.m_list rfl (dos_cons (do_sl (i := 2) rfl (vis_by rfl)) dos_nil))) (do_v (de_sset rfl rfl T.m_sorted rfl T.m_set (do_sl (i := 2) rfl (vis_by rfl))))) (de_and (de_cmp (op_leD (hu0 hr)) (do_v de_int) (do_v (de_ix (do_sl (i := 2) rfl (vis_by rfl)) (do_v de_int)))) (de_one (de_cmp op_ltD (do_v (de_ix (do_sl (i := 2) rfl (vis_by rfl)) (do_v (de_un un_negD (do_v de_int))))) (do_sl (i := 0) rfl (vis_by rfl)))))))))
theorem dm__law_is_set (T : Tb K mg base c_gone_on p_gone_on) : DefM P w K mg base (exNT K mg [(p_gone_on, (("gone_on" : Str) ++ ".<locals>.") ++ "<lambda>")]) 2 "_law_is_set" ["_law_n", "_law_k", "_law_thing"] f__law_is_set := DefM.of T.f__law_is_set fun _ _ F => ok__law_is_set T F

theorem sc__law_sets : FnScope ["_law_n", "_law_k", "_law_found", "_law_point", "_law_one"] ["_law_n", "_law_k"] (defScope s__law_sets) := ⟨rfl, rfl, rfl, by decide +kernel, rfl, by decide +kernel, by decide +kernel⟩
theorem ok__law_sets (T : Tb K mg base c_gone_on p_gone_on) {f : Addr} {fd : FuncData} (F : Fun K "_law_sets" "_law_sets" s__law_sets f fd) : FnM P w K mg base (exNT K mg [(p_gone_on, (("gone_on" : Str) ++ ".<locals>.") ++ "<lambda>")]) 1 f fd ["_law_n", "_law_k"] f__law_sets :=
  fn_ok (k := 0) (N := ["_law_n", "_law_k", "_law_found", "_law_point", "_law_one"]) (body := b__law_sets) [] F sc__law_sets fun cdv A outer s H vs E hr hl => by
  unfold b__law_sets
  exact (dss_cons (ds_set (i := 2) sc__law_sets.nd rfl (loc_by rfl) (de_lst (dvs_cons (de_tup dvs_nil) dvs_nil) (of_decide_eq_true rfl)))
    (dss_cons (ds_for (L2.passes_of rfl) rfl (di_r1 rfl T.m_range (do_sl (i := 0) rfl (vis_by rfl))) (dg_name (i := 3) sc__law_sets.nd rfl (loc_by rfl))
    (dss_one (ds_set (i := 2) sc__law_sets.nd rfl (loc_by rfl) (de_bin op_addD (do_sl (i := 2) rfl (vis_by rfl)) (do_v (de_lc (own := [("_law_one", 4)]) rfl sc__law_sets.nd (di_seq (de_rd (i := 2) rfl (vis_by rfl))) (blkOk_by rfl) (fun _ _ _ _ _ => (dg_name (i := 4) sc__law_sets.nd rfl (loc_by rfl))) (fun _ _ _ _ _ => (dts_one (dt_cmp op_ltD (do_v (de_callB call_lenD rfl T.m_len rfl (dos_cons (do_sl (i := 4) rfl (vis_by rfl)) dos_nil))) (do_sl (i := 1) rfl (vis_by rfl))))) (fun _ _ _ _ _ => (de_bin op_addD (do_sl (i := 4) rfl (vis_by rfl)) (do_v (de_tup (dvs_cons (de_rd (i := 3) rfl (vis_by rfl)) dvs_nil)))))))))))
    (dss_one (ds_ret (de_callB (call_sortedV (hu64 hr)) rfl T.m_sorted rfl (dos_cons (do_v (de_lc (own := [("_law_one", 4)]) rfl sc__law_sets.nd (di_seq (de_rd (i := 2) rfl (vis_by rfl))) (blkOk_by rfl) (fun _ _ _ _ _ => (dg_name (i := 4) sc__law_sets.nd rfl (loc_by rfl))) (fun _ _ _ _ _ => (dts_one (dt_cmp (op_eqP (hu64 hr)) (do_v (de_callB call_lenD rfl T.m_len rfl (dos_cons (do_sl (i := 4) rfl (vis_by rfl)) dos_nil))) (do_sl (i := 1) rfl (vis_by rfl))))) (fun _ _ _ _ _ => (de_rd (i := 4) rfl (vis_by rfl))))) dos_nil))))))
theorem dm__law_sets (T : Tb K mg base c_gone_on p_gone_on) : DefM P w K mg base (exNT K mg [(p_gone_on, (("gone_on" : Str) ++ ".<locals>.") ++ "<lambda>")]) 1 "_law_sets" ["_law_n", "_law_k"] f__law_sets := DefM.of T.f__law_sets fun _ _ F => ok__law_sets T F

theorem sc__law_row_good : FnScope ["_law_n", "_law_k", "_law_thing", "_law_one", "_law_at"] ["_law_n", "_law_k", "_law_thing"] (defScope s__law_row_good) := ⟨rfl, rfl, rfl, by decide +kernel, rfl, by decide +kernel, by decide +kernel⟩
theorem ok__law_row_good (T : Tb K mg base c_gone_on p_gone_on) {f : Addr} {fd : FuncData} (F : Fun K "_law_row_good" "_law_row_good" s__law_row_good f fd) : FnM P w K mg base (exNT K mg [(p_gone_on, (("gone_on" : Str) ++ ".<locals>.") ++ "<lambda>")]) 3 f fd ["_law_n", "_law_k", "_law_thing"] f__law_row_good :=
  fn_ok (k := 2) (N := ["_law_n", "_law_k", "_law_thing", "_law_one", "_law_at"]) (body := b__law_row_good) [] F sc__law_row_good fun cdv A outer s H vs E hr hl => by
  unfold b__law_row_good
  exact (dss_cons (ds_if (dt_not (dt_val (de_isi (do_sl (i := 2) rfl (vis_by rfl)) rfl T.m_isinstance rfl T.m_tuple rfl)))
    (dss_one (ds_ret de_bl))
    dss_nil)
    (dss_cons (ds_for (L2.passes_of rfl) rfl (di_seq (de_rd (i := 2) rfl (vis_by rfl))) (dg_name (i := 3) sc__law_row_good.nd rfl (loc_by rfl))
    (dss_one (ds_if (dt_not (dt_val (de_callD (dm__law_is_set T) (hr.mono (by decide)) rfl (L2N.takes_of rfl rfl rfl rfl) (dvs_cons (de_rd (i := 0) rfl (vis_by rfl)) (dvs_cons (de_rd (i := 1) rfl (vis_by rfl)) (dvs_cons (de_rd (i := 3) rfl (vis_by rfl)) dvs_nil))))))
    (dss_one (ds_ret de_bl))
    dss_nil)))
    (dss_cons (ds_if (dt_cmp (op_neP (hu64 hr)) (do_v (de_callB (call_sortedU (hu64 hr)) rfl T.m_sorted rfl (dos_cons (do_sl (i := 2) rfl (vis_by rfl)) dos_nil))) (do_v (de_callD (dm__law_sets T) (hr.mono (by decide)) rfl (L2N.takes_of rfl rfl rfl rfl) (dvs_cons (de_rd (i := 0) rfl (vis_by rfl)) (dvs_cons (de_rd (i := 1) rfl (vis_by rfl)) dvs_nil)))))
    (dss_one (ds_ret de_bl))
    dss_nil)
    (dss_one (ds_ret (de_cmp (op_eqP (hu64 hr)) (do_v (de_lc (own := [("_law_at", 4)]) rfl sc__law_row_good.nd (di_r2 rfl T.m_range (do_v de_int) (do_v (de_callB call_lenD rfl T.m_len rfl (dos_cons (do_sl (i := 2) rfl (vis_by rfl)) dos_nil)))) (blkOk_by rfl) (fun _ _ _ _ _ => (dg_name (i := 4) sc__law_row_good.nd rfl (loc_by rfl))) (fun _ _ _ _ _ => (dts_one (dt_not (dt_val (de_callD (dm__law_miss T) (hr.mono (by decide)) rfl tk0 (dvs_cons (de_ix (do_sl (i := 2) rfl (vis_by rfl)) (do_v (de_bin op_subD (do_sl (i := 4) rfl (vis_by rfl)) (do_v de_int)))) (dvs_cons (de_ix (do_sl (i := 2) rfl (vis_by rfl)) (do_sl (i := 4) rfl (vis_by rfl))) dvs_nil))))))) (fun _ _ _ _ _ => (de_rd (i := 4) rfl (vis_by rfl))))) (do_v (de_lst dvs_nil (of_decide_eq_true rfl)))))))))
theorem dm__law_row_good (T : Tb K mg base c_gone_on p_gone_on) : DefM P w K mg base (exNT K mg [(p_gone_on, (("gone_on" : Str) ++ ".<locals>.") ++ "<lambda>")]) 3 "_law_row_good" ["_law_n", "_law_k", "_law_thing"] f__law_row_good := DefM.of T.f__law_row_good fun _ _ F => ok__law_row_good T F

theorem sc__law_ring_good : FnScope ["_law_n", "_law_k", "_law_thing"] ["_law_n", "_law_k", "_law_thing"] (defScope s__law_ring_good) := ⟨rfl, rfl, rfl, by decide +kernel, rfl, by decide +kernel, by decide +kernel⟩
theorem ok__law_ring_good (T : Tb K mg base c_gone_on p_gone_on) {f : Addr} {fd : FuncData} (F : Fun K "_law_ring_good" "_law_ring_good" s__law_ring_good f fd) : FnM P w K mg base (exNT K mg [(p_gone_on, (("gone_on" : Str) ++ ".<locals>.") ++ "<lambda>")]) 4 f fd ["_law_n", "_law_k", "_law_thing"] f__law_ring_good :=
  fn_ok (k := 3) (N := ["_law_n", "_law_k", "_law_thing"]) (body := b__law_ring_good) [] F sc__law_ring_good fun cdv A outer s H vs E hr hl => by
  unfold b__law_ring_good
  exact (dss_one (ds_ret (de_and (de_callD (dm__law_row_good T) (hr.mono (by decide)) rfl (L2N.takes_of rfl rfl rfl rfl) (dvs_cons (de_rd (i := 0) rfl (vis_by rfl)) (dvs_cons (de_rd (i := 1) rfl (vis_by rfl)) (dvs_cons (de_rd (i := 2) rfl (vis_by rfl)) dvs_nil)))) (de_and (de_cmp op_gtD (do_v (de_callB call_lenD rfl T.m_len rfl (dos_cons (do_sl (i := 2) rfl (vis_by rfl)) dos_nil))) (do_v de_int)) (de_one (de_callD (dm__law_miss T) (hr.mono (by decide)) rfl (L2N.takes_of rfl rfl rfl rfl) (dvs_cons (de_ix (do_sl (i := 2) rfl (vis_by rfl)) (do_v de_int)) (dvs_cons (de_ix (do_sl (i := 2) rfl (vis_by rfl)) (do_v (de_un un_negD (do_v de_int)))) dvs_nil))))))))
theorem dm__law_ring_good (T : Tb K mg base c_gone_on p_gone_on) : DefM P w K mg base (exNT K mg [(p_gone_on, (("gone_on" : Str) ++ ".<locals>.") ++ "<lambda>")]) 4 "_law_ring_good" ["_law_n", "_law_k", "_law_thing"] f__law_ring_good := DefM.of T.f__law_ring_good fun _ _ F => ok__law_ring_good T F

theorem sc__law_same : FnScope ["_law_found", "_law_due", "_law_one", "_law_other"] ["_law_found", "_law_due"] (defScope s__law_same) := ⟨rfl, rfl, rfl, by decide +kernel, rfl, by decide +kernel, by decide +kernel⟩
theorem ok__law_same (T : Tb K mg base c_gone_on p_gone_on) (d : Nat) (ih : DefM P w K mg base (exNT K mg [(p_gone_on, (("gone_on" : Str) ++ ".<locals>.") ++ "<lambda>")]) (0 + d) "_law_same" ["_law_found", "_law_due"] (f__law_same d)) {f : Addr} {fd : FuncData} (F : Fun K "_law_same" "_law_same" s__law_same f fd) : FnM P w K mg base (exNT K mg [(p_gone_on, (("gone_on" : Str) ++ ".<locals>.") ++ "<lambda>")]) (0 + d + 1) f fd ["_law_found", "_law_due"] (f__law_same (d + 1)) :=
  fn_ok (N := ["_law_found", "_law_due", "_law_one", "_law_other"]) (body := b__law_same (f__law_same d)) [] F sc__law_same fun cdv A outer s H vs E hr hl => by
  unfold b__law_same
  exact (dss_cons (ds_if (dt_cmp op_isP (do_sl (i := 1) rfl (vis_by rfl)) (do_v de_non))
    (dss_one (ds_ret (de_cmp op_isP (do_sl (i := 0) rfl (vis_by rfl)) (do_v de_non))))
    dss_nil)
    (dss_cons (ds_if (dt_w (dw_or (dt_val (de_isi (do_sl (i := 1) rfl (vis_by rfl)) rfl T.m_isinstance rfl T.m_tuple rfl)) (dw_or1 (dt_val (de_isi (do_sl (i := 1) rfl (vis_by rfl)) rfl T.m_isinstance rfl T.m_list rfl)))))
    (dss_cons (ds_if (dt_w (dw_or (dt_cmp (op_neP (hu64 hr)) (do_v (de_isi (do_sl (i := 0) rfl (vis_by rfl)) rfl T.m_isinstance rfl T.m_tuple rfl)) (do_v (de_isi (do_sl (i := 1) rfl (vis_by rfl)) rfl T.m_isinstance rfl T.m_tuple rfl))) (dw_or1 (dt_cmp (op_neP (hu64 hr)) (do_v (de_isi (do_sl (i := 0) rfl (vis_by rfl)) rfl T.m_isinstance rfl T.m_list rfl)) (do_v (de_isi (do_sl (i := 1) rfl (vis_by rfl)) rfl T.m_isinstance rfl T.m_list rfl))))))
    (dss_one (ds_ret de_bl))
    dss_nil)
    (dss_cons (ds_if (dt_cmp (op_neP (hu64 hr)) (do_v (de_callB call_lenD rfl T.m_len rfl (dos_cons (do_sl (i := 0) rfl (vis_by rfl)) dos_nil))) (do_v (de_callB call_lenD rfl T.m_len rfl (dos_cons (do_sl (i := 1) rfl (vis_by rfl)) dos_nil))))
    (dss_one (ds_ret de_bl))
    dss_nil)
    (dss_cons (ds_for (L2.passes_of rfl) rfl (di_zip rfl T.m_zip (dvs_cons (de_rd (i := 0) rfl (vis_by rfl)) (dvs_cons (de_rd (i := 1) rfl (vis_by rfl)) dvs_nil))) (dg_tup rfl (dgs_cons (dg_name (i := 2) sc__law_same.nd rfl (loc_by rfl)) (dgs_cons (dg_name (i := 3) sc__law_same.nd rfl (loc_by rfl)) dgs_nil)))
    (dss_one (ds_if (dt_not (dt_val (de_callD ih hr rfl (L2N.takes_of rfl rfl rfl rfl) (dvs_cons (de_rd (i := 2) rfl (vis_by rfl)) (dvs_cons (de_rd (i := 3) rfl (vis_by rfl)) dvs_nil)))))
    (dss_one (ds_ret de_bl))
    dss_nil)))
    (dss_one (ds_ret de_bl)))))
    dss_nil)
    (dss_cons (ds_if (dt_val (de_isi (do_sl (i := 1) rfl (vis_by rfl)) rfl T.m_isinstance rfl T.m_str rfl))
    (dss_one (ds_ret (de_and (de_isi (do_sl (i := 0) rfl (vis_by rfl)) rfl T.m_isinstance rfl T.m_str rfl) (de_one (de_cmp (op_eqP (hu64 hr)) (do_sl (i := 0) rfl (vis_by rfl)) (do_sl (i := 1) rfl (vis_by rfl)))))))
    dss_nil)
    (dss_one (ds_ret (de_and (de_cmp (op_eqP (hu64 hr)) (do_v (de_isi (do_sl (i := 0) rfl (vis_by rfl)) rfl T.m_isinstance rfl T.m_bool rfl)) (do_v (de_isi (do_sl (i := 1) rfl (vis_by rfl)) rfl T.m_isinstance rfl T.m_bool rfl))) (de_and (de_isi (do_sl (i := 0) rfl (vis_by rfl)) rfl T.m_isinstance rfl T.m_int rfl) (de_one (de_cmp (op_eqP (hu64 hr)) (do_sl (i := 0) rfl (vis_by rfl)) (do_sl (i := 1) rfl (vis_by rfl)))))))))))
theorem dr__law_same (T : Tb K mg base c_gone_on p_gone_on) : ∀ d : Nat, DefM P w K mg base (exNT K mg [(p_gone_on, (("gone_on" : Str) ++ ".<locals>.") ++ "<lambda>")]) (0 + d) "_law_same" ["_law_found", "_law_due"] (f__law_same d)
  | 0 => DefM.none T.f__law_same
  | d + 1 => DefM.of T.f__law_same fun _ _ F => ok__law_same T d (dr__law_same T d) F
theorem dm__law_same (T : Tb K mg base c_gone_on p_gone_on) : DefM P w K mg base (exNT K mg [(p_gone_on, (("gone_on" : Str) ++ ".<locals>.") ++ "<lambda>")]) 12 "_law_same" ["_law_found", "_law_due"] (f__law_same 12) := dr__law_same T 12

theorem sc__law_through : FnScope ["_law_n", "_law_k", "_law_closed", "_law_many"] ["_law_n", "_law_k", "_law_closed"] (defScope s__law_through) := ⟨rfl, rfl, rfl, by decide +kernel, rfl, by decide +kernel, by decide +kernel⟩
theorem ok__law_through (T : Tb K mg base c_gone_on p_gone_on) {f : Addr} {fd : FuncData} (F : Fun K "_law_through" "_law_through" s__law_through f fd) : FnM P w K mg base (exNT K mg [(p_gone_on, (("gone_on" : Str) ++ ".<locals>.") ++ "<lambda>")]) 2 f fd ["_law_n", "_law_k", "_law_closed"] f__law_through :=
  fn_ok (k := 1) (N := ["_law_n", "_law_k", "_law_closed", "_law_many"]) (body := b__law_through) [] F sc__law_through fun cdv A outer s H vs E hr hl => by
  unfold b__law_through
  exact (dss_cons (ds_set (i := 3) sc__law_through.nd rfl (loc_by rfl) (de_callB call_lenD rfl T.m_len rfl (dos_cons (do_v (de_callD (dm__law_sets T) (hr.mono (by decide)) rfl (L2N.takes_of rfl rfl rfl rfl) (dvs_cons (de_rd (i := 0) rfl (vis_by rfl)) (dvs_cons (de_rd (i := 1) rfl (vis_by rfl)) dvs_nil)))) dos_nil)))
    (dss_cons (ds_if (dt_val (de_rd (i := 2) rfl (vis_by rfl)))
    (dss_one (ds_ret (de_and (de_cmp op_gtD (do_sl (i := 3) rfl (vis_by rfl)) (do_v de_int)) (de_and (de_cmp op_gtD (do_sl (i := 0) rfl (vis_by rfl)) (do_v (de_bin op_mulD (do_v de_int) (do_sl (i := 1) rfl (vis_by rfl))))) (de_one (de_cmp (op_neP (hu64 hr)) (do_v (de_tup (dvs_cons (de_rd (i := 0) rfl (vis_by rfl)) (dvs_cons (de_rd (i := 1) rfl (vis_by rfl)) dvs_nil)))) (do_v (de_tup (dvs_cons de_int (dvs_cons de_int dvs_nil))))))))))
    dss_nil)
    (dss_one (ds_ret (de_or (de_and (de_cmp op_ltD (do_sl (i := 3) rfl (vis_by rfl)) (do_v de_int)) (de_one (de_cmp op_gtD (do_sl (i := 0) rfl (vis_by rfl)) (do_v (de_bin op_subD (do_v (de_bin op_mulD (do_v de_int) (do_sl (i := 1) rfl (vis_by rfl)))) (do_v de_int)))))) (de_or (de_cmp (op_eqP (hu64 hr)) (do_sl (i := 3) rfl (vis_by rfl)) (do_v de_int)) (de_one (de_cmp op_gtD (do_sl (i := 0) rfl (vis_by rfl)) (do_v (de_bin op_mulD (do_v de_int) (do_sl (i := 1) rfl (vis_by rfl))))))))))))
theorem dm__law_through (T : Tb K mg base c_gone_on p_gone_on) : DefM P w K mg base (exNT K mg [(p_gone_on, (("gone_on" : Str) ++ ".<locals>.") ++ "<lambda>")]) 2 "_law_through" ["_law_n", "_law_k", "_law_closed"] f__law_through := DefM.of T.f__law_through fun _ _ F => ok__law_through T F

theorem sc__law_right : FnScope ["_law_n", "_law_k", "_law_many", "_law_one", "_law_other"] ["_law_n", "_law_k"] (defScope s__law_right) := ⟨rfl, rfl, rfl, by decide +kernel, rfl, by decide +kernel, by decide +kernel⟩
theorem ok__law_right (T : Tb K mg base c_gone_on p_gone_on) {f : Addr} {fd : FuncData} (F : Fun K "_law_right" "_law_right" s__law_right f fd) : FnM P w K mg base (exNT K mg [(p_gone_on, (("gone_on" : Str) ++ ".<locals>.") ++ "<lambda>")]) 29 f fd ["_law_n", "_law_k"] f__law_right :=
  fn_ok (k := 28) (N := ["_law_n", "_law_k", "_law_many", "_law_one", "_law_other"]) (body := b__law_right) [] F sc__law_right fun cdv A outer s H vs E hr hl => by
  unfold b__law_right
  exact (dss_cons (ds_set (i := 2) sc__law_right.nd rfl (loc_by rfl) (de_callB call_lenD rfl T.m_len rfl (dos_cons (do_v (de_callD (dm__law_sets T) (hr.mono (by decide)) rfl (L2N.takes_of rfl rfl rfl rfl) (dvs_cons (de_rd (i := 0) rfl (vis_by rfl)) (dvs_cons (de_rd (i := 1) rfl (vis_by rfl)) dvs_nil)))) dos_nil)))
    (dss_cons (ds_par2 (i := 3) (j := 4) rfl sc__law_right.nd rfl rfl (by decide) rfl rfl (dvs_cons (de_callD (dm__law_came T) (hr.mono (by decide)) rfl (L2N.takes_of rfl rfl rfl rfl) (dvs_cons de_int (dvs_cons (de_rd (i := 0) rfl (vis_by rfl)) (dvs_cons (de_rd (i := 1) rfl (vis_by rfl)) dvs_nil)))) (dvs_cons (de_callD (dm__law_came T) (hr.mono (by decide)) rfl (L2N.takes_of rfl rfl rfl rfl) (dvs_cons de_int (dvs_cons (de_rd (i := 0) rfl (vis_by rfl)) (dvs_cons (de_rd (i := 1) rfl (vis_by rfl)) dvs_nil)))) dvs_nil)) rfl)
    (dss_cons (ds_if (dt_cmp op_gtD (do_sl (i := 2) rfl (vis_by rfl)) (do_v de_int))
    (dss_one (ds_ret (de_and (de_callD (dm__law_same T) (hr.mono (by decide)) rfl (L2N.takes_of rfl rfl rfl rfl) (dvs_cons (de_rd (i := 3) rfl (vis_by rfl)) (dvs_cons (de_lst (dvs_cons (de_rd (i := 2) rfl (vis_by rfl)) (dvs_cons de_int dvs_nil)) (of_decide_eq_true rfl)) dvs_nil))) (de_one (de_callD (dm__law_same T) (hr.mono (by decide)) rfl (L2N.takes_of rfl rfl rfl rfl) (dvs_cons (de_rd (i := 4) rfl (vis_by rfl)) (dvs_cons (de_lst (dvs_cons (de_rd (i := 2) rfl (vis_by rfl)) (dvs_cons de_int dvs_nil)) (of_decide_eq_true rfl)) dvs_nil)))))))
    dss_nil)
    (dss_cons (ds_if (dt_w (dw_or (dt_cmp (op_neP (hu64 hr)) (do_v (de_cmp op_isnP (do_sl (i := 3) rfl (vis_by rfl)) (do_v de_non))) (do_v (de_callD (dm__law_through T) (hr.mono (by decide)) rfl (L2N.takes_of rfl rfl rfl rfl) (dvs_cons (de_rd (i := 0) rfl (vis_by rfl)) (dvs_cons (de_rd (i := 1) rfl (vis_by rfl)) (dvs_cons de_bl dvs_nil)))))) (dw_or1 (dt_cmp (op_neP (hu64 hr)) (do_v (de_cmp op_isnP (do_sl (i := 4) rfl (vis_by rfl)) (do_v de_non))) (do_v (de_callD (dm__law_through T) (hr.mono (by decide)) rfl (L2N.takes_of rfl rfl rfl rfl) (dvs_cons (de_rd (i := 0) rfl (vis_by rfl)) (dvs_cons (de_rd (i := 1) rfl (vis_by rfl)) (dvs_cons de_bl dvs_nil)))))))))
    (dss_one (ds_ret de_bl))
    dss_nil)
    (dss_cons (ds_if (dt_w (dw_and (dt_cmp op_isnP (do_sl (i := 3) rfl (vis_by rfl)) (do_v de_non)) (dw_and1 (dt_not (dt_val (de_callD (dm__law_row_good T) (hr.mono (by decide)) rfl (L2N.takes_of rfl rfl rfl rfl) (dvs_cons (de_rd (i := 0) rfl (vis_by rfl)) (dvs_cons (de_rd (i := 1) rfl (vis_by rfl)) (dvs_cons (de_rd (i := 3) rfl (vis_by rfl)) dvs_nil)))))))))
    (dss_one (ds_ret de_bl))
    dss_nil)
    (dss_one (ds_ret (de_or (de_cmp op_isP (do_sl (i := 4) rfl (vis_by rfl)) (do_v de_non)) (de_one (de_callD (dm__law_ring_good T) (hr.mono (by decide)) rfl (L2N.takes_of rfl rfl rfl rfl) (dvs_cons (de_rd (i := 0) rfl (vis_by rfl)) (dvs_cons (de_rd (i := 1) rfl (vis_by rfl)) (dvs_cons (de_rd (i := 4) rfl (vis_by rfl)) dvs_nil)))))))))))))
theorem dm__law_right (T : Tb K mg base c_gone_on p_gone_on) : DefM P w K mg base (exNT K mg [(p_gone_on, (("gone_on" : Str) ++ ".<locals>.") ++ "<lambda>")]) 29 "_law_right" ["_law_n", "_law_k"] f__law_right := DefM.of T.f__law_right fun _ _ F => ok__law_right T F

theorem sc__law_size : FnScope ["_law_pen_here", "_law_n"] ["_law_pen_here"] (defScope s__law_size) := ⟨rfl, rfl, rfl, by decide +kernel, rfl, by decide +kernel, by decide +kernel⟩
theorem ok__law_size (T : Tb K mg base c_gone_on p_gone_on) {f : Addr} {fd : FuncData} (F : Fun K "_law_size" "_law_size" s__law_size f fd) : FnM P w K mg base (exNT K mg [(p_gone_on, (("gone_on" : Str) ++ ".<locals>.") ++ "<lambda>")]) 2 f fd ["_law_pen_here"] f__law_size :=
  fn_ok (k := 1) (N := ["_law_pen_here", "_law_n"]) (body := b__law_size) [0] F sc__law_size fun cdv A outer s H vs E hr hl => by
  unfold b__law_size
  exact (dss_cons (ds_set (i := 1) sc__law_size.nd rfl (loc_by rfl) (de_ix (do_v (de_lst (dvs_cons de_int (dvs_cons de_int (dvs_cons de_int (dvs_cons de_int (dvs_cons de_int (dvs_cons de_int (dvs_cons de_int (dvs_cons de_int (dvs_cons de_int (dvs_cons de_int (dvs_cons de_int (dvs_cons de_int dvs_nil)))))))))))) (of_decide_eq_true rfl))) (do_v (de_callBD (i := 0) (dm__law_draw T) (hr.mono (by decide)) rfl (L2N.takes_of rfl rfl rfl rfl) rfl (vis_by rfl) (dvs_cons de_int dvs_nil)))))
    (dss_one (ds_ret (de_tup (dvs_cons (de_rd (i := 1) rfl (vis_by rfl)) (dvs_cons (de_ix (do_v (de_lst (dvs_cons (de_bin op_addD (do_v de_int) (do_v (de_callBD (i := 0) (dm__law_draw T) (hr.mono (by decide)) rfl (L2N.takes_of rfl rfl rfl rfl) rfl (vis_by rfl) (dvs_cons (de_rd (i := 1) rfl (vis_by rfl)) dvs_nil)))) (dvs_cons (de_bin op_addD (do_v de_int) (do_v (de_callBD (i := 0) (dm__law_draw T) (hr.mono (by decide)) rfl (L2N.takes_of rfl rfl rfl rfl) rfl (vis_by rfl) (dvs_cons (de_bin op_fdivD (do_v (de_bin op_addD (do_sl (i := 1) rfl (vis_by rfl)) (do_v de_int))) (do_v de_int)) dvs_nil)))) dvs_nil)) (of_decide_eq_true rfl))) (do_v (de_callBD (i := 0) (dm__law_draw T) (hr.mono (by decide)) rfl (L2N.takes_of rfl rfl rfl rfl) rfl (vis_by rfl) (dvs_cons de_int dvs_nil)))) dvs_nil))))))
theorem dm__law_size (T : Tb K mg base c_gone_on p_gone_on) : DefM P w K mg base (exNT K mg [(p_gone_on, (("gone_on" : Str) ++ ".<locals>.") ++ "<lambda>")]) 2 "_law_size" ["_law_pen_here"] f__law_size := DefM.of T.f__law_size fun _ _ F => ok__law_size T F

theorem sc_law : FnScope ["_law_script", "_law_n", "_law_k", "_law_cell_here", "_law_pen_here"] ["_law_script"] (defScope s_law) := ⟨rfl, rfl, rfl, by decide +kernel, rfl, by decide +kernel, by decide +kernel⟩
theorem ok_law (T : Tb K mg base c_gone_on p_gone_on) {f : Addr} {fd : FuncData} (F : Fun K "law" "law" s_law f fd) : FnM P w K mg base (exNT K mg [(p_gone_on, (("gone_on" : Str) ++ ".<locals>.") ++ "<lambda>")]) 30 f fd ["_law_script"] f_law :=
  fn_ok (k := 29) (N := ["_law_script", "_law_n", "_law_k", "_law_cell_here", "_law_pen_here"]) (body := b_law) [] F sc_law fun cdv A outer s H vs E hr hl => by
  unfold b_law
  exact (dss_cons (ds_for (L2.passes_of rfl) rfl (di_seq (de_lst (dvs_cons (de_tup (dvs_cons de_int (dvs_cons de_int dvs_nil))) (dvs_cons (de_tup (dvs_cons de_int (dvs_cons de_int dvs_nil))) (dvs_cons (de_tup (dvs_cons de_int (dvs_cons de_int dvs_nil))) (dvs_cons (de_tup (dvs_cons de_int (dvs_cons de_int dvs_nil))) (dvs_cons (de_tup (dvs_cons de_int (dvs_cons de_int dvs_nil))) (dvs_cons (de_tup (dvs_cons de_int (dvs_cons de_int dvs_nil))) (dvs_cons (de_tup (dvs_cons de_int (dvs_cons de_int dvs_nil))) (dvs_cons (de_tup (dvs_cons de_int (dvs_cons de_int dvs_nil))) (dvs_cons (de_tup (dvs_cons de_int (dvs_cons de_int dvs_nil))) dvs_nil))))))))) (of_decide_eq_true rfl))) (dg_tup rfl (dgs_cons (dg_name (i := 1) sc_law.nd rfl (loc_by rfl)) (dgs_cons (dg_name (i := 2) sc_law.nd rfl (loc_by rfl)) dgs_nil)))
    (dss_one (ds_if (dt_not (dt_val (de_callD (dm__law_right T) (hr.mono (by decide)) rfl (L2N.takes_of rfl rfl rfl rfl) (dvs_cons (de_rd (i := 1) rfl (vis_by rfl)) (dvs_cons (de_rd (i := 2) rfl (vis_by rfl)) dvs_nil)))))
    (dss_one (ds_ret de_bl))
    dss_nil)))
    (dss_cons (ds_for (L2.passes_of rfl) rfl (di_seq (de_bin op_addD (do_v (de_lst (dvs_cons (de_callD (dm__law_cell T) (hr.mono (by decide)) rfl (L2N.takes_of rfl rfl rfl rfl) (dvs_cons (de_rd (i := 0) rfl (vis_by rfl)) (dvs_cons de_int dvs_nil))) dvs_nil) (of_decide_eq_true rfl))) (do_v (de_sl (do_sl (i := 0) rfl (vis_by rfl)) (po_S de_int) (po_S de_int))))) (dg_name (i := 3) sc_law.nd rfl (loc_by rfl))
    (dss_cons (ds_set (i := 4) sc_law.nd rfl (loc_by rfl) (de_callD (dm__law_pen T) (hr.mono (by decide)) rfl (L2N.takes_of rfl rfl rfl rfl) (dvs_cons (de_rd (i := 3) rfl (vis_by rfl)) dvs_nil)))
    (dss_cons (ds_asg (de_callBD (i := 4) (dm__law_size T) (hr.mono (by decide)) rfl (L2N.takes_of rfl rfl rfl rfl) rfl (vis_by rfl) dvs_nil) (dg_tup rfl (dgs_cons (dg_name (i := 1) sc_law.nd rfl (loc_by rfl)) (dgs_cons (dg_name (i := 2) sc_law.nd rfl (loc_by rfl)) dgs_nil))))
    (dss_cons (ds_if (dt_not (dt_val (de_callD (dm__law_right T) (hr.mono (by decide)) rfl (L2N.takes_of rfl rfl rfl rfl) (dvs_cons (de_rd (i := 1) rfl (vis_by rfl)) (dvs_cons (de_rd (i := 2) rfl (vis_by rfl)) dvs_nil)))))
    (dss_one (ds_ret de_bl))
    dss_nil)
    (dss_cons (ds_asg (de_ix (do_v (de_lst (dvs_cons (de_tup (dvs_cons de_int (dvs_cons de_int dvs_nil))) (dvs_cons (de_tup (dvs_cons de_int (dvs_cons de_int dvs_nil))) (dvs_cons (de_tup (dvs_cons de_int (dvs_cons de_int dvs_nil))) (dvs_cons (de_tup (dvs_cons de_int (dvs_cons de_int dvs_nil))) (dvs_cons (de_tup (dvs_cons de_int (dvs_cons de_int dvs_nil))) (dvs_cons (de_tup (dvs_cons de_int (dvs_cons de_int dvs_nil))) (dvs_cons (de_tup (dvs_cons de_int (dvs_cons de_int dvs_nil))) dvs_nil))))))) (of_decide_eq_true rfl))) (do_v (de_callBD (i := 4) (dm__law_draw T) (hr.mono (by decide)) rfl (L2N.takes_of rfl rfl rfl rfl) rfl (vis_by rfl) (dvs_cons de_int dvs_nil)))) (dg_tup rfl (dgs_cons (dg_name (i := 1) sc_law.nd rfl (loc_by rfl)) (dgs_cons (dg_name (i := 2) sc_law.nd rfl (loc_by rfl)) dgs_nil))))
    (dss_one (ds_if (dt_not (dt_val (de_callD (dm__law_right T) (hr.mono (by decide)) rfl (L2N.takes_of rfl rfl rfl rfl) (dvs_cons (de_rd (i := 1) rfl (vis_by rfl)) (dvs_cons (de_rd (i := 2) rfl (vis_by rfl)) dvs_nil)))))
    (dss_one (ds_ret de_bl))
    dss_nil)))))))
    (dss_one (ds_ret de_bl))))

end
end MP

namespace MP
open PySem PySem.Spec PyProof.Rows L2 MS
theorem all_mk {P : Program} {w : World} {K : PySem.W.Frag} {h : Heap} {mg : Str → Option Value} {fa : Addr} (X : K.In h) (G : h.Ns mainGlobals mg) (hfa : mg "law" = some (.ref fa))
    {f0 : Addr} {oc0 kV0 dc0 pm0 cd0 ct0 : Value} {od0 an0 : Option Addr} {sl0 : Array (Option Value)}
    {f1 : Addr} {oc1 kV1 dc1 pm1 cd1 ct1 : Value} {od1 an1 : Option Addr} {sl1 : Array (Option Value)}
    {f2 : Addr} {oc2 kV2 dc2 pm2 cd2 ct2 : Value} {od2 an2 : Option Addr} {sl2 : Array (Option Value)}
    {f3 : Addr} {oc3 kV3 dc3 pm3 cd3 ct3 : Value} {od3 an3 : Option Addr} {sl3 : Array (Option Value)}
    {f4 : Addr} {oc4 kV4 dc4 pm4 cd4 ct4 : Value} {od4 an4 : Option Addr} {sl4 : Array (Option Value)}
    {f5 : Addr} {oc5 kV5 dc5 pm5 cd5 ct5 : Value} {od5 an5 : Option Addr} {sl5 : Array (Option Value)}
    {f6 : Addr} {oc6 kV6 dc6 pm6 cd6 ct6 : Value} {od6 an6 : Option Addr} {sl6 : Array (Option Value)}
    {cG6 pG6 : Addr} {vG6 : Array Value} {oG6 : Option Addr} {sG6 : Array (Option Value)}
    {f7 : Addr} {oc7 kV7 dc7 pm7 cd7 ct7 : Value} {od7 an7 : Option Addr} {sl7 : Array (Option Value)}
    {f8 : Addr} {oc8 kV8 dc8 pm8 cd8 ct8 : Value} {od8 an8 : Option Addr} {sl8 : Array (Option Value)}
    {f9 : Addr} {oc9 kV9 dc9 pm9 cd9 ct9 : Value} {od9 an9 : Option Addr} {sl9 : Array (Option Value)}
    {f10 : Addr} {oc10 kV10 dc10 pm10 cd10 ct10 : Value} {od10 an10 : Option Addr} {sl10 : Array (Option Value)}
    {f11 : Addr} {oc11 kV11 dc11 pm11 cd11 ct11 : Value} {od11 an11 : Option Addr} {sl11 : Array (Option Value)}
    {f12 : Addr} {oc12 kV12 dc12 pm12 cd12 ct12 : Value} {od12 an12 : Option Addr} {sl12 : Array (Option Value)}
    {f13 : Addr} {oc13 kV13 dc13 pm13 cd13 ct13 : Value} {od13 an13 : Option Addr} {sl13 : Array (Option Value)}
    {f14 : Addr} {oc14 kV14 dc14 pm14 cd14 ct14 : Value} {od14 an14 : Option Addr} {sl14 : Array (Option Value)}
    {f15 : Addr} {oc15 kV15 dc15 pm15 cd15 ct15 : Value} {od15 an15 : Option Addr} {sl15 : Array (Option Value)}
    {f16 : Addr} {oc16 kV16 dc16 pm16 cd16 ct16 : Value} {od16 an16 : Option Addr} {sl16 : Array (Option Value)}
    {f17 : Addr} {oc17 kV17 dc17 pm17 cd17 ct17 : Value} {od17 an17 : Option Addr} {sl17 : Array (Option Value)}
    {f18 : Addr} {oc18 kV18 dc18 pm18 cd18 ct18 : Value} {od18 an18 : Option Addr} {sl18 : Array (Option Value)}
    {f19 : Addr} {oc19 kV19 dc19 pm19 cd19 ct19 : Value} {od19 an19 : Option Addr} {sl19 : Array (Option Value)}
    {f20 : Addr} {oc20 kV20 dc20 pm20 cd20 ct20 : Value} {od20 an20 : Option Addr} {sl20 : Array (Option Value)}
    {f21 : Addr} {oc21 kV21 dc21 pm21 cd21 ct21 : Value} {od21 an21 : Option Addr} {sl21 : Array (Option Value)}
    {f22 : Addr} {oc22 kV22 dc22 pm22 cd22 ct22 : Value} {od22 an22 : Option Addr} {sl22 : Array (Option Value)}
    {f23 : Addr} {oc23 kV23 dc23 pm23 cd23 ct23 : Value} {od23 an23 : Option Addr} {sl23 : Array (Option Value)}
    {f24 : Addr} {oc24 kV24 dc24 pm24 cd24 ct24 : Value} {od24 an24 : Option Addr} {sl24 : Array (Option Value)}
    {f25 : Addr} {oc25 kV25 dc25 pm25 cd25 ct25 : Value} {od25 an25 : Option Addr} {sl25 : Array (Option Value)}
    {t_MOST_POINTS : Tok}
    {t_MOST_THROUGH : Tok}
    {D_NoNumber : Addr}
    {D_NoSet : Addr}
    {D_NoHues : Addr}
    {D_NoLot : Addr}
    {D_NoMap : Addr}
    {D_NoTurn : Addr}
    {D_NoWeights : Addr}
    {D_NoRow : Addr}
    {D_NoText : Addr}
    {D_NoLine : Addr}
    {D_NoDeed : Addr}
    {D_TooGreat : Addr}
    {D_MissError : Addr}
    {fI : Addr} {iK iDoc iPm iCd iCt iOc : Value} {iOd iAn : Option Addr} {iSl : Array (Option Value)} {xn xq : Str} {xN : Addr} {xbs xbm : List Value} {xsn : List Str} {xsub : List Value} {xab : Bool} {xcol : Option Bool} {xdd : Option Addr} {xk0 xk1 xk2 xk3 xk5 : Option Value}
    (a0 : PySem.W.nsIn K mainGlobals "_law_cell" = some (some (.ref f0))) (l0 : K.lookup f0 = some ⟨oc0, od0, .func (PySem.W.fnOf "_law_cell" "_law_cell" (defArgs s__law_cell) (defBody s__law_cell) (defScope s__law_cell) .none kV0 dc0 pm0 an0 cd0 ct0), sl0⟩) (c0 : PySem.W.codeIn K cd0 "_law_cell" = true) (k0 : PySem.W.keepIn K (.ref f0) = true)
    (a1 : PySem.W.nsIn K mainGlobals "_law_draw" = some (some (.ref f1))) (l1 : K.lookup f1 = some ⟨oc1, od1, .func (PySem.W.fnOf "_law_draw" "_law_draw" (defArgs s__law_draw) (defBody s__law_draw) (defScope s__law_draw) .none kV1 dc1 pm1 an1 cd1 ct1), sl1⟩) (c1 : PySem.W.codeIn K cd1 "_law_draw" = true) (k1 : PySem.W.keepIn K (.ref f1) = true)
    (a2 : PySem.W.nsIn K mainGlobals "_law_pen" = some (some (.ref f2))) (l2 : K.lookup f2 = some ⟨oc2, od2, .func (PySem.W.fnOf "_law_pen" "_law_pen" (defArgs s__law_pen) (defBody s__law_pen) (defScope s__law_pen) .none kV2 dc2 pm2 an2 cd2 ct2), sl2⟩) (c2 : PySem.W.codeIn K cd2 "_law_pen" = true) (k2 : PySem.W.keepIn K (.ref f2) = true)
    (a3 : PySem.W.nsIn K mainGlobals "_law_kind_of" = some (some (.ref f3))) (l3 : K.lookup f3 = some ⟨oc3, od3, .func (PySem.W.fnOf "_law_kind_of" "_law_kind_of" (defArgs s__law_kind_of) (defBody s__law_kind_of) (defScope s__law_kind_of) .none kV3 dc3 pm3 an3 cd3 ct3), sl3⟩) (c3 : PySem.W.codeIn K cd3 "_law_kind_of" = true) (k3 : PySem.W.keepIn K (.ref f3) = true)
    (a4 : PySem.W.nsIn K mainGlobals "all_of" = some (some (.ref f4))) (l4 : K.lookup f4 = some ⟨oc4, od4, .func (PySem.W.fnOf "all_of" "all_of" (defArgs s_all_of) (defBody s_all_of) (defScope s_all_of) .none kV4 dc4 pm4 an4 cd4 ct4), sl4⟩) (c4 : PySem.W.codeIn K cd4 "all_of" = true) (k4 : PySem.W.keepIn K (.ref f4) = true)
    (a5 : PySem.W.nsIn K mainGlobals "missing" = some (some (.ref f5))) (l5 : K.lookup f5 = some ⟨oc5, od5, .func (PySem.W.fnOf "missing" "missing" (defArgs s_missing) (defBody s_missing) (defScope s_missing) .none kV5 dc5 pm5 an5 cd5 ct5), sl5⟩) (c5 : PySem.W.codeIn K cd5 "missing" = true) (k5 : PySem.W.keepIn K (.ref f5) = true)
    (a6 : PySem.W.nsIn K mainGlobals "gone_on" = some (some (.ref f6))) (l6 : K.lookup f6 = some ⟨oc6, od6, .func (PySem.W.fnOf "gone_on" "gone_on" (defArgs s_gone_on) (defBody s_gone_on) (defScope s_gone_on) .none kV6 dc6 pm6 an6 cd6 ct6), sl6⟩) (c6 : PySem.W.codeIn K cd6 "gone_on" = true) (k6 : PySem.W.keepIn K (.ref f6) = true)
    (u1_6 : cd6 = .ref cG6) (u2_6 : K.lookup cG6 = some ⟨.type "code", oG6, .fields vG6, sG6⟩) (u3_6 : vG6[11]? = some (.ref pG6)) (u4_6 : PySem.W.codeHdIn K cG6 pG6 = true) (u5_6 : K.lookup pG6 = none) (u6_6 : h.get? pG6 = some tabN)
    (a7 : PySem.W.nsIn K mainGlobals "is_whole" = some (some (.ref f7))) (l7 : K.lookup f7 = some ⟨oc7, od7, .func (PySem.W.fnOf "is_whole" "is_whole" (defArgs s_is_whole) (defBody s_is_whole) (defScope s_is_whole) .none kV7 dc7 pm7 an7 cd7 ct7), sl7⟩) (c7 : PySem.W.codeIn K cd7 "is_whole" = true) (k7 : PySem.W.keepIn K (.ref f7) = true)
    (a8 : PySem.W.nsIn K mainGlobals "is_from" = some (some (.ref f8))) (l8 : K.lookup f8 = some ⟨oc8, od8, .func (PySem.W.fnOf "is_from" "is_from" (defArgs s_is_from) (defBody s_is_from) (defScope s_is_from) .none kV8 dc8 pm8 an8 cd8 ct8), sl8⟩) (c8 : PySem.W.codeIn K cd8 "is_from" = true) (k8 : PySem.W.keepIn K (.ref f8) = true)
    (a9 : PySem.W.nsIn K mainGlobals "must_from" = some (some (.ref f9))) (l9 : K.lookup f9 = some ⟨oc9, od9, .func (PySem.W.fnOf "must_from" "must_from" (defArgs s_must_from) (defBody s_must_from) (defScope s_must_from) .none kV9 dc9 pm9 an9 cd9 ct9), sl9⟩) (c9 : PySem.W.codeIn K cd9 "must_from" = true) (k9 : PySem.W.keepIn K (.ref f9) = true)
    (a10 : PySem.W.nsIn K mainGlobals "must_size" = some (some (.ref f10))) (l10 : K.lookup f10 = some ⟨oc10, od10, .func (PySem.W.fnOf "must_size" "must_size" (defArgs s_must_size) (defBody s_must_size) (defScope s_must_size) .none kV10 dc10 pm10 an10 cd10 ct10), sl10⟩) (c10 : PySem.W.codeIn K cd10 "must_size" = true) (k10 : PySem.W.keepIn K (.ref f10) = true)
    (a11 : PySem.W.nsIn K mainGlobals "must_few" = some (some (.ref f11))) (l11 : K.lookup f11 = some ⟨oc11, od11, .func (PySem.W.fnOf "must_few" "must_few" (defArgs s_must_few) (defBody s_must_few) (defScope s_must_few) .none kV11 dc11 pm11 an11 cd11 ct11), sl11⟩) (c11 : PySem.W.codeIn K cd11 "must_few" = true) (k11 : PySem.W.keepIn K (.ref f11) = true)
    (a12 : PySem.W.nsIn K mainGlobals "some_ring" = some (some (.ref f12))) (l12 : K.lookup f12 = some ⟨oc12, od12, .func (PySem.W.fnOf "some_ring" "some_ring" (defArgs s_some_ring) (defBody s_some_ring) (defScope s_some_ring) .none kV12 dc12 pm12 an12 cd12 ct12), sl12⟩) (c12 : PySem.W.codeIn K cd12 "some_ring" = true) (k12 : PySem.W.keepIn K (.ref f12) = true)
    (a13 : PySem.W.nsIn K mainGlobals "some_row" = some (some (.ref f13))) (l13 : K.lookup f13 = some ⟨oc13, od13, .func (PySem.W.fnOf "some_row" "some_row" (defArgs s_some_row) (defBody s_some_row) (defScope s_some_row) .none kV13 dc13 pm13 an13 cd13 ct13), sl13⟩) (c13 : PySem.W.codeIn K cd13 "some_row" = true) (k13 : PySem.W.keepIn K (.ref f13) = true)
    (a14 : PySem.W.nsIn K mainGlobals "_law_came" = some (some (.ref f14))) (l14 : K.lookup f14 = some ⟨oc14, od14, .func (PySem.W.fnOf "_law_came" "_law_came" (defArgs s__law_came) (defBody s__law_came) (defScope s__law_came) .none kV14 dc14 pm14 an14 cd14 ct14), sl14⟩) (c14 : PySem.W.codeIn K cd14 "_law_came" = true) (k14 : PySem.W.keepIn K (.ref f14) = true)
    (a15 : PySem.W.nsIn K mainGlobals "_law_miss" = some (some (.ref f15))) (l15 : K.lookup f15 = some ⟨oc15, od15, .func (PySem.W.fnOf "_law_miss" "_law_miss" (defArgs s__law_miss) (defBody s__law_miss) (defScope s__law_miss) .none kV15 dc15 pm15 an15 cd15 ct15), sl15⟩) (c15 : PySem.W.codeIn K cd15 "_law_miss" = true) (k15 : PySem.W.keepIn K (.ref f15) = true)
    (a16 : PySem.W.nsIn K mainGlobals "_law_whole" = some (some (.ref f16))) (l16 : K.lookup f16 = some ⟨oc16, od16, .func (PySem.W.fnOf "_law_whole" "_law_whole" (defArgs s__law_whole) (defBody s__law_whole) (defScope s__law_whole) .none kV16 dc16 pm16 an16 cd16 ct16), sl16⟩) (c16 : PySem.W.codeIn K cd16 "_law_whole" = true) (k16 : PySem.W.keepIn K (.ref f16) = true)
    (a17 : PySem.W.nsIn K mainGlobals "_law_is_set" = some (some (.ref f17))) (l17 : K.lookup f17 = some ⟨oc17, od17, .func (PySem.W.fnOf "_law_is_set" "_law_is_set" (defArgs s__law_is_set) (defBody s__law_is_set) (defScope s__law_is_set) .none kV17 dc17 pm17 an17 cd17 ct17), sl17⟩) (c17 : PySem.W.codeIn K cd17 "_law_is_set" = true) (k17 : PySem.W.keepIn K (.ref f17) = true)
    (a18 : PySem.W.nsIn K mainGlobals "_law_sets" = some (some (.ref f18))) (l18 : K.lookup f18 = some ⟨oc18, od18, .func (PySem.W.fnOf "_law_sets" "_law_sets" (defArgs s__law_sets) (defBody s__law_sets) (defScope s__law_sets) .none kV18 dc18 pm18 an18 cd18 ct18), sl18⟩) (c18 : PySem.W.codeIn K cd18 "_law_sets" = true) (k18 : PySem.W.keepIn K (.ref f18) = true)
    (a19 : PySem.W.nsIn K mainGlobals "_law_row_good" = some (some (.ref f19))) (l19 : K.lookup f19 = some ⟨oc19, od19, .func (PySem.W.fnOf "_law_row_good" "_law_row_good" (defArgs s__law_row_good) (defBody s__law_row_good) (defScope s__law_row_good) .none kV19 dc19 pm19 an19 cd19 ct19), sl19⟩) (c19 : PySem.W.codeIn K cd19 "_law_row_good" = true) (k19 : PySem.W.keepIn K (.ref f19) = true)
    (a20 : PySem.W.nsIn K mainGlobals "_law_ring_good" = some (some (.ref f20))) (l20 : K.lookup f20 = some ⟨oc20, od20, .func (PySem.W.fnOf "_law_ring_good" "_law_ring_good" (defArgs s__law_ring_good) (defBody s__law_ring_good) (defScope s__law_ring_good) .none kV20 dc20 pm20 an20 cd20 ct20), sl20⟩) (c20 : PySem.W.codeIn K cd20 "_law_ring_good" = true) (k20 : PySem.W.keepIn K (.ref f20) = true)
    (a21 : PySem.W.nsIn K mainGlobals "_law_same" = some (some (.ref f21))) (l21 : K.lookup f21 = some ⟨oc21, od21, .func (PySem.W.fnOf "_law_same" "_law_same" (defArgs s__law_same) (defBody s__law_same) (defScope s__law_same) .none kV21 dc21 pm21 an21 cd21 ct21), sl21⟩) (c21 : PySem.W.codeIn K cd21 "_law_same" = true) (k21 : PySem.W.keepIn K (.ref f21) = true)
    (a22 : PySem.W.nsIn K mainGlobals "_law_through" = some (some (.ref f22))) (l22 : K.lookup f22 = some ⟨oc22, od22, .func (PySem.W.fnOf "_law_through" "_law_through" (defArgs s__law_through) (defBody s__law_through) (defScope s__law_through) .none kV22 dc22 pm22 an22 cd22 ct22), sl22⟩) (c22 : PySem.W.codeIn K cd22 "_law_through" = true) (k22 : PySem.W.keepIn K (.ref f22) = true)
    (a23 : PySem.W.nsIn K mainGlobals "_law_right" = some (some (.ref f23))) (l23 : K.lookup f23 = some ⟨oc23, od23, .func (PySem.W.fnOf "_law_right" "_law_right" (defArgs s__law_right) (defBody s__law_right) (defScope s__law_right) .none kV23 dc23 pm23 an23 cd23 ct23), sl23⟩) (c23 : PySem.W.codeIn K cd23 "_law_right" = true) (k23 : PySem.W.keepIn K (.ref f23) = true)
    (a24 : PySem.W.nsIn K mainGlobals "_law_size" = some (some (.ref f24))) (l24 : K.lookup f24 = some ⟨oc24, od24, .func (PySem.W.fnOf "_law_size" "_law_size" (defArgs s__law_size) (defBody s__law_size) (defScope s__law_size) .none kV24 dc24 pm24 an24 cd24 ct24), sl24⟩) (c24 : PySem.W.codeIn K cd24 "_law_size" = true) (k24 : PySem.W.keepIn K (.ref f24) = true)
    (a25 : PySem.W.nsIn K mainGlobals "law" = some (some (.ref f25))) (l25 : K.lookup f25 = some ⟨oc25, od25, .func (PySem.W.fnOf "law" "law" (defArgs s_law) (defBody s_law) (defScope s_law) .none kV25 dc25 pm25 an25 cd25 ct25), sl25⟩) (c25 : PySem.W.codeIn K cd25 "law" = true) (k25 : PySem.W.keepIn K (.ref f25) = true)
    (m_ValueError : PySem.W.nsIn K mainGlobals "ValueError" = some none)
    (m_all : PySem.W.nsIn K mainGlobals "all" = some none)
    (m_any : PySem.W.nsIn K mainGlobals "any" = some none)
    (m_bool : PySem.W.nsIn K mainGlobals "bool" = some none)
    (m_int : PySem.W.nsIn K mainGlobals "int" = some none)
    (m_isinstance : PySem.W.nsIn K mainGlobals "isinstance" = some none)
    (m_len : PySem.W.nsIn K mainGlobals "len" = some none)
    (m_list : PySem.W.nsIn K mainGlobals "list" = some none)
    (m_max : PySem.W.nsIn K mainGlobals "max" = some none)
    (m_range : PySem.W.nsIn K mainGlobals "range" = some none)
    (m_set : PySem.W.nsIn K mainGlobals "set" = some none)
    (m_sorted : PySem.W.nsIn K mainGlobals "sorted" = some none)
    (m_str : PySem.W.nsIn K mainGlobals "str" = some none)
    (m_sum : PySem.W.nsIn K mainGlobals "sum" = some none)
    (m_tuple : PySem.W.nsIn K mainGlobals "tuple" = some none)
    (m_zip : PySem.W.nsIn K mainGlobals "zip" = some none)
    (c_MOST_POINTS : PySem.W.nsIn K mainGlobals "MOST_POINTS" = some (some (.int 8 t_MOST_POINTS)))
    (c_MOST_THROUGH : PySem.W.nsIn K mainGlobals "MOST_THROUGH" = some (some (.int 21 t_MOST_THROUGH)))
    (n1_NoNumber : PySem.W.nsIn K mainGlobals "NoNumber" = some (some (.ref D_NoNumber))) (n2_NoNumber : PySem.W.hasDictIn K D_NoNumber = true) (n3_NoNumber : PySem.W.typeIn K (.ref D_NoNumber) = some (.type "type"))
    (n1_NoSet : PySem.W.nsIn K mainGlobals "NoSet" = some (some (.ref D_NoSet))) (n2_NoSet : PySem.W.hasDictIn K D_NoSet = true) (n3_NoSet : PySem.W.typeIn K (.ref D_NoSet) = some (.type "type"))
    (n1_NoHues : PySem.W.nsIn K mainGlobals "NoHues" = some (some (.ref D_NoHues))) (n2_NoHues : PySem.W.hasDictIn K D_NoHues = true) (n3_NoHues : PySem.W.typeIn K (.ref D_NoHues) = some (.type "type"))
    (n1_NoLot : PySem.W.nsIn K mainGlobals "NoLot" = some (some (.ref D_NoLot))) (n2_NoLot : PySem.W.hasDictIn K D_NoLot = true) (n3_NoLot : PySem.W.typeIn K (.ref D_NoLot) = some (.type "type"))
    (n1_NoMap : PySem.W.nsIn K mainGlobals "NoMap" = some (some (.ref D_NoMap))) (n2_NoMap : PySem.W.hasDictIn K D_NoMap = true) (n3_NoMap : PySem.W.typeIn K (.ref D_NoMap) = some (.type "type"))
    (n1_NoTurn : PySem.W.nsIn K mainGlobals "NoTurn" = some (some (.ref D_NoTurn))) (n2_NoTurn : PySem.W.hasDictIn K D_NoTurn = true) (n3_NoTurn : PySem.W.typeIn K (.ref D_NoTurn) = some (.type "type"))
    (n1_NoWeights : PySem.W.nsIn K mainGlobals "NoWeights" = some (some (.ref D_NoWeights))) (n2_NoWeights : PySem.W.hasDictIn K D_NoWeights = true) (n3_NoWeights : PySem.W.typeIn K (.ref D_NoWeights) = some (.type "type"))
    (n1_NoRow : PySem.W.nsIn K mainGlobals "NoRow" = some (some (.ref D_NoRow))) (n2_NoRow : PySem.W.hasDictIn K D_NoRow = true) (n3_NoRow : PySem.W.typeIn K (.ref D_NoRow) = some (.type "type"))
    (n1_NoText : PySem.W.nsIn K mainGlobals "NoText" = some (some (.ref D_NoText))) (n2_NoText : PySem.W.hasDictIn K D_NoText = true) (n3_NoText : PySem.W.typeIn K (.ref D_NoText) = some (.type "type"))
    (n1_NoLine : PySem.W.nsIn K mainGlobals "NoLine" = some (some (.ref D_NoLine))) (n2_NoLine : PySem.W.hasDictIn K D_NoLine = true) (n3_NoLine : PySem.W.typeIn K (.ref D_NoLine) = some (.type "type"))
    (n1_NoDeed : PySem.W.nsIn K mainGlobals "NoDeed" = some (some (.ref D_NoDeed))) (n2_NoDeed : PySem.W.hasDictIn K D_NoDeed = true) (n3_NoDeed : PySem.W.typeIn K (.ref D_NoDeed) = some (.type "type"))
    (n1_TooGreat : PySem.W.nsIn K mainGlobals "TooGreat" = some (some (.ref D_TooGreat))) (n2_TooGreat : PySem.W.hasDictIn K D_TooGreat = true) (n3_TooGreat : PySem.W.typeIn K (.ref D_TooGreat) = some (.type "type"))
    (n1_MissError : PySem.W.nsIn K mainGlobals "MissError" = some (some (.ref D_MissError))) (n2_MissError : PySem.W.hasDictIn K D_MissError = true) (n3_MissError : PySem.W.typeIn K (.ref D_MissError) = some (.type "type"))
    (g1_ : PySem.W.specialIn K (.builtin "object.__class__") "__get__" = some (some (.builtin "getset_descriptor.__get__"))) (g2_ : PySem.W.takesIn K (.builtin "object.__class__") = some true) (g3_ : PySem.W.subIn K (.ref D_MissError) (.type "BaseException") = some true)
    (v1_ : K.lookup D_TooGreat = some (excClassObj xn xq D_TooGreat xN xbs xbm true xsn xsub xab xcol xdd xk0 xk1 xk2 xk3 xk5 "ValueError.__new__")) (v2_ : PySem.HandSPX.refsVE xbm = true) (v3_ : PySem.W.findIn K (.ref D_TooGreat) "__setattr__" = some (some (.builtin "object.__setattr__"))) (v4_ : PySem.W.subIn K (.ref D_TooGreat) (.type "BaseException") = some true) (v5_ : PySem.W.keepIn K (.ref D_TooGreat) = true) (v6_ : PySem.W.findIn K (.ref D_TooGreat) "__init__" = some (some (.ref fI))) (v7_ : PySem.W.typeIn K (.ref fI) = some (.type "function")) (v8_ : K.lookup fI = some ⟨iOc, iOd, .func (PySem.W.fnOf "__init__" "TooGreat.__init__" (defArgs s_tginit) (defBody s_tginit) (defScope s_tginit) .none iK iDoc iPm iAn iCd iCt), iSl⟩) (v9_ : PySem.W.codeIn K iCd "TooGreat.__init__" = true) (va_ : PySem.W.keepIn K (.ref fI) = true) (vb_ : PySem.W.findIn K (.ref D_TooGreat) "many" = some none) (vc_ : PySem.W.findIn K (.ref D_TooGreat) "most" = some none)
    (f1_TooGreat : PySem.W.findIn K (.ref D_TooGreat) "__getattribute__" = some (some (.builtin "BaseException.__getattribute__"))) (f2_TooGreat : PySem.W.findIn K (.ref D_TooGreat) "__getattr__" = some none) (f3_TooGreat : PySem.W.findIn K (.ref D_TooGreat) "__class__" = some (some (.builtin "object.__class__"))) (f4_TooGreat : PySem.W.mroIn K D_TooGreat (.type "object") = some true) (f5_TooGreat : PySem.W.subIn K (.ref D_TooGreat) (.type "ValueError") = some true) (f6_TooGreat : PySem.W.subIn K (.ref D_TooGreat) (.ref D_MissError) = some true)
    (s_TooGreat_NoNumber : PySem.W.subIn K (.ref D_TooGreat) (.ref D_NoNumber) = some false)
    (s_TooGreat_NoSet : PySem.W.subIn K (.ref D_TooGreat) (.ref D_NoSet) = some false)
    (s_TooGreat_NoHues : PySem.W.subIn K (.ref D_TooGreat) (.ref D_NoHues) = some false)
    (s_TooGreat_NoLot : PySem.W.subIn K (.ref D_TooGreat) (.ref D_NoLot) = some false)
    (s_TooGreat_NoMap : PySem.W.subIn K (.ref D_TooGreat) (.ref D_NoMap) = some false)
    (s_TooGreat_NoTurn : PySem.W.subIn K (.ref D_TooGreat) (.ref D_NoTurn) = some false)
    (s_TooGreat_NoWeights : PySem.W.subIn K (.ref D_TooGreat) (.ref D_NoWeights) = some false)
    (s_TooGreat_NoRow : PySem.W.subIn K (.ref D_TooGreat) (.ref D_NoRow) = some false)
    (s_TooGreat_NoText : PySem.W.subIn K (.ref D_TooGreat) (.ref D_NoText) = some false)
    (s_TooGreat_NoLine : PySem.W.subIn K (.ref D_TooGreat) (.ref D_NoLine) = some false)
    (s_TooGreat_NoDeed : PySem.W.subIn K (.ref D_TooGreat) (.ref D_NoDeed) = some false)
    (s_TooGreat_TooGreat : PySem.W.subIn K (.ref D_TooGreat) (.ref D_TooGreat) = some true)
    (e2_NoNumber : PySem.W.excIn K D_NoNumber [.type "ValueError", .type "Exception", .type "BaseException", .type "object"] "ValueError.__new__" = true) (e3_NoNumber : PySem.W.keepIn K (.ref D_NoNumber) = true) (e4_NoNumber : PySem.W.subIn K (.ref D_NoNumber) (.type "BaseException") = some true) 
    (f1_NoNumber : PySem.W.findIn K (.ref D_NoNumber) "__getattribute__" = some (some (.builtin "BaseException.__getattribute__"))) (f2_NoNumber : PySem.W.findIn K (.ref D_NoNumber) "__getattr__" = some none) (f3_NoNumber : PySem.W.findIn K (.ref D_NoNumber) "__class__" = some (some (.builtin "object.__class__"))) (f4_NoNumber : PySem.W.mroIn K D_NoNumber (.type "object") = some true) (f5_NoNumber : PySem.W.subIn K (.ref D_NoNumber) (.type "ValueError") = some true) (f6_NoNumber : PySem.W.subIn K (.ref D_NoNumber) (.ref D_MissError) = some true)
    (s_NoNumber_NoNumber : PySem.W.subIn K (.ref D_NoNumber) (.ref D_NoNumber) = some true)
    (s_NoNumber_NoSet : PySem.W.subIn K (.ref D_NoNumber) (.ref D_NoSet) = some false)
    (s_NoNumber_NoHues : PySem.W.subIn K (.ref D_NoNumber) (.ref D_NoHues) = some false)
    (s_NoNumber_NoLot : PySem.W.subIn K (.ref D_NoNumber) (.ref D_NoLot) = some false)
    (s_NoNumber_NoMap : PySem.W.subIn K (.ref D_NoNumber) (.ref D_NoMap) = some false)
    (s_NoNumber_NoTurn : PySem.W.subIn K (.ref D_NoNumber) (.ref D_NoTurn) = some false)
    (s_NoNumber_NoWeights : PySem.W.subIn K (.ref D_NoNumber) (.ref D_NoWeights) = some false)
    (s_NoNumber_NoRow : PySem.W.subIn K (.ref D_NoNumber) (.ref D_NoRow) = some false)
    (s_NoNumber_NoText : PySem.W.subIn K (.ref D_NoNumber) (.ref D_NoText) = some false)
    (s_NoNumber_NoLine : PySem.W.subIn K (.ref D_NoNumber) (.ref D_NoLine) = some false)
    (s_NoNumber_NoDeed : PySem.W.subIn K (.ref D_NoNumber) (.ref D_NoDeed) = some false)
    (s_NoNumber_TooGreat : PySem.W.subIn K (.ref D_NoNumber) (.ref D_TooGreat) = some false) :
    ∃ (fd : FuncData) (tb : List (Addr × Addr)) (ex : Ex), (∀ q ∈ tb, h.get? q.2 = some tabN) ∧ (∀ q ∈ tb, K.lookup q.2 = none) ∧ (∀ q ∈ tb, PySem.W.CodeHd h q.1 q.2) ∧ (∀ p ∈ ex.tb, ∃ q ∈ tb, q.2 = p.1) ∧ (∀ (s : Shared) (u : Value), BindsTo s fd ⟨[u], []⟩ [("_law_script", u)]) ∧ ∀ base : Heap, K.In base → base.Ns mainGlobals mg → (∀ q ∈ tb, LamX.TabB base mg q.1 q.2) → FnM P w K mg base ex 30 fa fd ["_law_script"] f_law := by
  have e := hfa.symm.trans (PySem.W.mg_of X G a25)
  cases e
  have T : ∀ base : Heap, K.In base → base.Ns mainGlobals mg → (∀ q ∈ ([(cG6, pG6)] : List (Addr × Addr)), LamX.TabB base mg q.1 q.2) → Tb K mg base cG6 pG6 := fun base _ _ TB => {
    f__law_cell := ⟨_, _, fun_mk l0 c0 k0, PySem.W.mg_of X G a0, (fun_mk l0 c0 k0).binds (ps := ["_law_script", "_law_k"]) fun _ _ _ _ _ _ us hl => match us, hl with | [_, _], _ => rfl⟩,
    f__law_draw := ⟨_, _, fun_mk l1 c1 k1, PySem.W.mg_of X G a1, (fun_mk l1 c1 k1).binds (ps := ["_law_pen_here", "_law_many"]) fun _ _ _ _ _ _ us hl => match us, hl with | [_, _], _ => rfl⟩,
    f__law_pen := ⟨_, _, fun_mk l2 c2 k2, PySem.W.mg_of X G a2, (fun_mk l2 c2 k2).binds (ps := ["_law_cell_here"]) fun _ _ _ _ _ _ us hl => match us, hl with | [_], _ => rfl⟩,
    f__law_kind_of := ⟨_, _, fun_mk l3 c3 k3, PySem.W.mg_of X G a3, (fun_mk l3 c3 k3).binds (ps := ["_law_e"]) fun _ _ _ _ _ _ us hl => match us, hl with | [_], _ => rfl⟩,
    f_all_of := ⟨_, _, fun_mk l4 c4 k4, PySem.W.mg_of X G a4, (fun_mk l4 c4 k4).binds (ps := ["n", "k"]) fun _ _ _ _ _ _ us hl => match us, hl with | [_, _], _ => rfl⟩,
    f_missing := ⟨_, _, fun_mk l5 c5 k5, PySem.W.mg_of X G a5, (fun_mk l5 c5 k5).binds (ps := ["one", "other"]) fun _ _ _ _ _ _ us hl => match us, hl with | [_, _], _ => rfl⟩,
    f_gone_on := ⟨_, _, ⟨fun_mk l6 c6 k6, PySem.W.mg_of X G a6, (fun_mk l6 c6 k6).binds (ps := ["row", "left", "closed"]) fun _ _ _ _ _ _ us hl => match us, hl with | [_, _, _], _ => rfl⟩, u1_6⟩,
    tb_gone_on := TB (cG6, pG6) (by simp),
    f_is_whole := ⟨_, _, fun_mk l7 c7 k7, PySem.W.mg_of X G a7, (fun_mk l7 c7 k7).binds (ps := ["thing"]) fun _ _ _ _ _ _ us hl => match us, hl with | [_], _ => rfl⟩,
    f_is_from := ⟨_, _, fun_mk l8 c8 k8, PySem.W.mg_of X G a8, (fun_mk l8 c8 k8).binds (ps := ["thing", "low", "high"]) fun _ _ _ _ _ _ us hl => match us, hl with | [_, _, _], _ => rfl⟩,
    f_must_from := ⟨_, _, fun_mk l9 c9 k9, PySem.W.mg_of X G a9, (fun_mk l9 c9 k9).binds (ps := ["thing", "low", "high"]) fun _ _ _ _ _ _ us hl => match us, hl with | [_, _, _], _ => rfl⟩,
    f_must_size := ⟨_, _, fun_mk l10 c10 k10, PySem.W.mg_of X G a10, (fun_mk l10 c10 k10).binds (ps := ["n", "k"]) fun _ _ _ _ _ _ us hl => match us, hl with | [_, _], _ => rfl⟩,
    f_must_few := ⟨_, _, fun_mk l11 c11 k11, PySem.W.mg_of X G a11, (fun_mk l11 c11 k11).binds (ps := ["n", "k", "most"]) fun _ _ _ _ _ _ us hl => match us, hl with | [_, _, _], _ => rfl⟩,
    f_some_ring := ⟨_, _, fun_mk l12 c12 k12, PySem.W.mg_of X G a12, (fun_mk l12 c12 k12).binds (ps := ["n", "k"]) fun _ _ _ _ _ _ us hl => match us, hl with | [_, _], _ => rfl⟩,
    f_some_row := ⟨_, _, fun_mk l13 c13 k13, PySem.W.mg_of X G a13, (fun_mk l13 c13 k13).binds (ps := ["n", "k"]) fun _ _ _ _ _ _ us hl => match us, hl with | [_, _], _ => rfl⟩,
    f__law_came := ⟨_, _, fun_mk l14 c14 k14, PySem.W.mg_of X G a14, (fun_mk l14 c14 k14).binds (ps := ["_law_way", "_law_n", "_law_k"]) fun _ _ _ _ _ _ us hl => match us, hl with | [_, _, _], _ => rfl⟩,
    f__law_miss := ⟨_, _, fun_mk l15 c15 k15, PySem.W.mg_of X G a15, (fun_mk l15 c15 k15).binds (ps := ["_law_one", "_law_other"]) fun _ _ _ _ _ _ us hl => match us, hl with | [_, _], _ => rfl⟩,
    f__law_whole := ⟨_, _, fun_mk l16 c16 k16, PySem.W.mg_of X G a16, (fun_mk l16 c16 k16).binds (ps := ["_law_thing"]) fun _ _ _ _ _ _ us hl => match us, hl with | [_], _ => rfl⟩,
    f__law_is_set := ⟨_, _, fun_mk l17 c17 k17, PySem.W.mg_of X G a17, (fun_mk l17 c17 k17).binds (ps := ["_law_n", "_law_k", "_law_thing"]) fun _ _ _ _ _ _ us hl => match us, hl with | [_, _, _], _ => rfl⟩,
    f__law_sets := ⟨_, _, fun_mk l18 c18 k18, PySem.W.mg_of X G a18, (fun_mk l18 c18 k18).binds (ps := ["_law_n", "_law_k"]) fun _ _ _ _ _ _ us hl => match us, hl with | [_, _], _ => rfl⟩,
    f__law_row_good := ⟨_, _, fun_mk l19 c19 k19, PySem.W.mg_of X G a19, (fun_mk l19 c19 k19).binds (ps := ["_law_n", "_law_k", "_law_thing"]) fun _ _ _ _ _ _ us hl => match us, hl with | [_, _, _], _ => rfl⟩,
    f__law_ring_good := ⟨_, _, fun_mk l20 c20 k20, PySem.W.mg_of X G a20, (fun_mk l20 c20 k20).binds (ps := ["_law_n", "_law_k", "_law_thing"]) fun _ _ _ _ _ _ us hl => match us, hl with | [_, _, _], _ => rfl⟩,
    f__law_same := ⟨_, _, fun_mk l21 c21 k21, PySem.W.mg_of X G a21, (fun_mk l21 c21 k21).binds (ps := ["_law_found", "_law_due"]) fun _ _ _ _ _ _ us hl => match us, hl with | [_, _], _ => rfl⟩,
    f__law_through := ⟨_, _, fun_mk l22 c22 k22, PySem.W.mg_of X G a22, (fun_mk l22 c22 k22).binds (ps := ["_law_n", "_law_k", "_law_closed"]) fun _ _ _ _ _ _ us hl => match us, hl with | [_, _, _], _ => rfl⟩,
    f__law_right := ⟨_, _, fun_mk l23 c23 k23, PySem.W.mg_of X G a23, (fun_mk l23 c23 k23).binds (ps := ["_law_n", "_law_k"]) fun _ _ _ _ _ _ us hl => match us, hl with | [_, _], _ => rfl⟩,
    f__law_size := ⟨_, _, fun_mk l24 c24 k24, PySem.W.mg_of X G a24, (fun_mk l24 c24 k24).binds (ps := ["_law_pen_here"]) fun _ _ _ _ _ _ us hl => match us, hl with | [_], _ => rfl⟩,
    f_law := ⟨_, _, fun_mk l25 c25 k25, PySem.W.mg_of X G a25, (fun_mk l25 c25 k25).binds (ps := ["_law_script"]) fun _ _ _ _ _ _ us hl => match us, hl with | [_], _ => rfl⟩,
    m_ValueError := PySem.W.mg_none_of X G m_ValueError,
    m_all := PySem.W.mg_none_of X G m_all,
    m_any := PySem.W.mg_none_of X G m_any,
    m_bool := PySem.W.mg_none_of X G m_bool,
    m_int := PySem.W.mg_none_of X G m_int,
    m_isinstance := PySem.W.mg_none_of X G m_isinstance,
    m_len := PySem.W.mg_none_of X G m_len,
    m_list := PySem.W.mg_none_of X G m_list,
    m_max := PySem.W.mg_none_of X G m_max,
    m_range := PySem.W.mg_none_of X G m_range,
    m_set := PySem.W.mg_none_of X G m_set,
    m_sorted := PySem.W.mg_none_of X G m_sorted,
    m_str := PySem.W.mg_none_of X G m_str,
    m_sum := PySem.W.mg_none_of X G m_sum,
    m_tuple := PySem.W.mg_none_of X G m_tuple,
    m_zip := PySem.W.mg_none_of X G m_zip,
    c_MOST_POINTS := ⟨_, PySem.W.mg_of X G c_MOST_POINTS⟩,
    c_MOST_THROUGH := ⟨_, PySem.W.mg_of X G c_MOST_THROUGH⟩,
    x_MissError := ⟨_, PySem.W.mg_of X G n1_MissError⟩,
    e_TooGreat := ⟨D_TooGreat, fI, _, PySem.W.mg_of X G n1_TooGreat, ⟨⟨_, _, _, _, _, _, _, _, _, _, _, _, _, _, _, v1_, v2_⟩, v3_, v4_, n3_TooGreat, v5_⟩, v6_, v7_, fun_mk v8_ v9_ va_, (fun_mk v8_ v9_ va_).binds (ps := ["self", "many", "most"]) fun _ _ _ _ _ _ us hl => match us, hl with | [_, _, _], _ => rfl, vb_, vc_, fun dd fs i j H h1 h2 h3 => ⟨D_TooGreat, rfl, ⟨PySem.W.mg_of X G n1_TooGreat, ⟨f1_TooGreat, f2_TooGreat, v4_, n2_TooGreat, f3_TooGreat, g1_, g2_, f4_TooGreat⟩, kit_ve f5_TooGreat, List.forall_mem_cons.mpr ⟨⟨D_NoNumber, PySem.W.mg_of X G n1_NoNumber, kit_own (by decide) s_TooGreat_NoNumber s_TooGreat_TooGreat n2_NoNumber n3_NoNumber⟩, List.forall_mem_cons.mpr ⟨⟨D_NoSet, PySem.W.mg_of X G n1_NoSet, kit_own (by decide) s_TooGreat_NoSet s_TooGreat_TooGreat n2_NoSet n3_NoSet⟩, List.forall_mem_cons.mpr ⟨⟨D_NoHues, PySem.W.mg_of X G n1_NoHues, kit_own (by decide) s_TooGreat_NoHues s_TooGreat_TooGreat n2_NoHues n3_NoHues⟩, List.forall_mem_cons.mpr ⟨⟨D_NoLot, PySem.W.mg_of X G n1_NoLot, kit_own (by decide) s_TooGreat_NoLot s_TooGreat_TooGreat n2_NoLot n3_NoLot⟩, List.forall_mem_cons.mpr ⟨⟨D_NoMap, PySem.W.mg_of X G n1_NoMap, kit_own (by decide) s_TooGreat_NoMap s_TooGreat_TooGreat n2_NoMap n3_NoMap⟩, List.forall_mem_cons.mpr ⟨⟨D_NoTurn, PySem.W.mg_of X G n1_NoTurn, kit_own (by decide) s_TooGreat_NoTurn s_TooGreat_TooGreat n2_NoTurn n3_NoTurn⟩, List.forall_mem_cons.mpr ⟨⟨D_NoWeights, PySem.W.mg_of X G n1_NoWeights, kit_own (by decide) s_TooGreat_NoWeights s_TooGreat_TooGreat n2_NoWeights n3_NoWeights⟩, List.forall_mem_cons.mpr ⟨⟨D_NoRow, PySem.W.mg_of X G n1_NoRow, kit_own (by decide) s_TooGreat_NoRow s_TooGreat_TooGreat n2_NoRow n3_NoRow⟩, List.forall_mem_cons.mpr ⟨⟨D_NoText, PySem.W.mg_of X G n1_NoText, kit_own (by decide) s_TooGreat_NoText s_TooGreat_TooGreat n2_NoText n3_NoText⟩, List.forall_mem_cons.mpr ⟨⟨D_NoLine, PySem.W.mg_of X G n1_NoLine, kit_own (by decide) s_TooGreat_NoLine s_TooGreat_TooGreat n2_NoLine n3_NoLine⟩, List.forall_mem_cons.mpr ⟨⟨D_NoDeed, PySem.W.mg_of X G n1_NoDeed, kit_own (by decide) s_TooGreat_NoDeed s_TooGreat_TooGreat n2_NoDeed n3_NoDeed⟩, List.forall_mem_cons.mpr ⟨⟨D_TooGreat, PySem.W.mg_of X G n1_TooGreat, kit_own (by decide) s_TooGreat_TooGreat s_TooGreat_TooGreat n2_TooGreat n3_TooGreat⟩, fun _ h => absurd h List.not_mem_nil⟩⟩⟩⟩⟩⟩⟩⟩⟩⟩⟩⟩, em_mk (PySem.W.mg_of X G n1_MissError) g3_ n2_MissError n3_MissError f6_TooGreat⟩, .inr ⟨dd, fs, i, j, rfl, rfl, h1, h2, h3, vb_, vc_⟩⟩⟩,
    e_NoNumber := ⟨D_NoNumber, PySem.W.mg_of X G n1_NoNumber, e2_NoNumber, e3_NoNumber, e4_NoNumber, n3_NoNumber, fun _ => ⟨D_NoNumber, rfl, ⟨PySem.W.mg_of X G n1_NoNumber, ⟨f1_NoNumber, f2_NoNumber, e4_NoNumber, n2_NoNumber, f3_NoNumber, g1_, g2_, f4_NoNumber⟩, kit_ve f5_NoNumber, List.forall_mem_cons.mpr ⟨⟨D_NoNumber, PySem.W.mg_of X G n1_NoNumber, kit_own (by decide) s_NoNumber_NoNumber s_NoNumber_NoNumber n2_NoNumber n3_NoNumber⟩, List.forall_mem_cons.mpr ⟨⟨D_NoSet, PySem.W.mg_of X G n1_NoSet, kit_own (by decide) s_NoNumber_NoSet s_NoNumber_NoNumber n2_NoSet n3_NoSet⟩, List.forall_mem_cons.mpr ⟨⟨D_NoHues, PySem.W.mg_of X G n1_NoHues, kit_own (by decide) s_NoNumber_NoHues s_NoNumber_NoNumber n2_NoHues n3_NoHues⟩, List.forall_mem_cons.mpr ⟨⟨D_NoLot, PySem.W.mg_of X G n1_NoLot, kit_own (by decide) s_NoNumber_NoLot s_NoNumber_NoNumber n2_NoLot n3_NoLot⟩, List.forall_mem_cons.mpr ⟨⟨D_NoMap, PySem.W.mg_of X G n1_NoMap, kit_own (by decide) s_NoNumber_NoMap s_NoNumber_NoNumber n2_NoMap n3_NoMap⟩, List.forall_mem_cons.mpr ⟨⟨D_NoTurn, PySem.W.mg_of X G n1_NoTurn, kit_own (by decide) s_NoNumber_NoTurn s_NoNumber_NoNumber n2_NoTurn n3_NoTurn⟩, List.forall_mem_cons.mpr ⟨⟨D_NoWeights, PySem.W.mg_of X G n1_NoWeights, kit_own (by decide) s_NoNumber_NoWeights s_NoNumber_NoNumber n2_NoWeights n3_NoWeights⟩, List.forall_mem_cons.mpr ⟨⟨D_NoRow, PySem.W.mg_of X G n1_NoRow, kit_own (by decide) s_NoNumber_NoRow s_NoNumber_NoNumber n2_NoRow n3_NoRow⟩, List.forall_mem_cons.mpr ⟨⟨D_NoText, PySem.W.mg_of X G n1_NoText, kit_own (by decide) s_NoNumber_NoText s_NoNumber_NoNumber n2_NoText n3_NoText⟩, List.forall_mem_cons.mpr ⟨⟨D_NoLine, PySem.W.mg_of X G n1_NoLine, kit_own (by decide) s_NoNumber_NoLine s_NoNumber_NoNumber n2_NoLine n3_NoLine⟩, List.forall_mem_cons.mpr ⟨⟨D_NoDeed, PySem.W.mg_of X G n1_NoDeed, kit_own (by decide) s_NoNumber_NoDeed s_NoNumber_NoNumber n2_NoDeed n3_NoDeed⟩, List.forall_mem_cons.mpr ⟨⟨D_TooGreat, PySem.W.mg_of X G n1_TooGreat, kit_own (by decide) s_NoNumber_TooGreat s_NoNumber_NoNumber n2_TooGreat n3_TooGreat⟩, fun _ h => absurd h List.not_mem_nil⟩⟩⟩⟩⟩⟩⟩⟩⟩⟩⟩⟩, em_mk (PySem.W.mg_of X G n1_MissError) g3_ n2_MissError n3_MissError f6_NoNumber⟩, .inl ⟨rfl, rfl⟩⟩⟩ }
  exact ⟨_, [(cG6, pG6)], (exNT K mg [(pG6, (("gone_on" : Str) ++ ".<locals>.") ++ "<lambda>")]), List.forall_mem_cons.mpr ⟨u6_6, fun _ h => absurd h List.not_mem_nil⟩, List.forall_mem_cons.mpr ⟨u5_6, fun _ h => absurd h List.not_mem_nil⟩, List.forall_mem_cons.mpr ⟨PySem.W.codeHd_of_K X u4_6, fun _ h => absurd h List.not_mem_nil⟩, List.forall_mem_cons.mpr ⟨⟨(cG6, pG6), by simp, rfl⟩, fun _ h => absurd h List.not_mem_nil⟩, fun s v => .of_eq rfl, fun base h1 h2 TB => ok_law (T base h1 h2 TB) (fun_mk l25 c25 k25)⟩
end MP

/-! part p: plain readings of runs -/
namespace MS
open PySem PySem.Spec PyProof.Rows L2
def iN (n : Nat) : D := .int n
def tN (ns : List Nat) : D := .tuple (ns.map iN)
def tT (nss : List (List Nat)) : D := .tuple (nss.map tN)
def lT (nss : List (List Nat)) : D := .list (nss.map tN)
/-! data -/
theorem plain_iN (n : Nat) : (iN n).plain = true := (rfl)
theorem plain_iNs : ∀ ns : List Nat, PyData.plainAll (ns.map iN) = true
  | [] => rfl
  | n :: ns => by simp [PyData.plainAll, plain_iN, plain_iNs ns]
theorem plain_tN (ns : List Nat) : (tN ns).plain = true := by simp [tN, PyData.plain, plain_iNs]
theorem plain_tNs : ∀ nss : List (List Nat), PyData.plainAll (nss.map tN) = true
  | [] => rfl
  | n :: ns => by simp [PyData.plainAll, plain_tN, plain_tNs ns]
theorem depth_iN (n : Nat) : (iN n).depth = 0 := (rfl)
theorem depth_iNs : ∀ ns : List Nat, PyData.depthAll (ns.map iN) ≤ 1
  | [] => by decide
  | n :: ns => by
    have := depth_iNs ns
    simp only [List.map_cons, PyData.depthAll, depth_iN]
    omega
theorem depth_tN (ns : List Nat) : (tN ns).depth ≤ 2 := by
  have := depth_iNs ns
  simp only [tN, PyData.depth]
  omega
theorem depth_tNs : ∀ nss : List (List Nat), PyData.depthAll (nss.map tN) ≤ 3
  | [] => by decide
  | n :: ns => by
    have := depth_tNs ns
    have := depth_tN n
    simp only [List.map_cons, PyData.depthAll]
    omega
theorem eqv_iN (a b : Nat) : PyData.eqv (iN a) (iN b) = (a == b) := by
  show ((a : Int) == (b : Int)) = (a == b)
  rw [Bool.eq_iff_iff, beq_iff_eq, beq_iff_eq]
  omega
theorem eqv_iNs : ∀ a b : List Nat, PyData.eqvAll (a.map iN) (b.map iN) = (a == b)
  | [], [] => rfl
  | [], _ :: _ => rfl
  | _ :: _, [] => rfl
  | x :: a, y :: b => by simp [PyData.eqvAll, eqv_iN, eqv_iNs a b]
theorem eqv_tN (a b : List Nat) : PyData.eqv (tN a) (tN b) = (a == b) := eqv_iNs a b
theorem eqv_tNs : ∀ a b : List (List Nat), PyData.eqvAll (a.map tN) (b.map tN) = (a == b)
  | [], [] => rfl
  | [], _ :: _ => rfl
  | _ :: _, [] => rfl
  | x :: a, y :: b => by simp [PyData.eqvAll, eqv_tN, eqv_tNs a b]
theorem inD_i (n : Nat) (ns : List Nat) : inD (iN n) (tN ns) = some (.fz (.bool (ns.contains n))) := by
  have h := depth_iNs ns
  simp only [inD, inB, tN, plain_iNs, plain_iN, depth_iN, true_and]
  rw [if_pos (by omega)]
  simp only [Option.map_some, List.any_map, List.contains_eq_any_beq]
  congr 4
  funext x
  rw [show ((fun y => PyData.eqv y (iN n)) ∘ iN) x = PyData.eqv (iN x) (iN n) from rfl, eqv_iN]
  rw [Bool.eq_iff_iff, beq_iff_eq, beq_iff_eq]
  exact eq_comm
theorem eqD_nil (ds : List D) (h : PyData.plainAll ds = true) : eqD (.list ds) (.list []) = some (.fz (.bool ds.isEmpty)) := by
  have e : eqOk (.list ds) (.list []) = true := by
    simp only [eqOk, Bool.and_eq_true, decide_eq_true_eq]
    exact ⟨⟨by simpa [PyData.plain] using h, rfl⟩, Nat.le_trans (Nat.min_le_right _ _) (by decide)⟩
  unfold eqD
  rw [if_pos e]
  cases ds <;> rfl
/-! loops -/
def stepOk (t : D → M Unit) (test : M Bool) (elt : M Val) (vs : List Nat) (R : List Val) (d : D) (o : Option D) : Prop := match t d R with
  | .ok _ r1 => match test r1 with
    | .ok true r2 => match frz elt r2 with
      | .ok e r3 => o = some e ∧ wipeR r3 vs = R
      | _ => False
    | .ok false r2 => o = none ∧ wipeR r2 vs = R
    | _ => False
  | _ => False
theorem lcL_fm {t : D → M Unit} {test : M Bool} {elt : M Val} {vs : List Nat} {R : List Val} {α : Type} (f : α → D) (g : α → Option D) : ∀ {xs : List α}, (∀ x ∈ xs, stepOk t test elt vs R (f x) (g x)) → lcL t test elt vs (xs.map f) R = .ok (xs.filterMap g) R
  | [], _ => rfl
  | x :: xs, h => by
    have hx := h x List.mem_cons_self
    have ih := lcL_fm f g (xs := xs) fun y hy => h y (List.mem_cons_of_mem _ hy)
    rw [List.map_cons]
    unfold lcL
    unfold stepOk at hx
    revert hx
    cases t (f x) R with
    | exc c ds r => exact fun h => h.elim
    | err => exact fun h => h.elim
    | ok u r1 =>
      simp only
      cases test r1 with
      | exc c ds r => exact fun h => h.elim
      | err => exact fun h => h.elim
      | ok b r2 =>
        cases b with
        | false =>
          intro ⟨e1, e2⟩
          simp only [e2, ih, List.filterMap_cons, e1]
        | true =>
          simp only
          cases frz elt r2 with
          | exc c ds r => exact fun h => h.elim
          | err => exact fun h => h.elim
          | ok e r3 =>
            intro ⟨e1, e2⟩
            simp only [e2, ih, List.filterMap_cons, e1]
/-- a comprehension over encoded items -/
theorem eLc_fm {im : M (List D)} {t : D → M Unit} {test : M Bool} {elt : M Val} {vs : List Nat} {r r0 : List Val} {α : Type} {xs : List α} (f : α → D) (g : α → Option D) (hi : im r = .ok (xs.map f) r0) (hl : xs.length ≤ LINE) (hh : hid r0 vs = true) (hr : restR (wipeR r0 vs) r0 vs = r0) (hs : ∀ x ∈ xs, stepOk t test elt vs (wipeR r0 vs) (f x) (g x)) :
    eLc vs im t test elt r = .ok (.ol (xs.filterMap g)) r0 := by
  unfold eLc M.bind
  rw [hi]
  simp only
  rw [if_pos ⟨hh, by rw [List.length_map]; exact hl⟩, lcL_fm f g hs]
  simp only [hr]
/-- a loop that goes on to its end -/
theorem forL_fold {t : D → M Unit} {body : M Fl} {α S : Type} (f : α → D) (enc : S → List Val) (step : α → S → S) : ∀ {xs : List α} {s : S}, (∀ x ∈ xs, ∀ s, ∃ r1, t (f x) (enc s) = .ok () r1 ∧ body r1 = .ok .nx (enc (step x s))) → forL t body (xs.map f) (enc s) = .ok .nx (enc (xs.foldl (fun s x => step x s) s))
  | [], s, _ => rfl
  | x :: xs, s, h => by
    obtain ⟨r1, e1, e2⟩ := h x List.mem_cons_self s
    rw [List.map_cons, forL_cons, e1]
    simp only [e2]
    exact forL_fold f enc step fun y hy => h y (List.mem_cons_of_mem _ hy)

/-! runs on slots that stand written out: simp goes through -/
section
variable {α β : Type}
@[simp] theorem x_ret (a : α) (r : List Val) : M.ret a r = .ok a r := (rfl)
@[simp] theorem x_bind (m : M α) (k : α → M β) (r : List Val) : M.bind m k r = (match m r with
  | .ok a r' => k a r'
  | .exc c ds r' => .exc c ds r'
  | .err => .err) := (rfl)
@[simp] theorem x_sSeq (a b : M Fl) (r : List Val) : sSeq a b r = (match a r with
  | .ok .nx r' => b r'
  | .ok f r' => .ok f r'
  | .exc c ds r' => .exc c ds r'
  | .err => .err) := by
  unfold sSeq M.bind
  cases a r with
  | ok f r' => cases f <;> rfl
  | exc c ds r' => rfl
  | err => rfl
@[simp] theorem x_sIf (c : M Bool) (a b : M Fl) (r : List Val) : sIf c a b r = (match c r with
  | .ok true r' => a r'
  | .ok false r' => b r'
  | .exc c ds r' => .exc c ds r'
  | .err => .err) := by
  unfold sIf M.bind
  cases c r with
  | ok f r' => cases f <;> rfl
  | exc c ds r' => rfl
  | err => rfl
@[simp] theorem x_sNil (r : List Val) : sNil r = .ok .nx r := (rfl)
@[simp] theorem x_sSet (i : Nat) (m : M Val) (r : List Val) : sSet i m r = (match m r with
  | .ok v r' => .ok .nx (r'.set i v)
  | .exc c ds r' => .exc c ds r'
  | .err => .err) := by
  unfold sSet M.bind
  cases m r <;> rfl
@[simp] theorem x_sDrop (m : M Val) (r : List Val) : sDrop m r = (match m r with
  | .ok _ r' => .ok .nx r'
  | .exc c ds r' => .exc c ds r'
  | .err => .err) := by
  unfold sDrop M.bind
  cases m r <;> rfl
@[simp] theorem x_sRet (m : M Val) (r : List Val) : sRet m r = (match m r with
  | .ok v r' => .ok (.rt v) r'
  | .exc c ds r' => .exc c ds r'
  | .err => .err) := by
  unfold sRet M.bind
  cases m r <;> rfl
@[simp] theorem x_tgN (i : Nat) (d : D) (r : List Val) : tgN i d r = .ok () (r.set i (.fz d)) := (rfl)
@[simp] theorem x_tgT (ts : List (D → M Unit)) (ds : List D) (r : List Val) : tgT ts (.tuple ds) r = tgs ts ds r := (rfl)
@[simp] theorem x_tgs0 (r : List Val) : tgs [] [] r = .ok () r := (rfl)
@[simp] theorem x_tgs1 (t : D → M Unit) (ts : List (D → M Unit)) (d : D) (ds : List D) (r : List Val) : tgs (t :: ts) (d :: ds) r = (match t d r with
  | .ok _ r' => tgs ts ds r'
  | .exc c ds r' => .exc c ds r'
  | .err => .err) := by
  show M.bind (t d) (fun _ => tgs ts ds) r = _
  unfold M.bind
  cases t d r <;> rfl
@[simp] theorem x_sAsg (t : D → M Unit) (m : M Val) (r : List Val) : sAsg t m r = (match frz m r with
  | .ok d r1 => (match t d r1 with
    | .ok _ r' => .ok .nx r'
    | _ => .err)
  | .exc c ds r' => .exc c ds r'
  | .err => .err) := by
  unfold sAsg M.bind
  cases frz m r <;> rfl
@[simp] theorem x_sFor (t : D → M Unit) (im : M (List D)) (body : M Fl) (r : List Val) : sFor t im body r = (match im r with
  | .ok items r' => forL t body items r'
  | .exc c ds r' => .exc c ds r'
  | .err => .err) := by
  unfold sFor M.bind
  cases im r <;> rfl
@[simp] theorem x_frz (m : M Val) (r : List Val) : frz m r = (match m r with
  | .ok (.fz d) r' => .ok d r'
  | .ok (.ol xs) r' => .ok (.list xs) r'
  | .ok (.od es) r' => .ok (.dict es) r'
  | .ok .un _ => .err
  | .ok (.ow _) _ => .err
  | .exc c ds r' => .exc c ds r'
  | .err => .err) := (rfl)
@[simp] theorem x_iSeq (m : M Val) (r : List Val) : iSeq m r = (match frz m r with
  | .ok (.list xs) r' => .ok xs r'
  | .ok (.tuple xs) r' => .ok xs r'
  | .ok _ _ => .err
  | .exc c ds r' => .exc c ds r'
  | .err => .err) := (rfl)
@[simp] theorem x_iR1 (o : Opd) (r : List Val) : iR1 o r = (match ev1 o r with
  | .ok (.int j) r' => if smI j = true then .ok (rangeD 0 j) r' else .err
  | .ok _ _ => .err
  | .exc c ds r' => .exc c ds r'
  | .err => .err) := (rfl)
@[simp] theorem x_iR2 (a b : Opd) (r : List Val) : iR2 a b r = (match ev2 a b r with
  | .ok (.int i, .int j) r' => if (smI i && smI j) = true then .ok (rangeD i j) r' else .err
  | .ok _ _ => .err
  | .exc c ds r' => .exc c ds r'
  | .err => .err) := (rfl)
@[simp] theorem x_iApp (f : List D → Option (List D)) (ms : List (M Val)) (r : List Val) : iApp f ms r = (match vals ms r with
  | .ok ds r' => (match f ds with
    | some ys => .ok ys r'
    | none => .err)
  | .exc c ds r' => .exc c ds r'
  | .err => .err) := by
  unfold iApp M.bind
  cases vals ms r <;> rfl
@[simp] theorem x_eK (d : D) (r : List Val) : eK d r = .ok (.fz d) r := (rfl)
@[simp] theorem x_eRd (i : Nat) (r : List Val) : eRd i r = (match r[i]? with
  | some (.fz d) => .ok (.fz d) r
  | some (.ol xs) => .ok (.fz (.list xs)) (r.set i (.fz (.list xs)))
  | some (.od es) => .ok (.fz (.dict es)) (r.set i (.fz (.dict es)))
  | _ => .err) := (rfl)
@[simp] theorem x_eMv (i : Nat) (r : List Val) : eMv i r = (match r[i]? with
  | some (.fz d) => .ok (.fz d) r
  | some (.ol xs) => .ok (.ol xs) (r.set i .un)
  | some (.od es) => .ok (.od es) (r.set i .un)
  | some (.ow t) => .ok (.ow t) (r.set i .un)
  | _ => .err) := (rfl)
@[simp] theorem x_bin (f : D → D → Option Val) (a b : Opd) (r : List Val) : bin f a b r = (match ev2 a b r with
  | .ok (d, e) r' => (match f d e with
    | some v => .ok v r'
    | none => .err)
  | .exc c ds r' => .exc c ds r'
  | .err => .err) := (rfl)
@[simp] theorem x_una (f : D → Option Val) (a : Opd) (r : List Val) : una f a r = (match ev1 a r with
  | .ok d r' => (match f d with
    | some v => .ok v r'
    | none => .err)
  | .exc c ds r' => .exc c ds r'
  | .err => .err) := (rfl)
@[simp] theorem x_app (f : List D → Option Val) (os : List Opd) (r : List Val) : app f os r = (match evs os r with
  | .ok ds r' => (match f ds with
    | some v => .ok v r'
    | none => .err)
  | .exc c ds r' => .exc c ds r'
  | .err => .err) := (rfl)
@[simp] theorem x_isi (T : String) (o : Opd) (r : List Val) : eIsi T o r = (match ev1 o r with
  | .ok d r' => (match isiD T d with
    | some v => .ok v r'
    | none => .err)
  | .exc c ds r' => .exc c ds r'
  | .err => .err) := (rfl)
@[simp] theorem x_ev1 (o : Opd) (r : List Val) : ev1 o r = o.pre r := (rfl)
@[simp] theorem x_ev2 (a b : Opd) (r : List Val) : ev2 a b r = (match a.pre r with
  | .ok d r1 => (match b.pre r1 with
    | .ok e r2 => (match a.look d r2 with
      | some d' => .ok (d', e) r2
      | none => .err)
    | .exc c ds r' => .exc c ds r'
    | .err => .err)
  | .exc c ds r' => .exc c ds r'
  | .err => .err) := (rfl)
@[simp] theorem x_evs (os : List Opd) (r : List Val) : evs os r = (match pres os r with
  | .ok ds r' => (match looks os ds r' with
    | some es => .ok es r'
    | none => .err)
  | .exc c ds r' => .exc c ds r'
  | .err => .err) := (rfl)
@[simp] theorem x_pres0 (r : List Val) : pres [] r = .ok [] r := (rfl)
@[simp] theorem x_pres1 (o : Opd) (os : List Opd) (r : List Val) : pres (o :: os) r = (match o.pre r with
  | .ok d r1 => (match pres os r1 with
    | .ok ds r2 => .ok (d :: ds) r2
    | .exc c ds r' => .exc c ds r'
    | .err => .err)
  | .exc c ds r' => .exc c ds r'
  | .err => .err) := by
  show M.bind o.pre (fun d => M.bind (pres os) fun ds => M.ret (d :: ds)) r = _
  unfold M.bind
  cases o.pre r with
  | ok d r1 =>
    simp only
    cases pres os r1 <;> rfl
  | exc c ds r' => rfl
  | err => rfl
@[simp] theorem x_looks0 (r : List Val) : looks [] [] r = some [] := (rfl)
@[simp] theorem x_looks1 (o : Opd) (os : List Opd) (d : D) (ds : List D) (r : List Val) : looks (o :: os) (d :: ds) r = (match o.look d r with
  | some e => (looks os ds r).map (e :: ·)
  | none => none) := (rfl)
@[simp] theorem x_preS (i : Nat) (r : List Val) : (Opd.sl i).pre r = (match slotD r i with
  | some d => .ok d r
  | none => .err) := (rfl)
@[simp] theorem x_preV (m : M Val) (r : List Val) : (Opd.v m).pre r = frz m r := (rfl)
@[simp] theorem x_lookS (i : Nat) (d : D) (r : List Val) : (Opd.sl i).look d r = slotD r i := (rfl)
@[simp] theorem x_lookV (m : M Val) (d : D) (r : List Val) : (Opd.v m).look d r = some d := (rfl)
@[simp] theorem x_slotD (r : List Val) (i : Nat) : slotD r i = (match r[i]? with
  | some (.fz d) => some d
  | some (.ol xs) => some (.list xs)
  | some (.od es) => some (.dict es)
  | some (.ow (.nl xss)) => some (.list (xss.map PyData.list))
  | _ => none) := (rfl)
@[simp] theorem x_vals0 (r : List Val) : vals [] r = .ok [] r := (rfl)
@[simp] theorem x_vals1 (m : M Val) (ms : List (M Val)) (r : List Val) : vals (m :: ms) r = (match frz m r with
  | .ok d r1 => (match vals ms r1 with
    | .ok ds r2 => .ok (d :: ds) r2
    | .exc c ds r' => .exc c ds r'
    | .err => .err)
  | .exc c ds r' => .exc c ds r'
  | .err => .err) := by
  show M.bind (frz m) (fun d => M.bind (vals ms) fun ds => M.ret (d :: ds)) r = _
  unfold M.bind
  cases frz m r with
  | ok d r1 =>
    simp only
    cases vals ms r1 <;> rfl
  | exc c ds r' => rfl
  | err => rfl
@[simp] theorem x_eTup (ms : List (M Val)) (r : List Val) : eTup ms r = (match vals ms r with
  | .ok ds r' => .ok (.fz (.tuple ds)) r'
  | .exc c ds r' => .exc c ds r'
  | .err => .err) := by
  unfold eTup M.bind
  cases vals ms r <;> rfl
@[simp] theorem x_eLst (ms : List (M Val)) (r : List Val) : eLst ms r = (match vals ms r with
  | .ok ds r' => .ok (.ol ds) r'
  | .exc c ds r' => .exc c ds r'
  | .err => .err) := by
  unfold eLst M.bind
  cases vals ms r <;> rfl
@[simp] theorem x_asB (m : M Val) (r : List Val) : asB m r = (match m r with
  | .ok (.fz (.bool b)) r' => .ok b r'
  | .ok _ _ => .err
  | .exc c ds r' => .exc c ds r'
  | .err => .err) := (rfl)
@[simp] theorem x_eAnd (a b : M Val) (r : List Val) : eAnd a b r = (match asB a r with
  | .ok true r' => b r'
  | .ok false r' => .ok (.fz (.bool false)) r'
  | .exc c ds r' => .exc c ds r'
  | .err => .err) := by
  unfold eAnd M.bind
  cases asB a r with
  | ok f r' => cases f <;> rfl
  | exc c ds r' => rfl
  | err => rfl
@[simp] theorem x_eOr (a b : M Val) (r : List Val) : eOr a b r = (match asB a r with
  | .ok true r' => .ok (.fz (.bool true)) r'
  | .ok false r' => b r'
  | .exc c ds r' => .exc c ds r'
  | .err => .err) := by
  unfold eOr M.bind
  cases asB a r with
  | ok f r' => cases f <;> rfl
  | exc c ds r' => rfl
  | err => rfl
@[simp] theorem x_eNot (a : M Val) (r : List Val) : eNot a r = (match asB a r with
  | .ok c r' => .ok (.fz (.bool !c)) r'
  | .exc c ds r' => .exc c ds r'
  | .err => .err) := by
  unfold eNot M.bind
  cases asB a r <;> rfl
@[simp] theorem x_tAnd (a b : M Bool) (r : List Val) : tAndM a b r = (match a r with
  | .ok true r' => b r'
  | .ok false r' => .ok false r'
  | .exc c ds r' => .exc c ds r'
  | .err => .err) := by
  unfold tAndM M.bind
  cases a r with
  | ok f r' => cases f <;> rfl
  | exc c ds r' => rfl
  | err => rfl
@[simp] theorem x_tOr (a b : M Bool) (r : List Val) : tOrM a b r = (match a r with
  | .ok true r' => .ok true r'
  | .ok false r' => b r'
  | .exc c ds r' => .exc c ds r'
  | .err => .err) := by
  unfold tOrM M.bind
  cases a r with
  | ok f r' => cases f <;> rfl
  | exc c ds r' => rfl
  | err => rfl
@[simp] theorem x_tNot (a : M Bool) (r : List Val) : tNotM a r = (match a r with
  | .ok c r' => .ok (!c) r'
  | .exc c ds r' => .exc c ds r'
  | .err => .err) := by
  unfold tNotM M.bind
  cases a r <;> rfl
@[simp] theorem x_tTrue (r : List Val) : tTrue r = .ok true r := (rfl)
@[simp] theorem x_eIf (c : M Bool) (a b : M Val) (r : List Val) : eIf c a b r = (match c r with
  | .ok true r' => a r'
  | .ok false r' => b r'
  | .exc c ds r' => .exc c ds r'
  | .err => .err) := by
  unfold eIf M.bind
  cases c r with
  | ok f r' => cases f <;> rfl
  | exc c ds r' => rfl
  | err => rfl
@[simp] theorem x_callV (g : Fn) (ms : List (M Val)) (r : List Val) : callV g ms r = (match vals ms r with
  | .ok ds r' => (match g (ds.map .fz) with
    | .ok v _ => .ok v r'
    | .exc c es _ => .exc c es r'
    | .err => .err)
  | .exc c ds r' => .exc c ds r'
  | .err => .err) := by
  unfold callV M.bind
  cases vals ms r <;> rfl
@[simp] theorem x_sRaise (nm : String) (r : List Val) : sRaise nm r = .exc nm [] r := (rfl)
@[simp] theorem x_eSl (f : D → Option Int → Option Int → Option Val) (o : Opd) (lo hi : Option (M Val)) (r : List Val) : eSl f o lo hi r = (match o.pre r with
  | .ok d r1 => (match pt1 lo r1 with
    | .ok l r2 => (match pt1 hi r2 with
      | .ok h r3 => (match o.look d r3 with
        | some e => (match f e l h with
          | some v => .ok v r3
          | none => .err)
        | none => .err)
      | .exc c ds r' => .exc c ds r'
      | .err => .err)
    | .exc c ds r' => .exc c ds r'
    | .err => .err)
  | .exc c ds r' => .exc c ds r'
  | .err => .err) := (rfl)
@[simp] theorem x_pt0 (r : List Val) : pt1 none r = .ok none r := (rfl)
@[simp] theorem x_pt1 (m : M Val) (r : List Val) : pt1 (some m) r = (match frz m r with
  | .ok (.int i) r' => .ok (some i) r'
  | .ok _ _ => .err
  | .exc c ds r' => .exc c ds r'
  | .err => .err) := (rfl)
@[simp] theorem x_chain (f g : D → D → Option Val) (a b c : Opd) (r : List Val) : eChain f g a b c r = (match ev2 a b r with
  | .ok (d, e) r1 => (match f d e with
    | some (.fz (.bool true)) => (match c.pre r1 with
      | .ok k r2 => (match b.look e r2 with
        | some e' => (match g e' k with
          | some v => .ok v r2
          | none => .err)
        | none => .err)
      | .exc c ds r' => .exc c ds r'
      | .err => .err)
    | some (.fz (.bool false)) => .ok (.fz (.bool false)) r1
    | _ => .err)
  | .exc c ds r' => .exc c ds r'
  | .err => .err) := (rfl)
@[simp] theorem x_eSumL (m : M Val) (r : List Val) : eSumL m r = (match vals [m] r with
  | .ok ds r' => (match sumLD ds with
    | some ys => .ok (.ol ys) r'
    | none => .err)
  | .exc c ds r' => .exc c ds r'
  | .err => .err) := by
  unfold eSumL M.bind
  cases vals [m] r <;> rfl
@[simp] theorem x_wipe0 (r : List Val) : wipeR r [] = r := (rfl)
@[simp] theorem x_wipe1 (r : List Val) (v : Nat) (vs : List Nat) : wipeR r (v :: vs) = (wipeR r vs).set v .un := (rfl)
@[simp] theorem x_rest0 (r r0 : List Val) : restR r r0 [] = r := (rfl)
@[simp] theorem x_rest1 (r r0 : List Val) (v : Nat) (vs : List Nat) : restR r r0 (v :: vs) = restR (r.set v (r0.getD v .un)) r0 vs := (rfl)
@[simp] theorem x_own0 : Val.un.own = false := (rfl)
@[simp] theorem x_own1 (d : D) : (Val.fz d).own = false := (rfl)
@[simp] theorem x_fl0 (ts : D → M Unit) (body : M Fl) (r : List Val) : forL ts body [] r = .ok .nx r := (rfl)
end
/-- what a def of value arguments answers -/
theorem runF_eq (n np : Nat) (B : List Nat) (body : M Fl) (args : List Val) : runF n np B body args = if args.length = np then match body (args ++ List.replicate (n - np) .un) with
    | .ok (.rt v) r' => .ok v (outsF B np r')
    | .ok .nx r' => .ok (.fz .none) (outsF B np r')
    | .ok _ _ => .err
    | .exc c ds r' => .exc c ds (outsF B np r')
    | .err => .err
  else .err := (rfl)
theorem eLc_fo {im : M (List D)} {t : D → M Unit} {test : M Bool} {elt : M Val} {vs : List Nat} {r r0 : List Val} {α : Type} {xs : List α} (f : α → D) (keep : α → Bool) (out : α → D) (hi : im r = .ok (xs.map f) r0) (hl : xs.length ≤ LINE) (hh : hid r0 vs = true) (hr : restR (wipeR r0 vs) r0 vs = r0) (hs : ∀ x ∈ xs, stepOk t test elt vs (wipeR r0 vs) (f x) (if keep x = true then some (out x) else none)) :
    eLc vs im t test elt r = .ok (.ol ((xs.filter keep).map out)) r0 := by
  rw [eLc_fm f _ hi hl hh hr hs]
  congr 2
  induction xs with
  | nil => rfl
  | cons x xs ih =>
    clear hi hl hs
    have : ∀ ys : List α, ys.filterMap (fun x => if keep x = true then some (out x) else none) = (ys.filter keep).map out := fun ys => by
      induction ys with
      | nil => rfl
      | cons y ys ih =>
        rw [List.filterMap_cons, List.filter_cons]
        cases keep y <;> simp [ih]
    exact this _
end MS

/-! part q: plain readings of operations -/
namespace MS
open PySem
@[simp] theorem isi_int_none  : isiD "int" .none = some (.fz (.bool false)) := by
  show (L2.kitB "NoneType" "int").map _ = _
  rw [show L2.kitB "NoneType" "int" = some false from by decide +kernel]
  rfl
@[simp] theorem isi_int_bool (x : Bool) : isiD "int" (.bool x) = some (.fz (.bool true)) := by
  show (L2.kitB "bool" "int").map _ = _
  rw [show L2.kitB "bool" "int" = some true from by decide +kernel]
  rfl
@[simp] theorem isi_int_int (x : Int) : isiD "int" (.int x) = some (.fz (.bool true)) := by
  show (L2.kitB "int" "int").map _ = _
  rw [show L2.kitB "int" "int" = some true from by decide +kernel]
  rfl
@[simp] theorem isi_int_str (x : Str) : isiD "int" (.str x) = some (.fz (.bool false)) := by
  show (L2.kitB "str" "int").map _ = _
  rw [show L2.kitB "str" "int" = some false from by decide +kernel]
  rfl
@[simp] theorem isi_int_list (x : List D) : isiD "int" (.list x) = some (.fz (.bool false)) := by
  show (L2.kitB "list" "int").map _ = _
  rw [show L2.kitB "list" "int" = some false from by decide +kernel]
  rfl
@[simp] theorem isi_int_tuple (x : List D) : isiD "int" (.tuple x) = some (.fz (.bool false)) := by
  show (L2.kitB "tuple" "int").map _ = _
  rw [show L2.kitB "tuple" "int" = some false from by decide +kernel]
  rfl
@[simp] theorem isi_int_dict (x : List (D × D)) : isiD "int" (.dict x) = some (.fz (.bool false)) := by
  show (L2.kitB "dict" "int").map _ = _
  rw [show L2.kitB "dict" "int" = some false from by decide +kernel]
  rfl
@[simp] theorem isi_bool_none  : isiD "bool" .none = some (.fz (.bool false)) := by
  show (L2.kitB "NoneType" "bool").map _ = _
  rw [show L2.kitB "NoneType" "bool" = some false from by decide +kernel]
  rfl
@[simp] theorem isi_bool_bool (x : Bool) : isiD "bool" (.bool x) = some (.fz (.bool true)) := by
  show (L2.kitB "bool" "bool").map _ = _
  rw [show L2.kitB "bool" "bool" = some true from by decide +kernel]
  rfl
@[simp] theorem isi_bool_int (x : Int) : isiD "bool" (.int x) = some (.fz (.bool false)) := by
  show (L2.kitB "int" "bool").map _ = _
  rw [show L2.kitB "int" "bool" = some false from by decide +kernel]
  rfl
@[simp] theorem isi_bool_str (x : Str) : isiD "bool" (.str x) = some (.fz (.bool false)) := by
  show (L2.kitB "str" "bool").map _ = _
  rw [show L2.kitB "str" "bool" = some false from by decide +kernel]
  rfl
@[simp] theorem isi_bool_list (x : List D) : isiD "bool" (.list x) = some (.fz (.bool false)) := by
  show (L2.kitB "list" "bool").map _ = _
  rw [show L2.kitB "list" "bool" = some false from by decide +kernel]
  rfl
@[simp] theorem isi_bool_tuple (x : List D) : isiD "bool" (.tuple x) = some (.fz (.bool false)) := by
  show (L2.kitB "tuple" "bool").map _ = _
  rw [show L2.kitB "tuple" "bool" = some false from by decide +kernel]
  rfl
@[simp] theorem isi_bool_dict (x : List (D × D)) : isiD "bool" (.dict x) = some (.fz (.bool false)) := by
  show (L2.kitB "dict" "bool").map _ = _
  rw [show L2.kitB "dict" "bool" = some false from by decide +kernel]
  rfl
@[simp] theorem isi_tuple_none  : isiD "tuple" .none = some (.fz (.bool false)) := by
  show (L2.kitB "NoneType" "tuple").map _ = _
  rw [show L2.kitB "NoneType" "tuple" = some false from by decide +kernel]
  rfl
@[simp] theorem isi_tuple_bool (x : Bool) : isiD "tuple" (.bool x) = some (.fz (.bool false)) := by
  show (L2.kitB "bool" "tuple").map _ = _
  rw [show L2.kitB "bool" "tuple" = some false from by decide +kernel]
  rfl
@[simp] theorem isi_tuple_int (x : Int) : isiD "tuple" (.int x) = some (.fz (.bool false)) := by
  show (L2.kitB "int" "tuple").map _ = _
  rw [show L2.kitB "int" "tuple" = some false from by decide +kernel]
  rfl
@[simp] theorem isi_tuple_str (x : Str) : isiD "tuple" (.str x) = some (.fz (.bool false)) := by
  show (L2.kitB "str" "tuple").map _ = _
  rw [show L2.kitB "str" "tuple" = some false from by decide +kernel]
  rfl
@[simp] theorem isi_tuple_list (x : List D) : isiD "tuple" (.list x) = some (.fz (.bool false)) := by
  show (L2.kitB "list" "tuple").map _ = _
  rw [show L2.kitB "list" "tuple" = some false from by decide +kernel]
  rfl
@[simp] theorem isi_tuple_tuple (x : List D) : isiD "tuple" (.tuple x) = some (.fz (.bool true)) := by
  show (L2.kitB "tuple" "tuple").map _ = _
  rw [show L2.kitB "tuple" "tuple" = some true from by decide +kernel]
  rfl
@[simp] theorem isi_tuple_dict (x : List (D × D)) : isiD "tuple" (.dict x) = some (.fz (.bool false)) := by
  show (L2.kitB "dict" "tuple").map _ = _
  rw [show L2.kitB "dict" "tuple" = some false from by decide +kernel]
  rfl
@[simp] theorem isi_list_none  : isiD "list" .none = some (.fz (.bool false)) := by
  show (L2.kitB "NoneType" "list").map _ = _
  rw [show L2.kitB "NoneType" "list" = some false from by decide +kernel]
  rfl
@[simp] theorem isi_list_bool (x : Bool) : isiD "list" (.bool x) = some (.fz (.bool false)) := by
  show (L2.kitB "bool" "list").map _ = _
  rw [show L2.kitB "bool" "list" = some false from by decide +kernel]
  rfl
@[simp] theorem isi_list_int (x : Int) : isiD "list" (.int x) = some (.fz (.bool false)) := by
  show (L2.kitB "int" "list").map _ = _
  rw [show L2.kitB "int" "list" = some false from by decide +kernel]
  rfl
@[simp] theorem isi_list_str (x : Str) : isiD "list" (.str x) = some (.fz (.bool false)) := by
  show (L2.kitB "str" "list").map _ = _
  rw [show L2.kitB "str" "list" = some false from by decide +kernel]
  rfl
@[simp] theorem isi_list_list (x : List D) : isiD "list" (.list x) = some (.fz (.bool true)) := by
  show (L2.kitB "list" "list").map _ = _
  rw [show L2.kitB "list" "list" = some true from by decide +kernel]
  rfl
@[simp] theorem isi_list_tuple (x : List D) : isiD "list" (.tuple x) = some (.fz (.bool false)) := by
  show (L2.kitB "tuple" "list").map _ = _
  rw [show L2.kitB "tuple" "list" = some false from by decide +kernel]
  rfl
@[simp] theorem isi_list_dict (x : List (D × D)) : isiD "list" (.dict x) = some (.fz (.bool false)) := by
  show (L2.kitB "dict" "list").map _ = _
  rw [show L2.kitB "dict" "list" = some false from by decide +kernel]
  rfl
@[simp] theorem isi_str_none  : isiD "str" .none = some (.fz (.bool false)) := by
  show (L2.kitB "NoneType" "str").map _ = _
  rw [show L2.kitB "NoneType" "str" = some false from by decide +kernel]
  rfl
@[simp] theorem isi_str_bool (x : Bool) : isiD "str" (.bool x) = some (.fz (.bool false)) := by
  show (L2.kitB "bool" "str").map _ = _
  rw [show L2.kitB "bool" "str" = some false from by decide +kernel]
  rfl
@[simp] theorem isi_str_int (x : Int) : isiD "str" (.int x) = some (.fz (.bool false)) := by
  show (L2.kitB "int" "str").map _ = _
  rw [show L2.kitB "int" "str" = some false from by decide +kernel]
  rfl
@[simp] theorem isi_str_str (x : Str) : isiD "str" (.str x) = some (.fz (.bool true)) := by
  show (L2.kitB "str" "str").map _ = _
  rw [show L2.kitB "str" "str" = some true from by decide +kernel]
  rfl
@[simp] theorem isi_str_list (x : List D) : isiD "str" (.list x) = some (.fz (.bool false)) := by
  show (L2.kitB "list" "str").map _ = _
  rw [show L2.kitB "list" "str" = some false from by decide +kernel]
  rfl
@[simp] theorem isi_str_tuple (x : List D) : isiD "str" (.tuple x) = some (.fz (.bool false)) := by
  show (L2.kitB "tuple" "str").map _ = _
  rw [show L2.kitB "tuple" "str" = some false from by decide +kernel]
  rfl
@[simp] theorem isi_str_dict (x : List (D × D)) : isiD "str" (.dict x) = some (.fz (.bool false)) := by
  show (L2.kitB "dict" "str").map _ = _
  rw [show L2.kitB "dict" "str" = some false from by decide +kernel]
  rfl
@[simp] theorem eqD_ii (i j : Int) : eqD (.int i) (.int j) = some (.fz (.bool (i == j))) := (rfl)
@[simp] theorem neD_ii (i j : Int) : neD (.int i) (.int j) = some (.fz (.bool (!(i == j)))) := (rfl)
@[simp] theorem eqD_bb (i j : Bool) : eqD (.bool i) (.bool j) = some (.fz (.bool (i == j))) := (rfl)
@[simp] theorem neD_bb (i j : Bool) : neD (.bool i) (.bool j) = some (.fz (.bool (!(i == j)))) := (rfl)
@[simp] theorem eqD_ss (i j : Str) : eqD (.str i) (.str j) = some (.fz (.bool (i == j))) := (rfl)
@[simp] theorem neD_ss (i j : Str) : neD (.str i) (.str j) = some (.fz (.bool (!(i == j)))) := (rfl)
@[simp] theorem leD_ii (i j : Int) : leD (.int i) (.int j) = some (.fz (.bool (decide (i ≤ j)))) := (rfl)
@[simp] theorem ltD_ii (i j : Int) : ltD (.int i) (.int j) = some (.fz (.bool (decide (i < j)))) := (rfl)
@[simp] theorem gtD_ii (i j : Int) : gtD (.int i) (.int j) = some (.fz (.bool (decide (j < i)))) := (rfl)
@[simp] theorem geD_ii (i j : Int) : geD (.int i) (.int j) = some (.fz (.bool (decide (j ≤ i)))) := (rfl)
@[simp] theorem addD_ii (i j : Int) : addD (.int i) (.int j) = some (.fz (.int (i + j))) := (rfl)
@[simp] theorem addD_tt (a b : List D) : addD (.tuple a) (.tuple b) = if a.length + b.length ≤ LINE then some (.fz (.tuple (a ++ b))) else none := (rfl)
@[simp] theorem addD_ll (a b : List D) : addD (.list a) (.list b) = if a.length + b.length ≤ LINE then some (.ol (a ++ b)) else none := (rfl)
@[simp] theorem subD_ii (i j : Int) : subD (.int i) (.int j) = some (.fz (.int (i - j))) := (rfl)
@[simp] theorem mulD_ii (i j : Int) : mulD (.int i) (.int j) = if i.natAbs.log2 + j.natAbs.log2 < 1000000 then some (.fz (.int (i * j))) else none := (rfl)
@[simp] theorem fdivD_ii (i j : Int) : fdivD (.int i) (.int j) = if 0 < j ∧ j.natAbs.log2 < 9000 then some (.fz (.int (i / j))) else none := (rfl)
@[simp] theorem modD_ii (i j : Int) : modD (.int i) (.int j) = if 0 < j then some (.fz (.int (i % j))) else none := (rfl)
@[simp] theorem negD_i (i : Int) : negD (.int i) = some (.fz (.int (-i))) := (rfl)
@[simp] theorem lenD_l (a : List D) : lenD [.list a] = some (.fz (.int a.length)) := (rfl)
@[simp] theorem lenD_t (a : List D) : lenD [.tuple a] = some (.fz (.int a.length)) := (rfl)
@[simp] theorem tupD_l (a : List D) : tupD (.list a) = some (.fz (.tuple a)) := (rfl)
@[simp] theorem tupD_t (a : List D) : tupD (.tuple a) = some (.fz (.tuple a)) := (rfl)
@[simp] theorem listV_l (a : List D) : listV [.list a] = some (.ol a) := (rfl)
@[simp] theorem listV_t (a : List D) : listV [.tuple a] = some (.ol a) := (rfl)
@[simp] theorem intV_i (i : Int) : intV [.int i] = some (.fz (.int i)) := (rfl)
@[simp] theorem intV_b (k : Bool) : intV [.bool k] = some (.fz (.int (if k = true then 1 else 0))) := (rfl)
@[simp] theorem ixD_l (a : List D) (i : Int) : ixD (.list a) (.int i) = (L2.atI a i).map .fz := (rfl)
@[simp] theorem ixD_t (a : List D) (i : Int) : ixD (.tuple a) (.int i) = (L2.atI a i).map .fz := (rfl)
@[simp] theorem slD_l (a : List D) (lo hi : Option Int) : slD (.list a) lo hi = some (.ol (cutD a lo hi)) := (rfl)
@[simp] theorem slD_t (a : List D) (lo hi : Option Int) : slD (.tuple a) lo hi = some (.fz (.tuple (cutD a lo hi))) := (rfl)
@[simp] theorem zips_l (a b : List D) : zipsD [.list a, .list b] = some (zipD a b) := (rfl)
@[simp] theorem zips_t (a b : List D) : zipsD [.tuple a, .tuple b] = some (zipD a b) := (rfl)
@[simp] theorem enumA_l (a : List D) : enumsA [.list a] = some (enumD 0 a) := (rfl)
@[simp] theorem enumA_t (a : List D) : enumsA [.tuple a] = some (enumD 0 a) := (rfl)
@[simp] theorem enums_l (a : List D) : enumsD [.list a] = some (enumD 0 a) := (rfl)
@[simp] theorem allD_b (bs : List Bool) : allD [.list (bs.map .bool)] = some (.fz (.bool (bs.all id))) := by
  show (blsD (bs.map .bool)).map _ = _
  rw [blsD_map]
  rfl
@[simp] theorem anyD_b (bs : List Bool) : anyD [.list (bs.map .bool)] = some (.fz (.bool (bs.any id))) := by
  show (blsD (bs.map .bool)).map _ = _
  rw [blsD_map]
  rfl
/-- at a place counted from the front -/
theorem atI_nat {α : Type} (a : List α) (i : Nat) : L2.atI a (i : Int) = a[i]? := by
  unfold L2.atI L2.ixN
  by_cases h : i < a.length
  · have h1 : (0 : Int) ≤ i := by omega
    have h2 : (i : Int) < a.length := by omega
    simp [h1, h2]
  · have h2 : ¬ (i : Int) < a.length := by omega
    simp [h2]
    omega
/-- a loop, place by place -/
theorem forL_ix {t : D → M Unit} {body : M Fl} (P : Nat → List Val → Prop) : ∀ (items : List D) (k : Nat) (r : List Val), (∀ i d, items[i]? = some d → ∀ r, P (k + i) r → ∃ r1 r2, t d r = .ok () r1 ∧ body r1 = .ok .nx r2 ∧ P (k + i + 1) r2) → P k r → ∃ r', forL t body items r = .ok .nx r' ∧ P (k + items.length) r'
  | [], k, r, _, p => ⟨r, rfl, p⟩
  | d :: items, k, r, h, p => by
    obtain ⟨r1, r2, e1, e2, p2⟩ := h 0 d rfl r p
    obtain ⟨r', e3, p3⟩ := forL_ix P items (k + 1) r2 (fun i d' e r q => by
      have := h (i + 1) d' (by simpa using e) r (by rwa [show k + (i + 1) = k + 1 + i by omega])
      rwa [show k + (i + 1) = k + 1 + i by omega] at this) p2
    refine ⟨r', ?_, ?_⟩
    · rw [forL_cons, e1]
      simp only [e2]
      exact e3
    · rw [List.length_cons, show k + (items.length + 1) = k + 1 + items.length by omega]
      exact p3
theorem rangeD_nat (a b : Nat) : rangeD (a : Int) (b : Int) = ((List.range (b - a)).map (a + ·)).map iN := by
  unfold rangeD
  rw [show ((b : Int) - (a : Int)).toNat = b - a by omega, List.map_map]
  rfl
theorem zip_self (xs : List D) : zipD xs xs = xs.map fun x => .tuple [x, x] := by
  induction xs with
  | nil => rfl
  | cons x xs ih => simp [zipD, ih]
theorem small_LINE {n : Nat} (h : n ≤ 1000000) : n ≤ LINE := by
  unfold LINE
  omega
theorem rangeD_zero (b : Nat) : rangeD 0 (b : Int) = (List.range b).map iN := by
  have := rangeD_nat 0 b
  simpa using this
theorem smI_nat {n : Nat} (h : n ≤ 1000000) : smI (n : Int) = true := by
  show Nat.ble n 4611686018427387000 = true
  exact Nat.ble_eq_true_of_le (Nat.le_trans h (by decide))
theorem iR1_nat {o : Opd} {r r' : List Val} {j : Nat} (h : o.pre r = .ok (iN j) r') (hj : j ≤ 1000000) : iR1 o r = .ok ((List.range j).map iN) r' := by
  unfold iR1 ev1
  rw [h]
  unfold iN
  simp only
  rw [if_pos (smI_nat hj), rangeD_zero]
  rfl
def rgN (a b : Nat) : List Nat := (List.range (b - a)).map (a + ·)
theorem iR2_nat {o o2 : Opd} {r r' : List Val} {i j : Nat} (h : ev2 o o2 r = .ok (iN i, iN j) r') (hi : i ≤ 1000000) (hj : j ≤ 1000000) : iR2 o o2 r = .ok ((rgN i j).map iN) r' := by
  unfold iR2
  rw [h]
  unfold iN
  simp only
  rw [if_pos (by rw [smI_nat hi, smI_nat hj]; rfl), rangeD_nat]
  rfl
theorem rgOk_nat {a b : Nat} (ha : a ≤ 1000000) (hb : b ≤ 1000000) : rgOk (a : Int) (b : Int) = true := by
  unfold rgOk
  rw [smI_nat ha, smI_nat hb, show ((b : Int) - (a : Int)).toNat = b - a by omega]
  exact Nat.ble_eq_true_of_le (Nat.le_trans (Nat.sub_le b a) (Nat.le_trans hb (by decide)))
theorem rgTD_nat {a b : Nat} (ha : a ≤ 1000000) (hb : b ≤ 1000000) : rgTD true (iN a) (iN b) = some (.fz (tN (rgN a b))) := by
  show (if rgOk (a : Int) (b : Int) = true then some (Val.fz (.tuple (rangeD (a : Int) (b : Int)))) else none) = _
  rw [if_pos (rgOk_nat ha hb), rangeD_nat]
  rfl
theorem rgLD_nat {a b : Nat} (ha : a ≤ 1000000) (hb : b ≤ 1000000) : rgTD false (iN a) (iN b) = some (.ol ((rgN a b).map iN)) := by
  show (if rgOk (a : Int) (b : Int) = true then some (Val.ol (rangeD (a : Int) (b : Int))) else none) = _
  rw [if_pos (rgOk_nat ha hb), rangeD_nat]
  rfl
theorem len_rgN (a b : Nat) : (rgN a b).length = b - a := by simp [rgN]
theorem mul_small {a b : Nat} (h1 : a ≤ 1000) (h2 : b ≤ 1000) : Nat.log2 a + Nat.log2 b < 1000000 := by
  have := Nat.log2_le_self a
  have := Nat.log2_le_self b
  omega
theorem log_small {k : Nat} (h : k ≤ 1000) : Nat.log2 k < 9000 := Nat.lt_of_le_of_lt (Nat.log2_le_self k) (by omega)
theorem mulD_nat {a b : Nat} (h1 : a ≤ 1000000) (h2 : b ≤ 1000) : mulD (iN a) (iN b) = some (.fz (iN (a * b))) := by
  have c : Nat.log2 a + Nat.log2 b < 1000000 := by
    have := Nat.log2_le_self b
    by_cases h : a = 0
    · subst h
      have : Nat.log2 0 = 0 := by decide
      omega
    · have : Nat.log2 a < 100 := (Nat.log2_lt h).mpr (by have : 2 ^ 20 ≤ 2 ^ 100 := Nat.pow_le_pow_right (by decide) (by decide); omega)
      omega
  simp [iN, c]
theorem fdivD_nat {a b : Nat} (h1 : 0 < b) (h2 : b ≤ 1000) : fdivD (iN a) (iN b) = some (.fz (iN (a / b))) := by
  simp [iN, h1, log_small h2]

@[simp] theorem addD_nn (a b : Nat) : addD (iN a) (iN b) = some (.fz (iN (a + b))) := by simp [iN]
@[simp] theorem addD_n1 (a : Nat) (b : Nat) : addD (iN a) (.int (OfNat.ofNat b)) = some (.fz (iN (a + OfNat.ofNat b))) := by simp [iN]
@[simp] theorem eqD_nn (a b : Nat) : eqD (iN a) (iN b) = some (.fz (.bool (a == b))) := by
  show some (Val.fz (.bool ((a : Int) == (b : Int)))) = _
  rw [show ((a : Int) == (b : Int)) = (a == b) from eqv_iN a b]
@[simp] theorem neD_nn (a b : Nat) : neD (iN a) (iN b) = some (.fz (.bool (!(a == b)))) := by
  show some (Val.fz (.bool !((a : Int) == (b : Int)))) = _
  rw [show ((a : Int) == (b : Int)) = (a == b) from eqv_iN a b]
@[simp] theorem ltD_nn (a b : Nat) : ltD (iN a) (iN b) = some (.fz (.bool (decide (a < b)))) := by simp [iN]
@[simp] theorem leD_nn (a b : Nat) : leD (iN a) (iN b) = some (.fz (.bool (decide (a ≤ b)))) := by simp [iN]
theorem subD_nn {a b : Nat} (h : b ≤ a) : subD (iN a) (iN b) = some (.fz (iN (a - b))) := by
  simp [iN, Int.ofNat_sub h]
theorem iN_lit (a : Nat) : PyData.int (OfNat.ofNat a) = iN (OfNat.ofNat a) := rfl
theorem eLc_m {im : M (List D)} {t : D → M Unit} {test : M Bool} {elt : M Val} {vs : List Nat} {r r0 : List Val} {α : Type} {xs : List α} (f : α → D) (out : α → D) (hi : im r = .ok (xs.map f) r0) (hl : xs.length ≤ LINE) (hh : hid r0 vs = true) (hr : restR (wipeR r0 vs) r0 vs = r0) (hs : ∀ x ∈ xs, stepOk t test elt vs (wipeR r0 vs) (f x) (some (out x))) :
    eLc vs im t test elt r = .ok (.ol (xs.map out)) r0 := by
  have := eLc_fo f (fun _ => true) out hi hl hh hr fun x hx => by simpa using hs x hx
  rwa [List.filter_eq_self.mpr fun _ _ => rfl] at this
theorem addD_tN (a : List Nat) (p : Nat) (h : a.length ≤ 1000) : addD (tN a) (.tuple [iN p]) = some (.fz (tN (a ++ [p]))) := by
  unfold tN
  rw [addD_tt, if_pos (small_LINE (by simp; omega))]
  simp
theorem len_tN (a : List Nat) : lenD [tN a] = some (.fz (iN a.length)) := by simp [tN, iN]
theorem len_lT (a : List (List Nat)) : lenD [lT a] = some (.fz (iN a.length)) := by simp [lT, iN]
theorem len_tT (a : List (List Nat)) : lenD [tT a] = some (.fz (iN a.length)) := by simp [tT, iN]
theorem flatD_lT : ∀ a : List (List (List Nat)), flatD (a.map lT) = some (a.flatten.map tN)
  | [] => rfl
  | x :: a => by
    show (flatD (a.map lT)).map (x.map tN ++ ·) = _
    rw [flatD_lT a]
    simp
theorem sumL_lT (a : List (List (List Nat))) (h : a.flatten.length ≤ 1000000) : sumLD [.list (a.map lT)] = some (a.flatten.map tN) := by
  show (flatD (a.map lT)).bind _ = _
  rw [flatD_lT]
  simp only [Option.bind_some]
  rw [if_pos (small_LINE (by rw [List.length_map]; exact h))]
theorem addD_lT (a b : List (List Nat)) (h : a.length + b.length ≤ 1000000) : addD (lT a) (lT b) = some (.ol ((a ++ b).map tN)) := by
  unfold lT
  rw [addD_ll, if_pos (small_LINE (by rw [List.length_map, List.length_map]; exact h))]
  simp
theorem addD_tT (a : List (List Nat)) (b : List Nat) (h : a.length ≤ 1000) : addD (tT a) (.tuple [tN b]) = some (.fz (tT (a ++ [b]))) := by
  unfold tT
  rw [addD_tt, if_pos (small_LINE (by simp; omega))]
  simp
theorem forL_rg {t : D → M Unit} {body : M Fl} (P : Nat → List Val → Prop) {k : Nat} {r : List Val} (h : ∀ i, i < k → ∀ r, P i r → ∃ r1 r2, t (iN i) r = .ok () r1 ∧ body r1 = .ok .nx r2 ∧ P (i + 1) r2) (p : P 0 r) : ∃ r', forL t body ((List.range k).map iN) r = .ok .nx r' ∧ P k r' := by
  have := forL_ix P ((List.range k).map iN) 0 r (fun i d e r q => by
    rw [List.getElem?_map] at e
    obtain ⟨j, e1, rfl⟩ := Option.map_eq_some_iff.mp e
    obtain ⟨e2, e3⟩ := List.getElem?_eq_some_iff.mp e1
    rw [List.getElem_range] at e3
    subst e3
    rw [List.length_range] at e2
    rw [Nat.zero_add] at q
    obtain ⟨r1, r2, q1, q2, q3⟩ := h i e2 r q
    exact ⟨r1, r2, q1, q2, by rwa [Nat.zero_add]⟩) p
  rwa [List.length_map, List.length_range, Nat.zero_add] at this
/-- a loop over encoded items -/
theorem forL_map {α : Type} {t : D → M Unit} {body : M Fl} (f : α → D) (P : List α → List Val → Prop) : ∀ (done todo : List α) {r : List Val}, (∀ a x b, done ++ todo = a ++ x :: b → ∀ r, P a r → ∃ r1 r2, t (f x) r = .ok () r1 ∧ body r1 = .ok .nx r2 ∧ P (a ++ [x]) r2) → P done r → ∃ r', forL t body (todo.map f) r = .ok .nx r' ∧ P (done ++ todo) r'
  | done, [], r, _, p => ⟨r, rfl, by rwa [List.append_nil]⟩
  | done, x :: todo, r, h, p => by
    obtain ⟨r1, r2, e1, e2, p2⟩ := h done x todo rfl r p
    obtain ⟨r', e3, p3⟩ := forL_map f P (done ++ [x]) todo (fun a y b e => h a y b (by rw [← e, List.append_assoc]; rfl)) p2
    refine ⟨r', ?_, by rwa [List.append_assoc] at p3⟩
    rw [List.map_cons, forL_cons, e1]
    simp only [e2]
    exact e3
/-! sorted rows of points -/
def leN : List Nat → List Nat → Bool
  | [], _ => true
  | _ :: _, [] => false
  | x :: xs, y :: ys => if Nat.beq x y = true then leN xs ys else Nat.ble x y
def castL (ns : List Nat) : List Int := ns.map fun n : Nat => (n : Int)
theorem leN_eq : ∀ a b : List Nat, leL (castL a) (castL b) = leN a b
  | [], b => by simp [castL, leL, leN]
  | x :: a, [] => by simp [castL, leL, leN]
  | x :: a, y :: b => by
    have ih := leN_eq a b
    unfold castL at ih ⊢
    simp only [List.map_cons, leL, leN, ih]
    by_cases h : x = y
    · subst h
      simp
    · have h1 : ¬ (x : Int) = (y : Int) := by omega
      have h2 : ¬ (Nat.beq x y = true) := by rw [Nat.beq_eq]; exact h
      rw [if_neg h1, if_neg h2, Bool.eq_iff_iff, decide_eq_true_eq]
      constructor
      · intro q
        exact Nat.ble_eq_true_of_le (by omega)
      · intro q
        have := Nat.le_of_ble_eq_true q
        omega
theorem ins_map {α β : Type} (le : β → β → Bool) (f : α → β) (x : α) : ∀ l : List α, ins le (f x) (l.map f) = (ins (fun a b => le (f a) (f b)) x l).map f
  | [] => rfl
  | y :: ys => by
    simp only [List.map_cons, ins]
    split
    · rfl
    · rw [ins_map le f x ys]
      rfl
theorem isort_map {α β : Type} (le : β → β → Bool) (f : α → β) : ∀ l : List α, isort le (l.map f) = (isort (fun a b => le (f a) (f b)) l).map f
  | [] => rfl
  | x :: xs => by
    simp only [List.map_cons, isort]
    rw [isort_map le f xs, ins_map]
theorem intsD_iN : ∀ ns : List Nat, intsD (ns.map iN) = some (castL ns)
  | [] => rfl
  | n :: ns => by
    have := intsD_iN ns
    simp only [List.map_cons, intsD, iN, castL] at this ⊢
    rw [this]
    rfl
theorem rowsD_tN : ∀ nss : List (List Nat), rowsD (nss.map tN) = some (nss.map castL)
  | [] => rfl
  | ns :: nss => by
    show (match intsD (ns.map iN) with | some ms => (rowsD (nss.map tN)).map (ms :: ·) | none => none) = _
    rw [intsD_iN, rowsD_tN nss]
    rfl
theorem rowD_castL (ns : List Nat) : rowD (castL ns) = tN ns := by
  unfold rowD castL tN
  rw [List.map_map]
  rfl
theorem sorted_tN (nss : List (List Nat)) (h : ∀ ns ∈ nss, ns ≠ []) : sortedV [.list (nss.map tN)] = some (.ol ((isort leN nss).map tN)) := by
  show (sortLD (nss.map tN)).map Val.ol = _
  have e : sortLD (nss.map tN) = some ((isort leN nss).map tN) := by
    cases nss with
    | nil => rfl
    | cons ns nss =>
      unfold sortLD
      rw [show intsD ((ns :: nss).map tN) = none from rfl, rowsD_tN]
      simp only
      rw [if_pos]
      · rw [isort_map, List.map_map]
        have e1 : (fun a b : List Nat => leL (castL a) (castL b)) = leN := funext fun a => funext fun b => leN_eq a b
        rw [e1]
        congr 1
        apply List.map_congr_left
        intro a _
        exact rowD_castL a
      · rw [List.all_eq_true]
        intro x hx
        obtain ⟨y, hy, rfl⟩ := List.mem_map.mp hx
        have := h y hy
        cases y with
        | nil => exact absurd rfl this
        | cons a b => rfl
  rw [e]
  rfl
@[simp] theorem x_callO1 (g : Fn) (v : Val) (ms : List (M Val)) (r1 : List Val) : callO1 g v ms r1 = (match vals ms r1 with
  | .ok ds r2 => (match g (v :: ds.map .fz) with
    | .ok v _ => .ok v r2
    | .exc c es _ => .exc c es r2
    | .err => .err)
  | .exc c es r' => .exc c es r'
  | .err => .err) := (rfl)
@[simp] theorem x_callO (g : Fn) (m : M Val) (ms : List (M Val)) (r : List Val) : callO g m ms r = (match m r with
  | .ok (.ol xs) r1 => callO1 g (.ol xs) ms r1
  | .ok (.ow t) r1 => callO1 g (.ow t) ms r1
  | .ok _ _ => .err
  | .exc c es r' => .exc c es r'
  | .err => .err) := (rfl)
@[simp] theorem x_callB1 (g : Fn) (i : Nat) (v : Val) (ds : List D) (r : List Val) : callB1 g i v ds r = (match g (v :: ds.map .fz) with
  | .ok v outs => .ok v (r.set i (outs.getD 0 .un))
  | .exc c es outs => .exc c es (r.set i (outs.getD 0 .un))
  | .err => .err) := (rfl)
@[simp] theorem x_callB (g : Fn) (i : Nat) (ms : List (M Val)) (r : List Val) : callB g i ms r = (match r[i]? with
  | some (.ol _) => (match vals ms r with
    | .ok ds r' => (match r'[i]? with
      | some (.ol xs) => callB1 g i (.ol xs) ds r'
      | _ => .err)
    | .exc c ds r' => .exc c ds r'
    | .err => .err)
  | some (.ow _) => (match vals ms r with
    | .ok ds r' => (match r'[i]? with
      | some (.ow t) => callB1 g i (.ow t) ds r'
      | _ => .err)
    | .exc c ds r' => .exc c ds r'
    | .err => .err)
  | _ => .err) := by
  unfold callB M.bind
  cases r[i]? with
  | none => rfl
  | some v =>
    cases v with
    | ol xs => cases vals ms r <;> rfl
    | ow xs => cases vals ms r <;> rfl
    | _ => rfl
@[simp] theorem x_sPut (i : Nat) (ix m : M Val) (r : List Val) : sPut i ix m r = (match frz m r with
  | .ok d r1 => (match r1[i]? with
    | some (.ol _) => (match frz ix r1 with
      | .ok (.int k) r2 => (match r2[i]? with
        | some (.ol xs) => (match L2.ixN xs.length k with
          | some j => .ok .nx (r2.set i (.ol (xs.set j d)))
          | none => .err)
        | _ => .err)
      | .ok _ _ => .err
      | .exc c ds r' => .exc c ds r'
      | .err => .err)
    | _ => .err)
  | .exc c ds r' => .exc c ds r'
  | .err => .err) := (rfl)
theorem mulD_sm {i j : Int} (h1 : 0 ≤ i) (h2 : i < 4294967296) (h3 : 0 ≤ j) (h4 : j < 4294967296) : mulD (.int i) (.int j) = some (.fz (.int (i * j))) := by
  have lg : ∀ {k : Int}, 0 ≤ k → k < 4294967296 → k.natAbs.log2 < 100 := fun {k} p q => by
    by_cases h : k.natAbs = 0
    · rw [h]; decide
    · refine (Nat.log2_lt h).mpr (Nat.lt_of_lt_of_le (?_ : k.natAbs < 2 ^ 32) (Nat.pow_le_pow_right (by decide) (by decide)))
      show k.natAbs < 4294967296
      omega
  have a := lg h1 h2
  have b := lg h3 h4
  rw [mulD_ii, if_pos (by omega)]
theorem cutD_map {α β : Type} (f : α → β) (xs : List α) (lo hi : Option Int) : cutD (xs.map f) lo hi = (cutD xs lo hi).map f := by
  unfold cutD
  rw [List.length_map, List.map_take, List.map_drop]
theorem cutD_len {α : Type} (xs : List α) (lo hi : Option Int) : (cutD xs lo hi).length ≤ xs.length := by
  unfold cutD
  rw [List.length_take, List.length_drop]
  omega
end MS

/-! part r: more loops -/
namespace MS
open PySem
/-- a loop that may end early with an answer -/
theorem forL_ret {t : D → M Unit} {body : M Fl} (P : Nat → List Val → Prop) (v : Val) : ∀ (items : List D) (k : Nat) (r : List Val), (∀ i d, items[i]? = some d → ∀ r, P (k + i) r → ∃ r1 r2, t d r = .ok () r1 ∧ ((body r1 = .ok .nx r2 ∧ P (k + i + 1) r2) ∨ body r1 = .ok (.rt v) r2)) → P k r → (∃ r', forL t body items r = .ok .nx r' ∧ P (k + items.length) r') ∨ ∃ r', forL t body items r = .ok (.rt v) r'
  | [], k, r, _, p => .inl ⟨r, rfl, p⟩
  | d :: items, k, r, h, p => by
    obtain ⟨r1, r2, e1, q⟩ := h 0 d rfl r p
    rcases q with ⟨e2, p2⟩ | e2
    · rcases forL_ret P v items (k + 1) r2 (fun i d' e r q => by
        have := h (i + 1) d' (by simpa using e) r (by rwa [show k + (i + 1) = k + 1 + i by omega])
        rwa [show k + (i + 1) = k + 1 + i by omega] at this) p2 with ⟨r', e3, p3⟩ | ⟨r', e3⟩
      · refine .inl ⟨r', ?_, ?_⟩
        · rw [forL_cons, e1]
          simp only [e2]
          exact e3
        · rw [List.length_cons, show k + (items.length + 1) = k + 1 + items.length by omega]
          exact p3
      · refine .inr ⟨r', ?_⟩
        rw [forL_cons, e1]
        simp only [e2]
        exact e3
    · refine .inr ⟨r2, ?_⟩
      rw [forL_cons, e1]
      simp only [e2]
theorem cut_from {α : Type} (xs : List α) (n : Nat) : cutD xs (some (n : Int)) none = xs.drop n := by
  unfold cutD
  rw [show HT.sIx xs.length 0 (some (n : Int)) = min n xs.length from HT.sIx_nat xs.length 0 n, HT.sIx_none]
  by_cases h : n ≤ xs.length
  · rw [Nat.min_eq_left h]
    exact List.take_of_length_le (by rw [List.length_drop]; omega)
  · rw [Nat.min_eq_right (by omega), List.drop_eq_nil_of_le (Nat.le_refl _), List.drop_eq_nil_of_le (by omega)]
    simp
theorem len_tNs (a : List (List Nat)) : lenD [.list (a.map tN)] = some (.fz (iN a.length)) := by simp [iN]
theorem range_get {k i : Nat} {d : D} (e : ((List.range k).map iN)[i]? = some d) : i < k ∧ d = iN i := by
  rw [List.getElem?_map] at e
  obtain ⟨j, e1, rfl⟩ := Option.map_eq_some_iff.mp e
  obtain ⟨e2, e3⟩ := List.getElem?_eq_some_iff.mp e1
  rw [List.getElem_range] at e3
  subst e3
  rw [List.length_range] at e2
  exact ⟨e2, rfl⟩
theorem rgN_get {a k i : Nat} {d : D} (e : ((rgN a k).map iN)[i]? = some d) : i < k - a ∧ d = iN (a + i) := by
  unfold rgN at e
  rw [List.map_map, List.getElem?_map] at e
  obtain ⟨j, e1, rfl⟩ := Option.map_eq_some_iff.mp e
  obtain ⟨e2, e3⟩ := List.getElem?_eq_some_iff.mp e1
  rw [List.getElem_range] at e3
  subst e3
  rw [List.length_range] at e2
  exact ⟨e2, rfl⟩
end MS

namespace MP
open PySem MS
/-! sorted by a key, as plain lists -/
theorem sortK_perm {α : Type} (xs : List α) (ks : List Int) (h : ks.length = xs.length) : (sortK xs ks).Perm xs := by
  unfold sortK
  have e : (xs.zip ks).map Prod.fst = xs := List.map_fst_zip (by omega)
  have p := ((xs.zip ks).mergeSort_perm keyLe).map Prod.fst
  rw [e] at p
  exact p
theorem keysO_map {α : Type} (w : α → D) (f : D → Option Int) (key : α → Int) : ∀ xs : List α, (∀ x ∈ xs, f (w x) = some (key x)) → keysO f (xs.map w) = some (xs.map key)
  | [], _ => rfl
  | x :: xs, h => by
    have ih := keysO_map w f key xs fun y hy => h y (List.mem_cons_of_mem _ hy)
    rw [List.map_cons, keysO, h x List.mem_cons_self, ih]
    rfl
theorem eSortK_perm {α : Type} {m b : M Val} {js : List Nat} {n : Nat} {r r' : List Val} {cs : List D} (w : α → D) (key : α → Int) (xs : List α) (h : frz m r = .ok (.list (xs.map w)) r') (hc : capsD r' js = some cs) (hk : ∀ x ∈ xs, keyRun b cs n (w x) = some (key x)) :
    ∃ ys : List α, ys.Perm xs ∧ eSortK m b js n r = .ok (.ol (ys.map w)) r' := by
  refine ⟨sortK xs (xs.map key), sortK_perm _ _ (by rw [List.length_map]), ?_⟩
  unfold eSortK
  simp only [h, hc, keysO_map w _ key xs hk, sortK_map]
/-- a loop that may end with an answer -/
theorem loop_find {α : Type} {t : D → M Unit} {body : M Fl} (w : α → D) (I : List Val → Prop) (A : α → Prop) (B : α → Val → Prop) : ∀ (xs : List α) (r : List Val), I r →
    (∀ x ∈ xs, ∀ r, I r → (∃ r1 r2, t (w x) r = .ok () r1 ∧ body r1 = .ok .nx r2 ∧ I r2 ∧ A x) ∨ (∃ r1 r2 v, t (w x) r = .ok () r1 ∧ body r1 = .ok (.rt v) r2 ∧ I r2 ∧ B x v)) →
    (∃ r', forL t body (xs.map w) r = .ok .nx r' ∧ I r' ∧ ∀ x ∈ xs, A x) ∨ ∃ x ∈ xs, ∃ v r', forL t body (xs.map w) r = .ok (.rt v) r' ∧ I r' ∧ B x v
  | [], r, hr, _ => .inl ⟨r, rfl, hr, fun x hx => by cases hx⟩
  | x :: xs, r, hr, h => by
    rcases h x List.mem_cons_self r hr with ⟨r1, r2, e1, e2, h2, a⟩ | ⟨r1, r2, v, e1, e2, h2, b⟩
    · rcases loop_find w I A B xs r2 h2 fun y hy => h y (List.mem_cons_of_mem _ hy) with ⟨r', e3, h3, a3⟩ | ⟨y, hy, v, r', e3, h3, b3⟩
      · refine .inl ⟨r', ?_, h3, fun y hy => ?_⟩
        · rw [List.map_cons, forL_cons, e1]
          simp only [e2]
          exact e3
        · rcases List.mem_cons.mp hy with rfl | hy
          · exact a
          · exact a3 y hy
      · refine .inr ⟨y, List.mem_cons_of_mem _ hy, v, r', ?_, h3, b3⟩
        rw [List.map_cons, forL_cons, e1]
        simp only [e2]
        exact e3
    · refine .inr ⟨x, List.mem_cons_self, v, r2, ?_, h2, b⟩
      rw [List.map_cons, forL_cons, e1]
      simp only [e2]
end MP

namespace MP
open PySem MS
/-! all sets -/
def loP (one : List Nat) : Nat := one.foldl (fun a b => max a (b + 1)) 0
theorem lo_fold : ∀ (ns : List Nat) (m : Nat), (ns.map fun n : Nat => (n : Int)).foldl (fun a b => if a < b then b else a) ((m : Int) - 1) = ((ns.foldl (fun a b => max a (b + 1)) m : Nat) : Int) - 1
  | [], m => rfl
  | n :: ns, m => by
    rw [List.map_cons, List.foldl_cons, List.foldl_cons, ← lo_fold ns (max m (n + 1))]
    congr 1
    by_cases h : (m : Int) - 1 < n
    · rw [if_pos h]; omega
    · rw [if_neg h]; omega
theorem max_lo (one : List Nat) : maxD [.tuple (.int (-1) :: one.map iN)] = some (.fz (.int ((loP one : Int) - 1))) := by
  have e : intsD (.int (-1) :: one.map iN) = some (-1 :: one.map fun n : Nat => (n : Int)) := by
    show (intsD (one.map iN)).map _ = _
    rw [intsD_iN]
    rfl
  show (intsD (.int (-1) :: one.map iN)).bind _ = _
  rw [e]
  have := lo_fold one 0
  simp only [Option.bind_some, maxL, Option.map_some]
  rw [show ((0 : Nat) : Int) - 1 = -1 by rfl] at this
  rw [this]
  rfl
def nextA (n : Nat) (one : List Nat) : List (List Nat) := (rgN (loP one) n).map fun p => one ++ [p]
def allP (n : Nat) : Nat → List (List Nat)
  | 0 => [[]]
  | i + 1 => ((allP n i).map (nextA n)).flatten
theorem all_inner (n k : Nat) (s : D) (v : Val) (one : List Nat) (h1 : n ≤ 1000) (h2 : one.length ≤ 1000) (h3 : loP one ≤ 1000) : eLc [5] (iR2 (.v (bin addD (.v (app maxD [(.v (bin addD (.v (eTup [(una negD (.v (eK (.int 1))))])) (.sl 4)))])) (.v (eK (.int 1))))) (.sl 0)) (tgN 5) tTrue (bin addD (.sl 4) (.v (eTup [(eRd 5)]))) [.fz (iN n), .fz (iN k), .fz s, v, .fz (tN one), .un] = .ok (.ol ((nextA n one).map tN)) [.fz (iN n), .fz (iN k), .fz s, v, .fz (tN one), .un] := by
  have a1 : addD (.tuple [.int (-1)]) (tN one) = some (.fz (.tuple (.int (-1) :: one.map iN))) := by
    unfold tN
    rw [addD_tt, if_pos (small_LINE (by simp; omega))]
    rfl
  have a2 : addD (.int ((loP one : Int) - 1)) (.int 1) = some (.fz (iN (loP one))) := by simp [iN]
  have h := eLc_m (im := iR2 (.v (bin addD (.v (app maxD [(.v (bin addD (.v (eTup [(una negD (.v (eK (.int 1))))])) (.sl 4)))])) (.v (eK (.int 1))))) (.sl 0)) (t := tgN 5) (test := tTrue) (elt := bin addD (.sl 4) (.v (eTup [(eRd 5)]))) (vs := [5]) (r := [.fz (iN n), .fz (iN k), .fz s, v, .fz (tN one), .un]) (r0 := [.fz (iN n), .fz (iN k), .fz s, v, .fz (tN one), .un]) (xs := rgN (loP one) n) iN (fun p => tN (one ++ [p]))
    (iR2_nat (by simp [a1, max_lo, a2]) (by omega) (by omega)) (small_LINE (by rw [len_rgN]; omega)) (by rfl) (by rfl) (fun x hx => by simp [stepOk, addD_tN one x h2])
  rw [h]
  simp [nextA]
def smA (n i : Nat) : Bool := ((allP n i).all fun one => Nat.ble one.length 1000 && Nat.ble (loP one) 1000) && Nat.ble (allP n i).length 1000
theorem smA_ok : ((List.range 9).all fun n => (List.range 10).all fun i => smA n i) = true := by decide +kernel
theorem smA_at {n i : Nat} (h1 : n ≤ 8) (h2 : i ≤ 9) : smA n i = true := by
  have := List.all_eq_true.mp smA_ok n (List.mem_range.mpr (by omega))
  exact List.all_eq_true.mp this i (List.mem_range.mpr (by omega))
theorem smA_len {n i : Nat} (h1 : n ≤ 8) (h2 : i ≤ 9) : (allP n i).length ≤ 1000 := by
  have := smA_at h1 h2
  unfold smA at this
  rw [Bool.and_eq_true] at this
  exact Nat.le_of_ble_eq_true this.2
theorem smA_mem {n i : Nat} (h1 : n ≤ 8) (h2 : i ≤ 9) {one : List Nat} (hm : one ∈ allP n i) : one.length ≤ 1000 ∧ loP one ≤ 1000 := by
  have := smA_at h1 h2
  unfold smA at this
  rw [Bool.and_eq_true] at this
  have := List.all_eq_true.mp this.1 one hm
  rw [Bool.and_eq_true] at this
  exact ⟨Nat.le_of_ble_eq_true this.1, Nat.le_of_ble_eq_true this.2⟩
end MP

namespace MP
open PySem MS
def missP (a b : List Nat) : Bool := (a.filter b.contains).isEmpty
theorem missP_any (a b : List Nat) : missP a b = !(a.any b.contains) := by
  unfold missP
  induction a with
  | nil => rfl
  | cons x a ih =>
    rw [List.filter_cons, List.any_cons]
    cases b.contains x
    · simpa using ih
    · rfl
theorem missP_iff (a b : List Nat) : missP a b = true ↔ ∀ x, x ∈ a → x ∉ b := by
  rw [missP_any]
  simp
theorem missP_comm (a b : List Nat) : missP a b = missP b a := by
  rw [Bool.eq_iff_iff, missP_iff, missP_iff]
  exact ⟨fun h x h1 h2 => h x h2 h1, fun h x h1 h2 => h x h2 h1⟩
end MP

namespace MP
open PySem MS
theorem missing_eq (a b : List Nat) (ha : a.length ≤ LINE) : f_missing [.fz (tN a), .fz (tN b)] = .ok (.fz (.bool (missP a b))) [.un, .un] := by
  have h := eLc_m (im := iSeq (eRd 0)) (t := tgN 2) (test := tTrue) (elt := bin inD (.sl 2) (.sl 1)) (vs := [2]) (r := [.fz (tN a), .fz (tN b), .un]) (r0 := [.fz (tN a), .fz (tN b), .un]) (xs := a) iN (fun x => .bool (b.contains x)) (by simp [tN]) ha (by rfl) (by rfl) (fun x hx => by
    simp [stepOk, inD_i])
  have h5 : anyD [.list (a.map fun x => .bool (b.contains x))] = some (.fz (.bool (a.any b.contains))) := by
    have := anyD_b (a.map b.contains)
    rw [List.map_map, List.any_map] at this
    exact this
  simp [f_missing, runF, b_missing, outsF, List.range_succ, h, h5, missP_any, -List.contains_eq_mem]
end MP

namespace MP
open PySem MS
theorem eqOk_tN (a b : List Nat) : eqOk (tN a) (tN b) = true := by
  simp only [eqOk, Bool.and_eq_true, decide_eq_true_eq]
  exact ⟨⟨plain_tN a, plain_tN b⟩, Nat.le_trans (Nat.min_le_left _ _) (Nat.le_trans (depth_tN a) (by decide))⟩
theorem eqD_tN (a b : List Nat) : eqD (tN a) (tN b) = some (.fz (.bool (a == b))) := by
  unfold eqD
  rw [if_pos (eqOk_tN a b), eqv_tN]
theorem neD_tN (a b : List Nat) : neD (tN a) (tN b) = some (.fz (.bool (!(a == b)))) := by
  unfold neD
  rw [if_pos (eqOk_tN a b), eqv_tN]
end MP

namespace MP
open PySem MS
/-! any thing: is it a size, a set -/
def intD : D → Bool
  | .int _ => true
  | _ => false
def fromD (d : D) (lo hi : Int) : Bool := match d with
  | .int i => decide (lo ≤ i) && decide (i ≤ hi)
  | _ => false
theorem whole_any (d : D) : f_is_whole [.fz d] = .ok (.fz (.bool (intD d))) [.un] := by
  cases d with
  | bool b => cases b <;> simp [f_is_whole, runF, b_is_whole, outsF, List.range_succ, intD]
  | _ => simp [f_is_whole, runF, b_is_whole, outsF, List.range_succ, intD]
theorem from_any (d : D) (lo hi : Int) : f_is_from [.fz d, .fz (.int lo), .fz (.int hi)] = .ok (.fz (.bool (fromD d lo hi))) [.un, .un, .un] := by
  have w := whole_any d
  cases d with
  | int i => by_cases h : lo ≤ i <;> simp [f_is_from, runF, b_is_from, outsF, List.range_succ, w, intD, fromD, h]
  | _ => simp [f_is_from, runF, b_is_from, outsF, List.range_succ, w, intD, fromD]
theorem must_from_yes {d : D} {lo hi : Int} (h : fromD d lo hi = true) : f_must_from [.fz d, .fz (.int lo), .fz (.int hi)] = .ok (.fz .none) [.un, .un, .un] := by
  simp [f_must_from, runF, b_must_from, outsF, List.range_succ, from_any, h]
theorem must_from_no {d : D} {lo hi : Int} (h : fromD d lo hi = false) : f_must_from [.fz d, .fz (.int lo), .fz (.int hi)] = .exc "NoNumber" [] [.un, .un, .un] := by
  simp [f_must_from, runF, b_must_from, outsF, List.range_succ, from_any, h, sRaise]
def inI (n : Nat) (i : Int) : Bool := decide (0 ≤ i) && decide (i ≤ (n : Int) - 1)
theorem all_from (n : Nat) (hn : 1 ≤ n) : ∀ ds : List D, ds.all (fun d => fromD d 0 ((n : Int) - 1)) = (match intsD ds with | some ns => ns.all (inI n) | none => false)
  | [] => rfl
  | d :: ds => by
    have ih := all_from n hn ds
    cases d with
    | int i =>
      rw [List.all_cons, ih]
      simp only [intsD]
      cases intsD ds with
      | none => simp
      | some ns => simp [fromD, inI]
    | _ => simp [fromD, intsD]
def smallE (d : D) : Prop := ∀ ds, d = .tuple ds → ds.length ≤ 100
theorem smallE_tup {ds : List D} (h : ds.length ≤ 100) : smallE (.tuple ds) := fun e he => by cases he; exact h
theorem smallE_nt {d : D} (h : ∀ ds, d ≠ .tuple ds) : smallE d := fun ds e => absurd e (h ds)
def smallD (d : D) : Prop := ∀ ds, d = .tuple ds → ds.length ≤ 60
theorem smallD.e {d : D} (h : smallD d) : smallE d := fun ds e => Nat.le_trans (h ds e) (by decide)
theorem small_tup {ds : List D} (h : ds.length ≤ 60) : smallD (.tuple ds) := fun e he => by cases he; exact h
theorem small_nt {d : D} (h : ∀ ds, d ≠ .tuple ds) : smallD d := fun ds e => absurd e (h ds)
theorem add_sm (a b : List D) (h : a.length + b.length ≤ 1000) : addD (.tuple a) (.tuple b) = some (.fz (.tuple (a ++ b))) := by
  rw [addD_tt, if_pos (small_LINE (by omega))]
end MP

namespace MP
open PySem MS
def sizD (a b : D) : Bool := fromD a 1 8 && match a with
  | .int n => fromD b 1 n
  | _ => false
theorem must_size_no {a b : D} (h : sizD a b = false) : f_must_size [.fz a, .fz b] = .exc "NoNumber" [] [.un, .un] := by
  cases h1 : fromD a 1 8 with
  | false => simp [f_must_size, runF, b_must_size, outsF, List.range_succ, must_from_no h1]
  | true =>
    cases a with
    | int n =>
      have h2 : fromD b 1 n = false := by simpa [sizD, h1] using h
      simp [f_must_size, runF, b_must_size, outsF, List.range_succ, must_from_yes h1, must_from_no h2]
    | _ => simp [fromD] at h1
theorem must_size_yes (n k : Nat) (h1 : 1 ≤ k) (h2 : k ≤ n) (h3 : n ≤ 8) : f_must_size [.fz (iN n), .fz (iN k)] = .ok (.fz .none) [.un, .un] := by
  have a1 : fromD (iN n) 1 8 = true := by simp [fromD, iN]; omega
  have a2 : fromD (iN k) 1 n = true := by simp [fromD, iN]; omega
  have b2 := must_from_yes a2
  rw [show PyData.int (n : Int) = iN n from rfl] at b2
  simp [f_must_size, runF, b_must_size, outsF, List.range_succ, must_from_yes a1, b2]
end MP

namespace MP
open PySem MS
/-! sets -/
def upI : List Int → Bool
  | x :: y :: r => decide (x < y) && upI (y :: r)
  | _ => true
def setD (n k : Nat) (d : D) : Bool := match d with
  | .tuple ds => (ds.length == k) && match intsD ds with
    | some ns => ns.all (inI n) && upI ns
    | none => false
  | _ => false
theorem zip_upI : ∀ one : List Int, ∃ ps : List (Int × Int), zipD (one.map PyData.int) ((one.map PyData.int).drop 1) = ps.map (fun p => PyData.tuple [.int p.1, .int p.2]) ∧ ps.length ≤ one.length ∧ ps.all (fun p => decide (p.1 < p.2)) = upI one
  | [] => ⟨[], rfl, Nat.le_refl _, rfl⟩
  | [x] => ⟨[], rfl, Nat.zero_le _, rfl⟩
  | x :: y :: r => by
    obtain ⟨ps, h1, h2, h3⟩ := zip_upI (y :: r)
    refine ⟨(x, y) :: ps, ?_, by simp only [List.length_cons] at h2 ⊢; omega, ?_⟩
    · show PyData.tuple [.int x, .int y] :: zipD ((y :: r).map PyData.int) (((y :: r).map PyData.int).drop 1) = _
      rw [h1]
      rfl
    · rw [List.all_cons, h3]
      rfl
end MP

namespace MP
open PySem MS
theorem plain_ints : ∀ ns : List Int, PyData.plainAll (ns.map PyData.int) = true
  | [] => rfl
  | n :: ns => by
    rw [List.map_cons]
    show (true && PyData.plainAll (ns.map PyData.int)) = true
    rw [plain_ints ns]
    rfl
theorem depth_ints : ∀ ns : List Int, PyData.depthAll (ns.map PyData.int) ≤ 1
  | [] => by decide
  | n :: ns => by
    have := depth_ints ns
    have : PyData.depthAll ((n :: ns).map PyData.int) = max ((PyData.int n).depth) (PyData.depthAll (ns.map PyData.int)) ∨ True := .inr trivial
    simp only [List.map_cons, PyData.depthAll]
    have h0 : (PyData.int n).depth = 0 := rfl
    rw [h0]
    omega
theorem eqv_ints : ∀ a b : List Int, PyData.eqvAll (a.map PyData.int) (b.map PyData.int) = (a == b)
  | [], [] => rfl
  | [], _ :: _ => rfl
  | _ :: _, [] => rfl
  | x :: a, y :: b => by
    have : PyData.eqv (.int x) (.int y) = (x == y) := rfl
    simp [PyData.eqvAll, this, eqv_ints a b]
theorem eqD_ints (a b : List Int) : eqD (.list (a.map .int)) (.list (b.map .int)) = some (.fz (.bool (a == b))) := by
  have e : eqOk (.list (a.map .int)) (.list (b.map .int)) = true := by
    have := depth_ints a
    simp only [eqOk, Bool.and_eq_true, decide_eq_true_eq]
    refine ⟨⟨by simpa [PyData.plain] using plain_ints a, by simpa [PyData.plain] using plain_ints b⟩, Nat.le_trans (Nat.min_le_left _ _) ?_⟩
    simp only [PyData.depth]
    omega
  unfold eqD
  rw [if_pos e]
  show some (Val.fz (.bool (PyData.eqvAll _ _))) = _
  rw [eqv_ints]
theorem upI_pair : ∀ ns : List Int, upI ns = true ↔ ns.Pairwise (· < ·)
  | [] => by simp [upI]
  | [x] => by simp [upI]
  | x :: y :: r => by
    have ih := upI_pair (y :: r)
    show (decide (x < y) && upI (y :: r)) = true ↔ _
    rw [Bool.and_eq_true, decide_eq_true_eq, ih, List.pairwise_cons (a := x)]
    constructor
    · rintro ⟨h1, h2⟩
      refine ⟨fun z hz => ?_, h2⟩
      rcases List.mem_cons.mp hz with rfl | hz
      · exact h1
      · have := (List.pairwise_cons.mp h2).1 z hz
        omega
    · rintro ⟨h1, h2⟩
      exact ⟨h1 y List.mem_cons_self, h2⟩
theorem usort_up (ns : List Int) : (ns == usort ns) = upI ns := by
  rw [Bool.eq_iff_iff, beq_iff_eq, upI_pair]
  constructor
  · intro h
    rw [h]
    exact usort_pair ns
  · intro h
    exact usort_uniq h fun k => Iff.rfl
end MP

namespace MP
open PySem MS
theorem upI_cast : ∀ ns : List Nat, ns.Pairwise (· < ·) → upI (castL ns) = true := fun ns h => by
  rw [upI_pair]
  unfold castL
  rw [List.pairwise_map]
  exact h.imp fun q => by omega
/-- a set of n points -/
def goodS (n k : Nat) (ns : List Nat) : Prop := ns.length = k ∧ (∀ p ∈ ns, p < n) ∧ ns.Pairwise (· < ·)
theorem good_setD {n k : Nat} {ns : List Nat} (h : goodS n k ns) : setD n k (tN ns) = true := by
  obtain ⟨h1, h2, h3⟩ := h
  show ((ns.map iN).length == k && match intsD (ns.map iN) with | some ns => ns.all (inI n) && upI ns | none => false) = true
  rw [intsD_iN]
  simp only [List.length_map, h1, beq_self_eq_true, Bool.true_and, Bool.and_eq_true]
  refine ⟨?_, upI_cast ns h3⟩
  unfold castL
  rw [List.all_map, List.all_eq_true]
  intro p hp
  have := h2 p hp
  simp [inI]
  omega
theorem setD_good {n k : Nat} (hn : 1 ≤ n) {d : D} (h : setD n k d = true) : ∃ os, d = tN os ∧ goodS n k os := by
  cases d with
  | tuple ds =>
    unfold setD at h
    simp only [Bool.and_eq_true, beq_iff_eq] at h
    obtain ⟨h1, h2⟩ := h
    cases hi : intsD ds with
    | none => rw [hi] at h2; cases h2
    | some ns =>
      rw [hi] at h2
      simp only [Bool.and_eq_true] at h2
      obtain ⟨h3, h4⟩ := h2
      have hds := intsD_eq hi
      have hin : ∀ x ∈ ns, 0 ≤ x ∧ x ≤ (n : Int) - 1 := fun x hx => by
        have := List.all_eq_true.mp h3 x hx
        simpa [inI] using this
      have hp := (upI_pair ns).mp h4
      have hc : castL (ns.map Int.toNat) = ns := by
        unfold castL
        rw [List.map_map]
        refine (List.map_congr_left fun x hx => ?_).trans (List.map_id ns)
        have := hin x hx
        simp only [Function.comp, id]
        omega
      refine ⟨ns.map Int.toNat, ?_, ?_, ?_, ?_⟩
      · rw [← rowD_castL, hc, hds]
        rfl
      · rw [List.length_map, ← h1, hds, List.length_map]
      · intro p hp
        obtain ⟨x, hx, rfl⟩ := List.mem_map.mp hp
        have := hin x hx
        omega
      · rw [List.pairwise_map]
        refine List.Pairwise.imp_of_mem ?_ hp
        intro a b ha hb q
        have := hin a ha
        have := hin b hb
        omega
  | _ => cases h
theorem all_setD {n k : Nat} (hn : 1 ≤ n) : ∀ ds : List D, ds.all (setD n k) = true → ∃ oss : List (List Nat), ds = oss.map tN ∧ ∀ os ∈ oss, goodS n k os
  | [], _ => ⟨[], rfl, fun _ h => nomatch h⟩
  | d :: ds, h => by
    rw [List.all_cons, Bool.and_eq_true] at h
    obtain ⟨os, e, g⟩ := setD_good hn h.1
    obtain ⟨oss, e2, g2⟩ := all_setD hn ds h.2
    refine ⟨os :: oss, by rw [e, e2]; rfl, fun x hx => ?_⟩
    rcases List.mem_cons.mp hx with rfl | hx
    · exact g
    · exact g2 x hx
end MP

namespace MP
open PySem MS
def sizesL : List (Nat × Nat) := [(1, 1), (2, 1), (2, 2), (3, 1), (3, 2), (3, 3), (4, 1), (4, 2), (4, 3), (4, 4), (5, 1), (5, 2), (5, 3), (5, 4), (5, 5), (6, 1), (6, 2), (6, 3), (6, 4), (6, 5), (6, 6), (7, 1), (7, 2), (7, 3), (7, 4), (7, 5), (7, 6), (7, 7), (8, 1), (8, 2), (8, 3), (8, 4), (8, 5), (8, 6), (8, 7), (8, 8)]
theorem sizes_mem {n k : Nat} (h1 : 1 ≤ k) (h2 : k ≤ n) (h3 : n ≤ 8) : (n, k) ∈ sizesL := by
  have : ((List.range 8).all fun a => (List.range 8).all fun b => decide (b ≤ a) → sizesL.contains (a + 1, b + 1)) = true := by decide +kernel
  have a := List.all_eq_true.mp this (n - 1) (List.mem_range.mpr (by omega))
  have b := List.all_eq_true.mp a (k - 1) (List.mem_range.mpr (by omega))
  rw [show n - 1 + 1 = n by omega, show k - 1 + 1 = k by omega] at b
  simp only [decide_eq_true_eq] at b
  have c := b (by omega)
  simpa using c
end MP

namespace MP
open PySem MS
/-! all of a size are sets -/
def upN : List Nat → Bool
  | x :: y :: r => Nat.blt x y && upN (y :: r)
  | _ => true
def goodB (n k : Nat) (ns : List Nat) : Bool := ns.length == k && ns.all (fun p => Nat.blt p n) && upN ns
theorem upN_pair : ∀ ns : List Nat, upN ns = true → ns.Pairwise (· < ·)
  | [], _ => .nil
  | [x], _ => List.pairwise_singleton _ _
  | x :: y :: r, h => by
    unfold upN at h
    rw [Bool.and_eq_true] at h
    have h1 : x < y := by simpa [Nat.blt_eq] using h.1
    have ih := upN_pair (y :: r) h.2
    refine List.pairwise_cons.mpr ⟨fun z hz => ?_, ih⟩
    rcases List.mem_cons.mp hz with rfl | hz
    · exact h1
    · have := (List.pairwise_cons.mp ih).1 z hz
      omega
theorem goodB_of {n k : Nat} {ns : List Nat} (h : goodB n k ns = true) : goodS n k ns := by
  unfold goodB at h
  simp only [Bool.and_eq_true, beq_iff_eq] at h
  refine ⟨h.1.1, fun p hp => ?_, upN_pair ns h.2⟩
  have := List.all_eq_true.mp h.1.2 p hp
  simpa [Nat.blt_eq] using this
theorem all_good : (sizesL.all fun p => (allP p.1 p.2).all (goodB p.1 p.2) && !(allP p.1 p.2).isEmpty && Nat.ble (allP p.1 p.2).length 70) = true := by decide +kernel
theorem all_good_at {n k : Nat} (h1 : 1 ≤ k) (h2 : k ≤ n) (h3 : n ≤ 8) : (∀ ns ∈ allP n k, goodS n k ns) ∧ allP n k ≠ [] ∧ (allP n k).length ≤ 70 := by
  have a := List.all_eq_true.mp all_good (n, k) (sizes_mem h1 h2 h3)
  simp only [Bool.and_eq_true] at a
  refine ⟨fun ns h => goodB_of (List.all_eq_true.mp a.1.1 ns h), fun e => ?_, Nat.le_of_ble_eq_true a.2⟩
  have := a.1.2
  simp only [e] at this
  cases this
theorem atI_last {α : Type} {xs : List α} (h : xs ≠ []) : L2.atI xs (-1) = some (xs.getLast h) := by
  have hl : 0 < xs.length := List.length_pos_iff.mpr h
  unfold L2.atI
  have : L2.ixN xs.length (-1) = some (xs.length - 1) := by
    unfold L2.ixN
    rw [if_neg (by decide), if_pos (by omega)]
    congr 1
    omega
  rw [this]
  show xs[xs.length - 1]? = _
  rw [List.getLast_eq_getElem, List.getElem?_eq_getElem (by omega)]
/-- each set's number -/
def idxOk (n k : Nat) : Bool := (List.range (allP n k).length).all fun m => match (allP n k)[m]? with
  | some one => (match idxD (lT (allP n k)) (tN one) with
    | some (.fz (.int j)) => j == (m : Int)
    | _ => false)
  | none => false
theorem ix_1_1 : idxOk 1 1 = true := by decide +kernel
theorem ix_2_1 : idxOk 2 1 = true := by decide +kernel
theorem ix_2_2 : idxOk 2 2 = true := by decide +kernel
theorem ix_3_1 : idxOk 3 1 = true := by decide +kernel
theorem ix_3_2 : idxOk 3 2 = true := by decide +kernel
theorem ix_3_3 : idxOk 3 3 = true := by decide +kernel
theorem ix_4_1 : idxOk 4 1 = true := by decide +kernel
theorem ix_4_2 : idxOk 4 2 = true := by decide +kernel
theorem ix_4_3 : idxOk 4 3 = true := by decide +kernel
theorem ix_4_4 : idxOk 4 4 = true := by decide +kernel
theorem ix_5_1 : idxOk 5 1 = true := by decide +kernel
theorem ix_5_2 : idxOk 5 2 = true := by decide +kernel
theorem ix_5_3 : idxOk 5 3 = true := by decide +kernel
theorem ix_5_4 : idxOk 5 4 = true := by decide +kernel
theorem ix_5_5 : idxOk 5 5 = true := by decide +kernel
theorem ix_6_1 : idxOk 6 1 = true := by decide +kernel
theorem ix_6_2 : idxOk 6 2 = true := by decide +kernel
theorem ix_6_3 : idxOk 6 3 = true := by decide +kernel
theorem ix_6_4 : idxOk 6 4 = true := by decide +kernel
theorem ix_6_5 : idxOk 6 5 = true := by decide +kernel
theorem ix_6_6 : idxOk 6 6 = true := by decide +kernel
theorem ix_7_1 : idxOk 7 1 = true := by decide +kernel
theorem ix_7_2 : idxOk 7 2 = true := by decide +kernel
theorem ix_7_3 : idxOk 7 3 = true := by decide +kernel
theorem ix_7_4 : idxOk 7 4 = true := by decide +kernel
theorem ix_7_5 : idxOk 7 5 = true := by decide +kernel
theorem ix_7_6 : idxOk 7 6 = true := by decide +kernel
theorem ix_7_7 : idxOk 7 7 = true := by decide +kernel
theorem ix_8_1 : idxOk 8 1 = true := by decide +kernel
theorem ix_8_2 : idxOk 8 2 = true := by decide +kernel
theorem ix_8_3 : idxOk 8 3 = true := by decide +kernel
theorem ix_8_4 : idxOk 8 4 = true := by decide +kernel
theorem ix_8_5 : idxOk 8 5 = true := by decide +kernel
theorem ix_8_6 : idxOk 8 6 = true := by decide +kernel
theorem ix_8_7 : idxOk 8 7 = true := by decide +kernel
theorem ix_8_8 : idxOk 8 8 = true := by decide +kernel
theorem ix_all : ∀ p ∈ sizesL, idxOk p.1 p.2 = true := List.forall_mem_cons.mpr ⟨ix_1_1, List.forall_mem_cons.mpr ⟨ix_2_1, List.forall_mem_cons.mpr ⟨ix_2_2, List.forall_mem_cons.mpr ⟨ix_3_1, List.forall_mem_cons.mpr ⟨ix_3_2, List.forall_mem_cons.mpr ⟨ix_3_3, List.forall_mem_cons.mpr ⟨ix_4_1, List.forall_mem_cons.mpr ⟨ix_4_2, List.forall_mem_cons.mpr ⟨ix_4_3, List.forall_mem_cons.mpr ⟨ix_4_4, List.forall_mem_cons.mpr ⟨ix_5_1, List.forall_mem_cons.mpr ⟨ix_5_2, List.forall_mem_cons.mpr ⟨ix_5_3, List.forall_mem_cons.mpr ⟨ix_5_4, List.forall_mem_cons.mpr ⟨ix_5_5, List.forall_mem_cons.mpr ⟨ix_6_1, List.forall_mem_cons.mpr ⟨ix_6_2, List.forall_mem_cons.mpr ⟨ix_6_3, List.forall_mem_cons.mpr ⟨ix_6_4, List.forall_mem_cons.mpr ⟨ix_6_5, List.forall_mem_cons.mpr ⟨ix_6_6, List.forall_mem_cons.mpr ⟨ix_7_1, List.forall_mem_cons.mpr ⟨ix_7_2, List.forall_mem_cons.mpr ⟨ix_7_3, List.forall_mem_cons.mpr ⟨ix_7_4, List.forall_mem_cons.mpr ⟨ix_7_5, List.forall_mem_cons.mpr ⟨ix_7_6, List.forall_mem_cons.mpr ⟨ix_7_7, List.forall_mem_cons.mpr ⟨ix_8_1, List.forall_mem_cons.mpr ⟨ix_8_2, List.forall_mem_cons.mpr ⟨ix_8_3, List.forall_mem_cons.mpr ⟨ix_8_4, List.forall_mem_cons.mpr ⟨ix_8_5, List.forall_mem_cons.mpr ⟨ix_8_6, List.forall_mem_cons.mpr ⟨ix_8_7, List.forall_mem_cons.mpr ⟨ix_8_8, fun _ h => absurd h List.not_mem_nil⟩⟩⟩⟩⟩⟩⟩⟩⟩⟩⟩⟩⟩⟩⟩⟩⟩⟩⟩⟩⟩⟩⟩⟩⟩⟩⟩⟩⟩⟩⟩⟩⟩⟩⟩⟩
theorem idx_at {n k : Nat} (h1 : 1 ≤ k) (h2 : k ≤ n) (h3 : n ≤ 8) (m : Nat) (hm : m < (allP n k).length) : idxD (.list ((allP n k).map tN)) (tN (allP n k)[m]) = some (.fz (iN m)) := by
  have a := List.all_eq_true.mp (ix_all (n, k) (sizes_mem h1 h2 h3)) m (List.mem_range.mpr hm)
  simp only [List.getElem?_eq_getElem hm] at a
  revert a
  show (match idxD (.list ((allP n k).map tN)) (tN (allP n k)[m]) with | some (.fz (.int j)) => j == (m : Int) | _ => false) = true → _
  cases idxD (.list ((allP n k).map tN)) (tN (allP n k)[m]) with
  | none => exact fun h => nomatch h
  | some v =>
    cases v with
    | un => exact fun h => nomatch h
    | ol xs => exact fun h => nomatch h
    | od xs => exact fun h => nomatch h
    | ow xs => exact fun h => nomatch h
    | fz d =>
      cases d with
      | int j =>
        intro h
        have h' : j = (m : Int) := eq_of_beq h
        rw [h']
        rfl
      | _ => exact fun h => nomatch h
end MP

namespace MP
open PySem MS
/-! the sets left -/
theorem less_len {x : List Nat} {left : List (List Nat)} (h : x ∈ left) : (left.filter fun y => !(y == x)).length + 1 ≤ left.length := by
  have : (left.filter fun y => !(y == x)).length < left.length := by
    rcases Nat.lt_or_ge (left.filter fun y => !(y == x)).length left.length with q | q
    · exact q
    · have e := List.filter_eq_self.mp (List.Sublist.eq_of_length_le (List.filter_sublist) q)
      have := e x h
      simp at this
  omega
def nzL (x : List Nat) (left : List (List Nat)) : List (List Nat) := left.filter fun y => !(y == x)
theorem nil_eq (left : List (List Nat)) : eqD (.list (left.map tN)) (.list []) = some (.fz (.bool left.isEmpty)) := by
  rw [eqD_nil _ (plain_tNs left)]
  cases left <;> rfl
end MP

namespace MP
open PySem MS
/-! gone on: a row through all that are left, if there is one -/
/-- a way from l through p, in this order; closed: back to f -/
def pathP (f : List Nat) (cl : Bool) : List Nat → List (List Nat) → Bool
  | l, [] => !cl || missP f l
  | l, x :: p => missP l x && pathP f cl x p
def goBody (d : Nat) : M Fl := (sSeq (sSet 5 (callV (f_gone_on d) [(bin addD (.sl 0) (.v (eTup [(eRd 4)]))), (eLc [6] (iSeq (eRd 1)) (tgN 6) (asB (bin neD (.sl 6) (.sl 4))) (eRd 6)), (eRd 2)]))
    (sIf (asB (bin isnD (.sl 5) (.v (eK .none))))
    (sRet (eMv 5))
    sNil))
def goKey : M Val := (app lenD [(.v (eLc [2] (iSeq (eRd 1)) (tgN 2) (asB (callV f_missing [(eRd 0), (eRd 2)])) (eRd 2)))])
def goSort : M Val := eSortK (eRd 3) goKey [1] 1
theorem b_gone_eq (d : Nat) : b_gone_on (f_gone_on d) = (sSeq (sIf (asB (bin eqD (.sl 1) (.v (eLst []))))
    (sRet (eIf (tOrM (tNotM (asB (eRd 2))) (asB (callV f_missing [(bin ixD (.sl 0) (.v (eK (.int 0)))), (bin ixD (.sl 0) (.v (una negD (.v (eK (.int 1))))))]))) (eRd 0) (eK .none)))
    sNil)
    (sSeq (sSet 3 (eLc [4] (iSeq (eRd 1)) (tgN 4) (asB (callV f_missing [(bin ixD (.sl 0) (.v (una negD (.v (eK (.int 1)))))), (eRd 4)])) (eRd 4)))
    (sSeq (sFor (tgN 4) (iSeq goSort) (goBody d))
    (sRet (eK .none))))) := rfl
theorem go_key (left : List (List Nat)) (hl : left.length ≤ 1000) (x : List Nat) (hx : x.length ≤ 60) : keyRun goKey [.list (left.map tN)] 1 (tN x) = some ((left.filter (missP x)).length : Int) := by
  have lc := eLc_fo (im := iSeq (eRd 1)) (t := tgN 2) (test := asB (callV f_missing [(eRd 0), (eRd 2)])) (elt := eRd 2) (vs := [2]) (r := [.fz (tN x), .fz (.list (left.map tN)), .un]) (r0 := [.fz (tN x), .fz (.list (left.map tN)), .un]) (xs := left) tN (missP x) tN
    (by simp) (small_LINE (by omega)) (by rfl) (by rfl) (fun y hy => by
      have q := missing_eq x y (small_LINE (by omega))
      cases e : missP x y with
      | false => rw [e] at q; simp [stepOk, q]
      | true => rw [e] at q; simp [stepOk, q])
  have ll := len_tNs (left.filter (missP x))
  have e : goKey [.fz (tN x), .fz (.list (left.map tN)), .un] = .ok (.fz (iN (left.filter (missP x)).length)) [.fz (tN x), .fz (.list (left.map tN)), .un] := by
    unfold goKey
    generalize (left.filter (missP x)).map tN = T at *
    generalize left.map tN = T2 at *
    generalize (left.filter (missP x)).length = N at *
    simp [lc, ll, -lenD_l]
  unfold keyRun
  show (match goKey [.fz (tN x), .fz (.list (left.map tN)), .un] with | .ok (.fz (.int k)) _ => some k | _ => none) = _
  rw [e]
  rfl
theorem go_lc (a v2 v3 v5 : Val) (x : List Nat) (left : List (List Nat)) (hl : left.length ≤ 1000) : eLc [6] (iSeq (eRd 1)) (tgN 6) (asB (bin neD (.sl 6) (.sl 4))) (eRd 6) [a, .fz (.list (left.map tN)), v2, v3, .fz (tN x), v5, .un] = .ok (.ol ((nzL x left).map tN)) [a, .fz (.list (left.map tN)), v2, v3, .fz (tN x), v5, .un] :=
  eLc_fo (im := iSeq (eRd 1)) (t := tgN 6) (test := asB (bin neD (.sl 6) (.sl 4))) (elt := eRd 6) (vs := [6]) (r := [a, .fz (.list (left.map tN)), v2, v3, .fz (tN x), v5, .un]) (r0 := [a, .fz (.list (left.map tN)), v2, v3, .fz (tN x), v5, .un]) (xs := left) tN (fun y => !(y == x)) tN
    (by simp) (small_LINE (by omega)) (by rfl) (by rfl) (fun y hy => by
      have q := neD_tN y x
      cases e : (y == x) with
      | false => rw [e] at q; simp [stepOk, q]
      | true => rw [e] at q; simp [stepOk, q])
theorem nz_perm {x : List Nat} {left p : List (List Nat)} (hn : left.Nodup) (hx : x ∈ left) : (x :: p).Perm left ↔ p.Perm (nzL x left) := by
  have e : nzL x left = left.erase x := by
    rw [hn.erase_eq_filter]
    rfl
  rw [e]
  refine ⟨fun h => ?_, fun h => ?_⟩
  · have := h.erase x
    rwa [List.erase_cons_head] at this
  · exact (h.cons x).trans (List.perm_cons_erase hx).symm
theorem isn_t (l : List D) : isnD (.tuple l) .none = some (.fz (.bool true)) := rfl
theorem isn_n : isnD .none .none = some (.fz (.bool false)) := rfl
theorem gone_eq : ∀ (d : Nat) (R : List (List Nat)) (f l : List Nat) (left : List (List Nat)) (cl : Bool), R.head? = some f → R.getLast? = some l → left.length ≤ d → left.length + R.length ≤ 1000 → left.Nodup → f.length ≤ 60 → (∀ x ∈ left, x.length ≤ 60) → l.length ≤ 60 →
    (∃ p, p.Perm left ∧ pathP f cl l p = true ∧ f_gone_on (d + 1) [.fz (.tuple (R.map tN)), .fz (.list (left.map tN)), .fz (.bool cl)] = .ok (.fz (.tuple ((R ++ p).map tN))) [.un, .un, .un]) ∨
    ((∀ p, p.Perm left → pathP f cl l p = false) ∧ f_gone_on (d + 1) [.fz (.tuple (R.map tN)), .fz (.list (left.map tN)), .fz (.bool cl)] = .ok (.fz .none) [.un, .un, .un])
  | d, R, f, l, left, cl, hf, hl, hd, hs, hn, sf, sx, sl => by
    have i0 : ixD (.tuple (R.map tN)) (.int 0) = some (.fz (tN f)) := by
      cases R with
      | nil => cases hf
      | cons a R => cases hf; show (L2.atI _ ((0 : Nat) : Int)).map Val.fz = _; rw [atI_nat]; rfl
    have il : ixD (.tuple (R.map tN)) (.int (-1)) = some (.fz (tN l)) := by
      have ne : R ≠ [] := fun e => by rw [e] at hf; cases hf
      show (L2.atI _ (-1)).map Val.fz = _
      rw [atI_last (xs := R.map tN) (by simpa using ne), List.getLast_map]
      rw [List.getLast?_eq_some_getLast ne] at hl
      cases hl
      rfl
    have ng : negD (.int 1) = some (.fz (.int (-1))) := rfl
    have ne := nil_eq left
    have m0 := missing_eq f l (small_LINE (by omega))
    have el : ∀ r, eLst [] r = .ok (.ol []) r := fun _ => rfl
    cases hE : left with
    | nil =>
      rw [hE] at ne
      have ne : eqD (.list []) (.list []) = some (.fz (.bool true)) := ne
      have h0 : (∀ p : List (List Nat), p.Perm [] → pathP f cl l p = (!cl || missP f l)) := fun p hp => by
        rw [List.perm_nil.mp hp]
        rfl
      cases hb : (!cl || missP f l) with
      | true =>
        refine .inl ⟨[], .nil, hb, ?_⟩
        rw [List.append_nil]
        show runF 7 3 [] (b_gone_on (f_gone_on d)) _ = _
        rw [b_gone_eq]
        generalize goBody d = GB at *
        generalize goSort = GS at *
        generalize R.map tN = T at *
        cases cl with
        | false => simp [runF, outsF, List.range_succ, el, ne]
        | true =>
          have hb : missP f l = true := by simpa using hb
          rw [hb] at m0
          simp [runF, outsF, List.range_succ, el, ne, i0, il, ng, m0, -ixD_t]
      | false =>
        refine .inr ⟨fun p hp => (h0 p hp).trans hb, ?_⟩
        show runF 7 3 [] (b_gone_on (f_gone_on d)) _ = _
        rw [b_gone_eq]
        generalize goBody d = GB at *
        generalize goSort = GS at *
        generalize R.map tN = T at *
        cases cl with
        | false => simp at hb
        | true =>
          have hb : missP f l = false := by simpa using hb
          rw [hb] at m0
          simp [runF, outsF, List.range_succ, el, ne, i0, il, ng, m0, -ixD_t]
    | cons a0 l0 =>
      rw [← hE]
      cases d with
      | zero => rw [hE] at hd; simp at hd
      | succ d =>
        have hE' : left.isEmpty = false := by rw [hE]; rfl
        rw [hE'] at ne
        have l1 := eLc_fo (im := iSeq (eRd 1)) (t := tgN 4) (test := asB (callV f_missing [(bin ixD (.sl 0) (.v (una negD (.v (eK (.int 1)))))), (eRd 4)])) (elt := eRd 4) (vs := [4]) (r := [.fz (.tuple (R.map tN)), .fz (.list (left.map tN)), .fz (.bool cl), .un, .un, .un, .un]) (r0 := [.fz (.tuple (R.map tN)), .fz (.list (left.map tN)), .fz (.bool cl), .un, .un, .un, .un]) (xs := left) tN (missP l) tN
          (by simp) (small_LINE (by omega)) (by rfl) (by rfl) (fun y hy => by
            have q := missing_eq l y (small_LINE (by omega))
            generalize R.map tN = T at *
            cases e : missP l y with
            | false => rw [e] at q; simp [stepOk, q, il, ng, -ixD_t]
            | true => rw [e] at q; simp [stepOk, q, il, ng, -ixD_t])
        obtain ⟨S, hS, so⟩ := eSortK_perm (m := eRd 3) (b := goKey) (js := [1]) (n := 1) (r := [.fz (.tuple (R.map tN)), .fz (.list (left.map tN)), .fz (.bool cl), .ol ((left.filter (missP l)).map tN), .un, .un, .un]) (r' := [.fz (.tuple (R.map tN)), .fz (.list (left.map tN)), .fz (.bool cl), .fz (.list ((left.filter (missP l)).map tN)), .un, .un, .un]) (cs := [.list (left.map tN)]) tN (fun x => ((left.filter (missP x)).length : Int)) (left.filter (missP l)) (by simp) rfl fun x hx => go_key left (by omega) x (sx x (List.mem_filter.mp hx).1)
        have mS : ∀ x, x ∈ S ↔ x ∈ left ∧ missP l x = true := fun x => by rw [hS.mem_iff, List.mem_filter]
        rcases loop_find (t := tgN 4) (body := goBody (d + 1)) tN (fun r => ∃ v4 v5, r = [.fz (.tuple (R.map tN)), .fz (.list (left.map tN)), .fz (.bool cl), .fz (.list ((left.filter (missP l)).map tN)), v4, v5, .un]) (fun x => ∀ p, p.Perm (nzL x left) → pathP f cl x p = false) (fun x v => ∃ p, p.Perm (nzL x left) ∧ pathP f cl x p = true ∧ v = .fz (.tuple (((R ++ [x]) ++ p).map tN))) S [.fz (.tuple (R.map tN)), .fz (.list (left.map tN)), .fz (.bool cl), .fz (.list ((left.filter (missP l)).map tN)), .un, .un, .un] ⟨_, _, rfl⟩ (fun x hx r ⟨v4, v5, er⟩ => by
            subst er
            obtain ⟨hx, hm⟩ := (mS x).mp hx
            have ll := less_len hx
            have ih := gone_eq d (R ++ [x]) f x (nzL x left) cl (by cases R with | nil => cases hf | cons a R => exact hf) (by simp) (by unfold nzL; omega) (by unfold nzL; simp; omega) (hn.sublist List.filter_sublist) sf (fun y hy => sx y (List.mem_filter.mp hy).1) (sx x hx)
            have ad : addD (.tuple (R.map tN)) (.tuple [tN x]) = some (.fz (.tuple ((R ++ [x]).map tN))) := by
              rw [addD_tt, if_pos (small_LINE (by simp; omega)), List.map_append]
              rfl
            have lc := go_lc (.fz (.tuple (R.map tN))) (.fz (.bool cl)) (.fz (.list ((left.filter (missP l)).map tN))) v5 x left (by omega)
            rcases ih with ⟨p, hp, hq, ih⟩ | ⟨hq, ih⟩
            · refine .inr ⟨_, [.fz (.tuple (R.map tN)), .fz (.list (left.map tN)), .fz (.bool cl), .fz (.list ((left.filter (missP l)).map tN)), .fz (tN x), .fz (.tuple (((R ++ [x]) ++ p).map tN)), .un], _, rfl, ?_, ⟨_, _, rfl⟩, p, hp, hq, rfl⟩
              have ih2 := isn_t (((R ++ [x]) ++ p).map tN)
              generalize ((R ++ [x]) ++ p).map tN = T5 at *
              generalize (R ++ [x]).map tN = T3 at *
              generalize R.map tN = T at *
              generalize (nzL x left).map tN = T4 at *
              generalize (left.filter (missP l)).map tN = T6 at *
              generalize left.map tN = T2 at *
              simp [goBody, ad, lc, ih, ih2, -addD_tt]
            · refine .inl ⟨_, [.fz (.tuple (R.map tN)), .fz (.list (left.map tN)), .fz (.bool cl), .fz (.list ((left.filter (missP l)).map tN)), .fz (tN x), .fz .none, .un], rfl, ?_, ⟨_, _, rfl⟩, hq⟩
              generalize (R ++ [x]).map tN = T3 at *
              generalize R.map tN = T at *
              generalize (nzL x left).map tN = T4 at *
              generalize (left.filter (missP l)).map tN = T6 at *
              generalize left.map tN = T2 at *
              simp [goBody, ad, lc, ih, isn_n, -addD_tt]) with ⟨r', lp, ⟨v4, v5, er⟩, hA⟩ | ⟨x, hx, v, r', lp, ⟨v4, v5, er⟩, p, hp, hq, ev⟩
        · refine .inr ⟨fun p hp => ?_, ?_⟩
          · cases p with
            | nil => rw [hE] at hp; exact absurd hp.length_eq (by simp)
            | cons x p =>
              have hx : x ∈ left := hp.mem_iff.mp List.mem_cons_self
              show (missP l x && pathP f cl x p) = false
              cases hm : missP l x with
              | false => rfl
              | true => rw [hA x ((mS x).mpr ⟨hx, hm⟩) p ((nz_perm hn hx).mp hp)]; rfl
          · subst er
            show runF 7 3 [] (b_gone_on (f_gone_on (d + 1))) _ = _
            rw [b_gone_eq]
            have so : goSort _ = _ := so
            generalize goBody (d + 1) = GB at *
            generalize goSort = GS at *
            clear i0 il m0 hS mS hA
            generalize (left.filter (missP l)).map tN = T6 at *
            generalize S.map tN = T5 at *
            generalize R.map tN = T at *
            generalize left.map tN = T2 at *
            simp [runF, outsF, List.range_succ, el, ne, l1, so, lp, -ixD_t]
        · obtain ⟨hx, hm⟩ := (mS x).mp hx
          refine .inl ⟨x :: p, (nz_perm hn hx).mpr hp, ?_, ?_⟩
          · show (missP l x && pathP f cl x p) = true
            rw [hm, hq]
            rfl
          · subst er
            subst ev
            have e3 : (R ++ [x]) ++ p = R ++ x :: p := by simp
            rw [e3] at lp
            show runF 7 3 [] (b_gone_on (f_gone_on (d + 1))) _ = _
            rw [b_gone_eq]
            have so : goSort _ = _ := so
            generalize goBody (d + 1) = GB at *
            generalize goSort = GS at *
            clear i0 il m0 hS mS
            generalize (R ++ x :: p).map tN = T7 at *
            generalize (left.filter (missP l)).map tN = T6 at *
            generalize S.map tN = T5 at *
            generalize R.map tN = T at *
            generalize left.map tN = T2 at *
            simp [runF, outsF, List.range_succ, el, ne, l1, so, lp, -ixD_t]
end MP

namespace MP
open PySem MS
/-! rings: each tied to the next one round -/
theorem castL_injR : ∀ {a b : List Nat}, castL a = castL b → a = b
  | [], [], _ => rfl
  | [], _ :: _, h => by cases h
  | _ :: _, [], h => by cases h
  | x :: a, y :: b, h => by
    have h' : ((x : Int) :: castL a) = ((y : Int) :: castL b) := h
    injection h' with h1 h2
    rw [castL_injR h2, show x = y by omega]
def ringZ (oss : List (List Nat)) : Bool := (oss.zip (oss.drop 1 ++ oss.take 1)).all fun p => missP p.1 p.2
def prT (p : List Nat × List Nat) : D := .tuple [tN p.1, tN p.2]
end MP

namespace MP
open PySem MS
/-! rows and rings through all -/
def rowZ (oss : List (List Nat)) : Bool := (oss.zip (oss.drop 1)).all fun p => missP p.1 p.2
theorem getD_at (oss : List (List Nat)) {i : Nat} (h : i < oss.length) : oss.getD i [] = oss[i] := by
  rw [List.getD_eq_getElem?_getD, List.getElem?_eq_getElem h]
  rfl
def rowX (oss : List (List Nat)) (i : Nat) : Bool := missP (oss.getD i []) (oss.getD (i + 1) [])
theorem rowZ_range (oss : List (List Nat)) : rowZ oss = (List.range (oss.length - 1)).all (rowX oss) := by
  unfold rowZ
  rw [Bool.eq_iff_iff, List.all_eq_true, List.all_eq_true]
  constructor
  · intro h i hi
    have hi := List.mem_range.mp hi
    have hm : (oss[i]'(by omega), (oss.drop 1)[i]'(by rw [List.length_drop]; omega)) ∈ oss.zip (oss.drop 1) := by
      refine List.mem_iff_getElem.mpr ⟨i, by rw [List.length_zip, List.length_drop]; omega, by rw [List.getElem_zip]⟩
    have := h _ hm
    simp only [List.getElem_drop] at this
    unfold rowX
    rw [getD_at oss (by omega), getD_at oss (by omega)]
    simpa [Nat.add_comm] using this
  · intro h p hp
    obtain ⟨i, hi, rfl⟩ := List.getElem_of_mem hp
    rw [List.length_zip, List.length_drop] at hi
    rw [List.getElem_zip]
    have := h i (List.mem_range.mpr (by omega))
    unfold rowX at this
    rw [getD_at oss (by omega), getD_at oss (by omega)] at this
    simpa [Nat.add_comm] using this
theorem ring_zip (f : List Nat × List Nat → Bool) (b : List Nat) : ∀ (xs : List (List Nat)) (a : List Nat), ((a :: xs).zip (xs ++ [b])).all f = (((a :: xs).zip xs).all f && f ((a :: xs).getLast (List.cons_ne_nil a xs), b))
  | [], a => by simp
  | y :: ys, a => by
    have ih := ring_zip f b ys y
    rw [List.cons_append, List.zip_cons_cons, List.all_cons, ih, List.zip_cons_cons, List.all_cons, List.getLast_cons (List.cons_ne_nil y ys), Bool.and_assoc]
theorem ringZ_row (oss : List (List Nat)) (h0 : oss ≠ []) : ringZ oss = (rowZ oss && missP (oss.head h0) (oss.getLast h0)) := by
  cases oss with
  | nil => exact absurd rfl h0
  | cons x xs =>
    unfold ringZ rowZ
    have := ring_zip (fun p => missP p.1 p.2) x xs x
    simp only [List.drop_one, List.tail_cons, List.take_one, List.head?_cons, Option.toList_some, List.head_cons]
    rw [this, missP_comm x]
theorem neD_tT (a b : List (List Nat)) : neD (.list (a.map tN)) (.list (b.map tN)) = some (.fz (.bool (!(a == b)))) := by
  have h := depth_tNs a
  have e : eqOk (.list (a.map tN)) (.list (b.map tN)) = true := by
    simp only [eqOk, Bool.and_eq_true, decide_eq_true_eq]
    refine ⟨⟨plain_tNs a, plain_tNs b⟩, Nat.le_trans (Nat.min_le_left _ _) ?_⟩
    simp only [PyData.depth]
    omega
  unfold neD
  rw [if_pos e, show PyData.eqv (.list (a.map tN)) (.list (b.map tN)) = (a == b) from eqv_tNs a b]
theorem sortedU_tT (oss : List (List Nat)) (h : ∀ o ∈ oss, o ≠ []) : sortedU [tT oss] = some (.ol ((isort leN oss).map tN)) := sorted_tN oss h
theorem eqD_nilT (L : List Nat) : eqD (.list (L.map iN)) (.list []) = some (.fz (.bool L.isEmpty)) := by
  have := eqD_ints (L.map fun i : Nat => (i : Int)) []
  rw [List.map_map] at this
  refine Eq.trans this ?_
  cases L <;> rfl
theorem filt_all {α : Type} (p : α → Bool) : ∀ L : List α, (L.filter fun x => !p x).isEmpty = L.all p
  | [] => rfl
  | x :: xs => by
    have ih := filt_all p xs
    rw [List.filter_cons, List.all_cons]
    cases p x with
    | false => rfl
    | true => simpa using ih
def rowP (n k : Nat) (oss : List (List Nat)) : Bool := isort leN oss == allP n k && rowZ oss
end MP

namespace MP
open PySem MS
/-! rows: put together, turned about -/
def rowQ : List (List Nat) → Bool
  | [] => true
  | [_] => true
  | x :: y :: r => missP x y && rowQ (y :: r)
theorem rowZ_Q : ∀ l : List (List Nat), rowZ l = rowQ l
  | [] => rfl
  | [_] => rfl
  | x :: y :: r => by
    have ih := rowZ_Q (y :: r)
    unfold rowZ at ih ⊢
    simp only [List.drop_one, List.tail_cons, List.zip_cons_cons, List.all_cons] at ih ⊢
    rw [rowQ, ← ih]
def joinQ (a b : List (List Nat)) : Bool := match a.getLast?, b.head? with
  | some x, some y => missP x y
  | _, _ => true
theorem rowQ_app : ∀ a b : List (List Nat), rowQ (a ++ b) = (rowQ a && (joinQ a b && rowQ b))
  | [], b => by
    have : joinQ [] b = true := rfl
    rw [this]
    rfl
  | [x], b => by
    cases b with
    | nil => rfl
    | cons y r => rfl
  | x :: y :: r, b => by
    have ih := rowQ_app (y :: r) b
    have e : joinQ (x :: y :: r) b = joinQ (y :: r) b := by
      unfold joinQ
      rw [List.getLast?_cons_cons]
    rw [e]
    show (missP x y && rowQ ((y :: r) ++ b)) = ((missP x y && rowQ (y :: r)) && _)
    rw [ih, Bool.and_assoc]
theorem rowQ_rev : ∀ l : List (List Nat), rowQ l.reverse = rowQ l
  | [] => rfl
  | x :: l => by
    have ih := rowQ_rev l
    rw [List.reverse_cons, rowQ_app, ih]
    have e : rowQ (x :: l) = (joinQ [x] l && rowQ l) := by
      have := rowQ_app [x] l
      rw [show rowQ [x] = true from rfl, Bool.true_and] at this
      exact this
    have e2 : joinQ l.reverse [x] = joinQ [x] l := by
      unfold joinQ
      rw [List.getLast?_reverse]
      cases l with
      | nil => rfl
      | cons y r => exact missP_comm y x
    have e3 : rowQ [x] = true := rfl
    rw [e, e2, e3, Bool.and_true, Bool.and_comm]
theorem perm_sub : ∀ (l A : List (List Nat)), l.Nodup → (∀ a ∈ l, a ∈ A) → l.length = A.length → l.Perm A
  | [], A, _, _, hl => by
    have : A = [] := List.eq_nil_of_length_eq_zero (by rw [← hl]; rfl)
    rw [this]
  | x :: l, A, hn, hs, hl => by
    obtain ⟨n1, n2⟩ := List.nodup_cons.mp hn
    have hx := hs x List.mem_cons_self
    have p := List.perm_cons_erase hx
    have pl := p.length_eq
    simp only [List.length_cons] at pl hl
    have ih := perm_sub l (A.erase x) n2 (fun a ha => (List.mem_erase_of_ne (fun e => n1 (by rw [← e]; exact ha))).mpr (hs a (List.mem_cons_of_mem _ ha))) (by omega)
    exact (ih.cons x).trans p.symm
theorem isort_allT : (sizesL.all fun p => isort leN (allP p.1 p.2) == allP p.1 p.2) = true := by decide +kernel
theorem isort_perm_all {n k : Nat} (h1 : 1 ≤ k) (h2 : k ≤ n) (h3 : n ≤ 8) {l : List (List Nat)} (h : l.Perm (allP n k)) : isort leN l = allP n k := by
  have e := eq_of_beq (List.all_eq_true.mp isort_allT (n, k) (sizes_mem h1 h2 h3))
  have e : isort leN (allP n k) = allP n k := e
  have tr : ∀ a b c : List Nat, leN a b = true → leN b c = true → leN a c = true := fun a b c p q => by
    rw [← leN_eq] at *
    exact leL_tr _ _ _ p q
  have to : ∀ a b : List Nat, (leN a b || leN b a) = true := fun a b => by
    rw [← leN_eq, ← leN_eq]
    exact leL_to _ _
  have an : ∀ a b : List Nat, leN a b = true → leN b a = true → a = b := fun a b p q => by
    rw [← leN_eq] at *
    exact castL_injR (leL_an _ _ p q)
  rw [← e]
  exact List.Perm.eq_of_pairwise (le := fun a b => leN a b = true) (fun a b _ _ p q => an a b p q) (isort_pair tr to l) (isort_pair tr to _) ((isort_perm l).trans (h.trans (isort_perm _).symm))
end MP

namespace MP
open PySem MS
/-! where there is a row, a ring through all -/
def srchP (f : List Nat) (cl : Bool) : Nat → List Nat → List (List Nat) → Bool
  | 0, l, left => left.isEmpty && (!cl || missP f l)
  | d + 1, l, left => if left.isEmpty = true then (!cl || missP f l) else (left.filter (missP l)).any fun x => srchP f cl d x (nzL x left)
theorem srch_none (f : List Nat) (cl : Bool) : ∀ (d : Nat) (l : List Nat) (left : List (List Nat)), left.Nodup → left.length ≤ d → srchP f cl d l left = false → ∀ p, p.Perm left → pathP f cl l p = false
  | 0, l, left, _, hd, h, p, hp => by
    have : left = [] := List.length_eq_zero_iff.mp (by omega)
    subst this
    rw [List.perm_nil.mp hp]
    have h : (true && (!cl || missP f l)) = false := h
    rwa [Bool.true_and] at h
  | d + 1, l, left, hn, hd, h, p, hp => by
    have h : (if left.isEmpty = true then (!cl || missP f l) else (left.filter (missP l)).any fun x => srchP f cl d x (nzL x left)) = false := h
    cases p with
    | nil =>
      have : left = [] := List.nil_perm.mp hp
      subst this
      rw [if_pos (show ([] : List (List Nat)).isEmpty = true from rfl)] at h
      exact h
    | cons x p =>
      have hx : x ∈ left := hp.mem_iff.mp List.mem_cons_self
      have ne : ¬ left.isEmpty = true := fun q => by rw [List.isEmpty_iff.mp q] at hx; cases hx
      rw [if_neg ne] at h
      show (missP l x && pathP f cl x p) = false
      cases hm : missP l x with
      | false => rfl
      | true =>
        have ll := less_len hx
        have h2 := List.any_eq_false.mp h x (List.mem_filter.mpr ⟨hx, hm⟩)
        rw [srch_none f cl d x (nzL x left) (hn.sublist List.filter_sublist) (by unfold nzL; omega) (by simpa using h2) p ((nz_perm hn hx).mp hp)]
        rfl
def witL (n k : Nat) (left : List (List Nat)) : List (List Nat) := match n, k with
  | 5, 2 => [[2, 3], [0, 4], [1, 2], [3, 4], [0, 2], [1, 3], [2, 4], [0, 3], [1, 4]]
  | 6, 2 => [[2, 3], [4, 5], [0, 2], [1, 3], [0, 4], [1, 5], [2, 4], [3, 5], [1, 2], [0, 3], [1, 4], [0, 5], [3, 4], [2, 5]]
  | 7, 2 => [[2, 3], [4, 5], [0, 6], [1, 2], [3, 4], [5, 6], [0, 2], [1, 3], [4, 6], [0, 5], [1, 4], [2, 5], [3, 6], [0, 4], [1, 5], [2, 6], [0, 3], [1, 6], [2, 4], [3, 5]]
  | _, _ => left
/-- what the law says: there is one -/
def thrB (n k : Nat) : Bool → Bool
  | true => Nat.ble 3 (allP n k).length && Nat.ble (2 * k + 1) n && !(n == 5 && k == 2)
  | false => (Nat.ble (allP n k).length 2 && Nat.ble (2 * k) n) || (allP n k).length == 1 || Nat.ble (2 * k + 1) n
def okSz (n k : Nat) (cl : Bool) : Bool := match allP n k with
  | [] => false
  | f :: left => decide left.Nodup && (if thrB n k cl = true then (witL n k left).isPerm left && pathP f cl f (witL n k left) else (cl && Nat.ble (left.length + 1) 2) || !srchP f cl left.length f left)
theorem okAll : (sizesL.all fun p => Nat.ble 22 (allP p.1 p.2).length || (okSz p.1 p.2 false && okSz p.1 p.2 true)) = true := by decide +kernel
/-- a row through all; closed: a ring -/
def RowOk (n k : Nat) (cl : Bool) (oss : List (List Nat)) : Prop := oss.Perm (allP n k) ∧ rowQ oss = true ∧ (cl = true → ∀ h : oss ≠ [], missP (oss.head h) (oss.getLast h) = true)
theorem path_row (f : List Nat) (cl : Bool) : ∀ (l : List Nat) (p : List (List Nat)), pathP f cl l p = true → rowQ (l :: p) = true ∧ (cl = true → missP f ((l :: p).getLast (List.cons_ne_nil l p)) = true)
  | l, [], h => by
    have h : (!cl || missP f l) = true := h
    exact ⟨rfl, fun c => by rw [c] at h; simpa using h⟩
  | l, x :: p, h => by
    have h : (missP l x && pathP f cl x p) = true := h
    rw [Bool.and_eq_true] at h
    obtain ⟨a, b⟩ := path_row f cl x p h.2
    refine ⟨?_, fun c => ?_⟩
    · show (missP l x && rowQ (x :: p)) = true
      rw [h.1, a]
      rfl
    · rw [List.getLast_cons (List.cons_ne_nil x p)]
      exact b c
section
variable {n k : Nat} (h1 : 1 ≤ k) (h2 : k ≤ n) (h3 : n ≤ 8)
include h1 h2 h3
theorem size_ok (hl : ¬ 21 < (allP n k).length) (cl : Bool) : okSz n k cl = true := by
  have h := List.all_eq_true.mp okAll (n, k) (sizes_mem h1 h2 h3)
  have h : (Nat.ble 22 (allP n k).length || (okSz n k false && okSz n k true)) = true := h
  rw [Bool.or_eq_true, Bool.and_eq_true] at h
  rcases h with h | h
  · have := Nat.le_of_ble_eq_true h
    omega
  · cases cl
    · exact h.1
    · exact h.2
theorem gone_all (hl : ¬ 21 < (allP n k).length) (cl : Bool) (hc : cl = true → 3 ≤ (allP n k).length) : ∃ f left, allP n k = f :: left ∧
    ((thrB n k cl = true ∧ ∃ oss, RowOk n k cl oss ∧ f_gone_on 24 [.fz (.tuple [tN f]), .fz (.list (left.map tN)), .fz (.bool cl)] = .ok (.fz (.tuple (oss.map tN))) [.un, .un, .un]) ∨
     (thrB n k cl = false ∧ f_gone_on 24 [.fz (.tuple [tN f]), .fz (.list (left.map tN)), .fz (.bool cl)] = .ok (.fz .none) [.un, .un, .un])) := by
  obtain ⟨ag, ane, alen⟩ := all_good_at h1 h2 h3
  have ok := size_ok h1 h2 h3 hl cl
  unfold okSz at ok
  cases e : allP n k with
  | nil => exact absurd e ane
  | cons f left =>
    rw [e] at ok hl hc ag
    have ok : (decide left.Nodup && (if thrB n k cl = true then (witL n k left).isPerm left && pathP f cl f (witL n k left) else (cl && Nat.ble (left.length + 1) 2) || !srchP f cl left.length f left)) = true := ok
    rw [Bool.and_eq_true, decide_eq_true_eq] at ok
    obtain ⟨hn, ok⟩ := ok
    simp only [List.length_cons] at hl hc
    have s6 : ∀ x ∈ f :: left, x.length ≤ 60 := fun x hx => by rw [(ag x hx).1]; omega
    refine ⟨f, left, rfl, ?_⟩
    have go := gone_eq 23 [f] f f left cl rfl rfl (by omega) (by simp; omega) hn (s6 f List.mem_cons_self) (fun x hx => s6 x (List.mem_cons_of_mem _ hx)) (s6 f List.mem_cons_self)
    cases ht : thrB n k cl with
    | true =>
      rw [ht, if_pos rfl, Bool.and_eq_true] at ok
      rcases go with ⟨p, hp, hq, go⟩ | ⟨hq, go⟩
      · refine .inl ⟨rfl, f :: p, ⟨?_, ?_, fun c h => ?_⟩, go⟩
        · rw [e]
          exact hp.cons f
        · exact (path_row f cl f p hq).1
        · exact (path_row f cl f p hq).2 c
      · exact absurd ok.2 (by rw [hq _ (List.isPerm_iff.mp ok.1)]; exact Bool.false_ne_true)
    | false =>
      rw [ht, if_neg Bool.false_ne_true, Bool.or_eq_true, Bool.and_eq_true] at ok
      rcases ok with ⟨c, b⟩ | ok
      · have := hc c
        have := Nat.le_of_ble_eq_true b
        omega
      · have no := srch_none f cl left.length f left hn (Nat.le_refl _) (by simpa using ok)
        rcases go with ⟨p, hp, hq, go⟩ | ⟨hq, go⟩
        · rw [no p hp] at hq
          cases hq
        · exact .inr ⟨rfl, go⟩
end
end MP

namespace MP
open PySem MS
theorem all_of_eq (n k : Nat) (h1 : n ≤ 8) (h2 : k ≤ 8) : f_all_of [.fz (iN n), .fz (iN k)] = .ok (.ol ((allP n k).map tN)) [.un, .un] := by
  have lp := forL_rg (t := tgN 3) (body := sSet 2 (eSumL (eLc [4] (iSeq (eRd 2)) (tgN 4) tTrue (eLc [5] (iR2 (.v (bin addD (.v (app maxD [(.v (bin addD (.v (eTup [(una negD (.v (eK (.int 1))))])) (.sl 4)))])) (.v (eK (.int 1))))) (.sl 0)) (tgN 5) tTrue (bin addD (.sl 4) (.v (eTup [(eRd 5)]))))))) (k := k)
    (r := [.fz (iN n), .fz (iN k), .ol ((allP n 0).map tN), .un, .un, .un])
    (fun i r => ∃ v, r = [.fz (iN n), .fz (iN k), .ol ((allP n i).map tN), v, .un, .un]) (fun i hi r ⟨v, er⟩ => by
      subst er
      have h := eLc_m (im := iSeq (eRd 2)) (t := tgN 4) (test := tTrue) (elt := eLc [5] (iR2 (.v (bin addD (.v (app maxD [(.v (bin addD (.v (eTup [(una negD (.v (eK (.int 1))))])) (.sl 4)))])) (.v (eK (.int 1))))) (.sl 0)) (tgN 5) tTrue (bin addD (.sl 4) (.v (eTup [(eRd 5)])))) (vs := [4]) (r := [.fz (iN n), .fz (iN k), .ol ((allP n i).map tN), .fz (iN i), .un, .un]) (r0 := [.fz (iN n), .fz (iN k), .fz (lT (allP n i)), .fz (iN i), .un, .un]) (xs := allP n i) tN (fun one => lT (nextA n one))
        (by simp [lT]) (small_LINE (by have := smA_len (i := i) h1 (by omega); omega)) (by rfl) (by rfl) (fun one hm => by
          obtain ⟨m1, m2⟩ := smA_mem (i := i) h1 (by omega) hm
          have := all_inner n k (lT (allP n i)) (.fz (iN i)) one (by omega) m1 m2
          simp [stepOk, this]
          rfl)
      have e2 : sumLD [.list ((allP n i).map fun one => lT (nextA n one))] = some ((allP n (i + 1)).map tN) := by
        have := sumL_lT ((allP n i).map (nextA n)) (by have := smA_len (i := i + 1) h1 (by omega); unfold allP at this; omega)
        rw [List.map_map] at this
        exact this
      refine ⟨_, _, rfl, ?_, .fz (iN i), rfl⟩
      simp [h, e2]) ⟨.un, rfl⟩
  obtain ⟨r', e1, v, e2⟩ := lp
  subst e2
  have e3 : iR1 (.sl 1) [.fz (iN n), .fz (iN k), .ol ((allP n 0).map tN), .un, .un, .un] = .ok ((List.range k).map iN) [.fz (iN n), .fz (iN k), .ol ((allP n 0).map tN), .un, .un, .un] := iR1_nat (j := k) (by simp) (by omega)
  rw [show (allP n 0).map tN = [PyData.tuple []] from rfl] at e1 e3
  simp [f_all_of, runF, b_all_of, outsF, List.range_succ, -x_iR1, e3, e1]
end MP

namespace MP
open PySem MS
/-! sizes with few sets -/
theorem gt_mm (a b : Nat) : gtD (iN a) (iN b) = some (.fz (.bool (decide (b < a)))) := by
  show some (Val.fz (.bool (decide ((b : Int) < (a : Int))))) = _
  congr 3
  exact decide_eq_decide.mpr (by omega)
theorem lt_mm (a b : Nat) : ltD (iN a) (iN b) = some (.fz (.bool (decide (a < b)))) := by
  show some (Val.fz (.bool (decide ((a : Int) < (b : Int))))) = _
  congr 3
  exact decide_eq_decide.mpr (by omega)
theorem few_okM {n k : Nat} (h1 : 1 ≤ k) (h2 : k ≤ n) (h3 : n ≤ 8) (most : Nat) (hl : ¬ most < (allP n k).length) : f_must_few [.fz (iN n), .fz (iN k), .fz (iN most)] = .ok (.fz .none) [.un, .un, .un] := by
  have ms := must_size_yes n k h1 h2 h3
  have ao := all_of_eq n k h3 (by omega)
  have ll := len_tNs (allP n k)
  have gt := gt_mm (allP n k).length most
  rw [decide_eq_false hl] at gt
  generalize (allP n k).map tN = T at *
  generalize (allP n k).length = L at *
  generalize iN most = M at *
  simp [f_must_few, runF, b_must_few, outsF, List.range_succ, ms, ao, ll, gt, -lenD_l, -gtD_ii]
end MP

namespace MP
open PySem MS
/-! some_row, some_ring -/
section
variable {n k : Nat} (h1 : 1 ≤ k) (h2 : k ≤ n) (h3 : n ≤ 8)
include h1 h2 h3
theorem some_row_eq (hl : ¬ 21 < (allP n k).length) : (thrB n k false = true ∧ ∃ oss, RowOk n k false oss ∧ f_some_row [.fz (iN n), .fz (iN k)] = .ok (.fz (.tuple (oss.map tN))) [.un, .un]) ∨ (thrB n k false = false ∧ f_some_row [.fz (iN n), .fz (iN k)] = .ok (.fz .none) [.un, .un]) := by
  obtain ⟨f, left, e, go⟩ := gone_all h1 h2 h3 hl false (fun q => nomatch q)
  have fo : f_must_few [.fz (iN n), .fz (iN k), .fz (.int 21)] = .ok (.fz .none) [.un, .un, .un] := few_okM h1 h2 h3 21 hl
  have ao := all_of_eq n k h3 (by omega)
  rw [e] at ao
  have i0 : ixD (.list ((f :: left).map tN)) (.int 0) = some (.fz (tN f)) := by
    show (L2.atI _ ((0 : Nat) : Int)).map Val.fz = _
    rw [atI_nat]
    rfl
  have s1 : slD (.list ((f :: left).map tN)) (some 1) none = some (.ol (left.map tN)) := by
    show some (Val.ol (cutD _ (some ((1 : Nat) : Int)) none)) = _
    rw [cut_from]
    rfl
  rcases go with ⟨ht, oss, ro, go⟩ | ⟨ht, go⟩
  · refine .inl ⟨ht, oss, ro, ?_⟩
    generalize (f :: left).map tN = T at *
    generalize left.map tN = T2 at *
    generalize oss.map tN = T3 at *
    simp [f_some_row, runF, b_some_row, outsF, List.range_succ, fo, ao, i0, s1, go, -ixD_l, -slD_l]
  · refine .inr ⟨ht, ?_⟩
    generalize (f :: left).map tN = T at *
    generalize left.map tN = T2 at *
    simp [f_some_row, runF, b_some_row, outsF, List.range_succ, fo, ao, i0, s1, go, -ixD_l, -slD_l]
theorem some_ring_eq (hl : ¬ 21 < (allP n k).length) : (thrB n k true = true ∧ ∃ oss, RowOk n k true oss ∧ 3 ≤ oss.length ∧ f_some_ring [.fz (iN n), .fz (iN k)] = .ok (.fz (.tuple (oss.map tN))) [.un, .un]) ∨ (thrB n k true = false ∧ f_some_ring [.fz (iN n), .fz (iN k)] = .ok (.fz .none) [.un, .un]) := by
  have fo : f_must_few [.fz (iN n), .fz (iN k), .fz (.int 21)] = .ok (.fz .none) [.un, .un, .un] := few_okM h1 h2 h3 21 hl
  have ao := all_of_eq n k h3 (by omega)
  have ll := len_tNs (allP n k)
  have lt : ltD (iN (allP n k).length) (.int 3) = _ := lt_mm (allP n k).length 3
  by_cases q : (allP n k).length < 3
  · have ht : thrB n k true = false := by
      unfold thrB
      rw [show Nat.ble 3 (allP n k).length = false from Bool.eq_false_iff.mpr fun z => by have := Nat.le_of_ble_eq_true z; omega]
      rfl
    refine .inr ⟨ht, ?_⟩
    rw [decide_eq_true q] at lt
    generalize (allP n k).map tN = T at *
    generalize (allP n k).length = L at *
    simp [f_some_ring, runF, b_some_ring, outsF, List.range_succ, fo, ao, ll, lt, -lenD_l, -ltD_ii]
  · rw [decide_eq_false q] at lt
    obtain ⟨f, left, e, go⟩ := gone_all h1 h2 h3 hl true (fun _ => by omega)
    have len := congrArg List.length e
    rw [e] at ao ll lt
    have i0 : ixD (.list ((f :: left).map tN)) (.int 0) = some (.fz (tN f)) := by
      show (L2.atI _ ((0 : Nat) : Int)).map Val.fz = _
      rw [atI_nat]
      rfl
    have s1 : slD (.list ((f :: left).map tN)) (some 1) none = some (.ol (left.map tN)) := by
      show some (Val.ol (cutD _ (some ((1 : Nat) : Int)) none)) = _
      rw [cut_from]
      rfl
    rcases go with ⟨ht, oss, ro, go⟩ | ⟨ht, go⟩
    · refine .inl ⟨ht, oss, ro, by rw [ro.1.length_eq]; omega, ?_⟩
      generalize (f :: left).map tN = T at *
      generalize left.map tN = T2 at *
      generalize oss.map tN = T3 at *
      generalize (f :: left).length = L at *
      simp [f_some_ring, runF, b_some_ring, outsF, List.range_succ, fo, ao, ll, lt, i0, s1, go, -lenD_l, -ltD_ii, -ixD_l, -slD_l]
    · refine .inr ⟨ht, ?_⟩
      generalize (f :: left).map tN = T at *
      generalize left.map tN = T2 at *
      generalize (f :: left).length = L at *
      simp [f_some_ring, runF, b_some_ring, outsF, List.range_succ, fo, ao, ll, lt, i0, s1, go, -lenD_l, -ltD_ii, -ixD_l, -slD_l]
end
end MP

namespace MP
open PySem MS
/-! try, refusals with fields -/
@[simp] theorem x_sTry (i : Nat) (body : M Fl) (hd : String → List D → M Fl) (r : List Val) : sTry i body hd r = (match body r with
  | .ok f r' => .ok f r'
  | .exc c ds r' => if i < r'.length then (match hd c ds (r'.set i .un) with
    | .ok (.rt v) r2 => .ok (.rt v) r2
    | _ => .err)
    else .err
  | .err => .err) := (rfl)
@[simp] theorem x_sRaiseV (nm : String) (ms : List (M Val)) (r : List Val) : sRaiseV nm ms r = (match vals ms r with
  | .ok ds r' => (match twoI ds with
    | some (i, j) => .exc nm [.int i, .int j] r'
    | none => .err)
  | .exc c ds r' => .exc c ds r'
  | .err => .err) := by
  unfold sRaiseV
  rw [x_bind]
  cases vals ms r with
  | ok ds r' =>
    simp only
    cases twoI ds with
    | none => rfl
    | some ij => rfl
  | exc c ds r' => rfl
  | err => rfl
@[simp] theorem x_twoI (i j : Int) : twoI [.int i, .int j] = some (i, j) := (rfl)
theorem x_twoN (i j : Nat) : twoI [iN i, iN j] = some ((i : Int), (j : Int)) := (rfl)
@[simp] theorem x_xf0 (i j : D) : xfE 0 [i, j] = eK i := (rfl)
@[simp] theorem x_xf1 (i j : D) : xfE 1 [i, j] = eK j := (rfl)
end MP

namespace MP
open PySem MS
/-! sizes with too many sets, where it is told how many -/
theorem few_noM {n k : Nat} (h1 : 1 ≤ k) (h2 : k ≤ n) (h3 : n ≤ 8) (most : Nat) (hl : most < (allP n k).length) : f_must_few [.fz (iN n), .fz (iN k), .fz (iN most)] = .exc "TooGreat" [iN (allP n k).length, iN most] [.un, .un, .un] := by
  have ms := must_size_yes n k h1 h2 h3
  have ao := all_of_eq n k h3 (by omega)
  have ll := len_tNs (allP n k)
  have gt := gt_mm (allP n k).length most
  have tw := x_twoN (allP n k).length most
  rw [decide_eq_true hl] at gt
  generalize (allP n k).map tN = T at *
  have e1 : iN (allP n k).length = .int ((allP n k).length : Int) := rfl
  have e2 : iN most = .int (most : Int) := rfl
  generalize (allP n k).length = L at *
  generalize iN most = M at *
  subst e2
  generalize iN L = M2 at *
  subst e1
  simp [f_must_few, runF, b_must_few, outsF, List.range_succ, ms, ao, ll, gt, -lenD_l, -gtD_ii]
end MP

namespace MP
open PySem MS
/-! any thing: is it a set, by its ends (for things of up to 100) -/
theorem lwhole_any (d : D) : f__law_whole [.fz d] = .ok (.fz (.bool (intD d))) [.un] := by
  cases d with
  | bool b => cases b <;> simp [f__law_whole, runF, b__law_whole, outsF, List.range_succ, intD]
  | _ => simp [f__law_whole, runF, b__law_whole, outsF, List.range_succ, intD]
theorem all_int : ∀ ds : List D, ds.all intD = (intsD ds).isSome
  | [] => rfl
  | d :: ds => by
    have ih := all_int ds
    cases d with
    | int i =>
      rw [List.all_cons, ih]
      show (true && (intsD ds).isSome) = ((intsD ds).map _).isSome
      cases intsD ds <;> rfl
    | _ => rfl
theorem le_last : ∀ (ns : List Int) (h : ns ≠ []), ns.Pairwise (· < ·) → ∀ z ∈ ns, z ≤ ns.getLast h
  | [x], _, _, z, hz => by rw [List.mem_singleton.mp hz]; exact Int.le_refl _
  | x :: y :: r, _, hp, z, hz => by
    have hp' := List.pairwise_cons.mp hp
    rw [List.getLast_cons (List.cons_ne_nil y r)]
    rcases List.mem_cons.mp hz with rfl | hz
    · exact Int.le_of_lt (hp'.1 _ (List.getLast_mem _))
    · exact le_last (y :: r) _ hp'.2 z hz
theorem ge_head : ∀ (ns : List Int) (h : ns ≠ []), ns.Pairwise (· < ·) → ∀ z ∈ ns, ns.head h ≤ z
  | x :: r, _, hp, z, hz => by
    rcases List.mem_cons.mp hz with rfl | hz
    · exact Int.le_refl _
    · exact Int.le_of_lt ((List.pairwise_cons.mp hp).1 z hz)
theorem up_ends (n : Nat) (ns : List Int) (h : ns ≠ []) (hu : upI ns = true) : ns.all (inI n) = (decide (0 ≤ ns.head h) && decide (ns.getLast h < n)) := by
  have hp := (upI_pair ns).mp hu
  have h1 := le_last ns h hp
  have h2 := ge_head ns h hp
  have m1 := List.getLast_mem h
  have m2 := List.head_mem h
  generalize ns.getLast h = y at *
  generalize ns.head h = x at *
  rw [Bool.eq_iff_iff, List.all_eq_true, Bool.and_eq_true, decide_eq_true_eq, decide_eq_true_eq]
  constructor
  · intro q
    have a := q x m2
    have b := q y m1
    simp only [inI, Bool.and_eq_true, decide_eq_true_eq] at a b
    omega
  · intro q z hz
    have a := h1 z hz
    have b := h2 z hz
    simp only [inI, Bool.and_eq_true, decide_eq_true_eq]
    omega
theorem is_set_any (n k : Nat) (hn : 1 ≤ n) (hk : 1 ≤ k) (hk8 : k ≤ 8) (d : D) (hs : smallE d) : f__law_is_set [.fz (iN n), .fz (iN k), .fz d] = .ok (.fz (.bool (setD n k d))) [.un, .un, .un] := by
  cases d with
  | tuple ds =>
    have hl := hs ds rfl
    have ll : neD (.int (ds.length : Int)) (iN k) = some (.fz (.bool (!(ds.length == k)))) := neD_nn ds.length k
    cases hkk : ds.length == k with
    | false =>
      rw [hkk] at ll
      simp [f__law_is_set, runF, b__law_is_set, outsF, List.range_succ, ll, setD, hkk]
    | true =>
      rw [hkk] at ll
      have h := eLc_m (im := iSeq (eRd 2)) (t := tgN 3) (test := tTrue) (elt := callV f__law_whole [(eRd 3)]) (vs := [3]) (r := [.fz (iN n), .fz (iN k), .fz (.tuple ds), .un]) (r0 := [.fz (iN n), .fz (iN k), .fz (.tuple ds), .un]) (xs := ds) id (fun x => .bool (intD x))
        (by simp) (small_LINE (by omega)) (by rfl) (by rfl) (fun x hx => by simp [stepOk, lwhole_any])
      have ha : allD [.list (ds.map fun x => .bool (intD x))] = some (.fz (.bool (intsD ds).isSome)) := by
        have := allD_b (ds.map intD)
        rw [List.map_map, List.all_map] at this
        rw [← all_int]
        exact this
      generalize ds.map (fun x => PyData.bool (intD x)) = B at h ha
      cases hi : intsD ds with
      | none =>
        rw [hi] at ha
        have ha' : allD [.list B] = some (.fz (.bool false)) := ha
        simp [f__law_is_set, runF, b__law_is_set, outsF, List.range_succ, ll, setD, hkk, hi, h, ha']
      | some ns =>
        rw [hi] at ha
        have ha' : allD [.list B] = some (.fz (.bool true)) := ha
        have hds := intsD_eq hi
        have hkl : ns.length = k := by
          have := eq_of_beq hkk
          rw [hds, List.length_map] at this
          exact this
        have hnl : ns.length ≤ 60 := by omega
        have hne : ns ≠ [] := fun e => by rw [e] at hkl; simp at hkl; omega
        have ss : ssetD (.tuple ds) = some (.ol ((usort ns).map .int)) := by
          show (intsD ds).bind _ = _
          rw [hi]
          show (if ns.length ≤ 60 then some (Val.ol ((usort ns).map .int)) else none) = _
          rw [if_pos hnl]
        have eq : eqD (.list ds) (.list ((usort ns).map .int)) = some (.fz (.bool (upI ns))) := by
          rw [hds, eqD_ints, usort_up]
        cases hup : upI ns with
        | false =>
          rw [hup] at eq
          simp [f__law_is_set, runF, b__law_is_set, outsF, List.range_succ, ll, setD, hkk, hi, h, ha', ss, eq, hup]
        | true =>
          rw [hup] at eq
          have en := up_ends n ns hne hup
          have i0 : ixD (.tuple ds) (.int 0) = some (.fz (.int (ns.head hne))) := by
            rw [hds]
            show (L2.atI (ns.map PyData.int) ((0 : Nat) : Int)).map Val.fz = _
            rw [atI_nat]
            cases ns with
            | nil => exact absurd rfl hne
            | cons o r => rfl
          have i1 : ixD (.tuple ds) (.int (-1)) = some (.fz (.int (ns.getLast hne))) := by
            rw [hds]
            show (L2.atI (ns.map PyData.int) (-1)).map Val.fz = _
            have hpos : 0 < ns.length := List.length_pos_iff.mpr hne
            have hx : L2.ixN (ns.map PyData.int).length (-1) = some (ns.length - 1) := by
              unfold L2.ixN
              rw [List.length_map, if_neg (by decide), if_pos (by omega)]
              congr 1
              omega
            unfold L2.atI
            rw [hx]
            show ((ns.map PyData.int)[ns.length - 1]?).map Val.fz = _
            rw [List.getElem?_map, List.getLast_eq_getElem, List.getElem?_eq_getElem (by omega)]
            rfl
          have ng : negD (.int 1) = some (.fz (.int (-1))) := rfl
          generalize ns.head hne = x at en i0
          generalize ns.getLast hne = y at en i1
          have lt : ltD (.int y) (iN n) = some (.fz (.bool (decide (y < n)))) := rfl
          by_cases hx : 0 ≤ x
          · simp [f__law_is_set, runF, b__law_is_set, outsF, List.range_succ, ll, setD, hkk, hi, h, ha', ss, eq, hup, en, i0, i1, ng, lt, hx, -ixD_t, -List.all_eq_true]
          · simp [f__law_is_set, runF, b__law_is_set, outsF, List.range_succ, ll, setD, hkk, hi, h, ha', ss, eq, hup, en, i0, i1, ng, lt, hx, -ixD_t, -List.all_eq_true]
  | _ => simp [f__law_is_set, runF, b__law_is_set, outsF, List.range_succ, setD]
end MP

namespace MP
open PySem MS
theorem miss_eq (a b : List Nat) (ha : a.length ≤ LINE) : f__law_miss [.fz (tN a), .fz (tN b)] = .ok (.fz (.bool (missP a b))) [.un, .un] := by
  have h := eLc_fo (im := iSeq (eRd 0)) (t := tgN 2) (test := asB (bin inD (.sl 2) (.sl 1))) (elt := eRd 2) (vs := [2]) (r := [.fz (tN a), .fz (tN b), .un]) (r0 := [.fz (tN a), .fz (tN b), .un]) (xs := a) iN b.contains iN (by simp [tN]) ha (by rfl) (by rfl) (fun x hx => by
    simp only [stepOk, inD_i, x_tgN, x_asB, x_bin, x_ev2, x_preS, x_lookS, x_slotD, x_wipe1, x_wipe0, List.set_cons_succ, List.set_cons_zero, List.getElem?_cons_succ, List.getElem?_cons_zero]
    cases b.contains x <;> simp)
  simp [f__law_miss, runF, b__law_miss, h, outsF, eqD_nil, plain_iNs, missP, List.range_succ]
end MP

namespace MP
open PySem MS
/-! the law's own sets -/
def setA (k : Nat) : Nat → List (List Nat)
  | 0 => [[]]
  | i + 1 => setA k i ++ ((setA k i).filter fun one => decide (one.length < k)).map fun one => one ++ [i]
def setP (n k : Nat) : List (List Nat) := isort leN ((setA k n).filter fun one => one.length == k)
def smS (k i : Nat) : Bool := ((setA k i).all fun one => Nat.ble one.length 1000) && Nat.ble (setA k i).length 1000
theorem smS_ok : ((List.range 9).all fun k => (List.range 10).all fun i => smS k i) = true := by decide +kernel
theorem smS_at {k i : Nat} (h1 : k ≤ 8) (h2 : i ≤ 9) : smS k i = true := by
  have := List.all_eq_true.mp smS_ok k (List.mem_range.mpr (by omega))
  exact List.all_eq_true.mp this i (List.mem_range.mpr (by omega))
theorem smS_len {k i : Nat} (h1 : k ≤ 8) (h2 : i ≤ 9) : (setA k i).length ≤ 1000 := by
  have := smS_at h1 h2
  unfold smS at this
  rw [Bool.and_eq_true] at this
  exact Nat.le_of_ble_eq_true this.2
theorem smS_mem {k i : Nat} (h1 : k ≤ 8) (h2 : i ≤ 9) {one : List Nat} (hm : one ∈ setA k i) : one.length ≤ 1000 := by
  have := smS_at h1 h2
  unfold smS at this
  rw [Bool.and_eq_true] at this
  exact Nat.le_of_ble_eq_true (List.all_eq_true.mp this.1 one hm)
theorem sets_eq (n k : Nat) (h1 : n ≤ 8) (h2 : k ≤ 8) (h0 : 1 ≤ k) : f__law_sets [.fz (iN n), .fz (iN k)] = .ok (.ol ((setP n k).map tN)) [.un, .un] := by
  have lp := forL_rg (t := tgN 3) (body := sSet 2 (bin addD (.sl 2) (.v (eLc [4] (iSeq (eRd 2)) (tgN 4) (asB (bin ltD (.v (app lenD [(.sl 4)])) (.sl 1))) (bin addD (.sl 4) (.v (eTup [(eRd 3)]))))))) (k := n)
    (r := [.fz (iN n), .fz (iN k), .ol ((setA k 0).map tN), .un, .un])
    (fun i r => ∃ v, r = [.fz (iN n), .fz (iN k), .ol ((setA k i).map tN), v, .un]) (fun i hi r ⟨v, er⟩ => by
      subst er
      have h := eLc_fo (im := iSeq (eRd 2)) (t := tgN 4) (test := asB (bin ltD (.v (app lenD [(.sl 4)])) (.sl 1))) (elt := bin addD (.sl 4) (.v (eTup [(eRd 3)]))) (vs := [4]) (r := [.fz (iN n), .fz (iN k), .ol ((setA k i).map tN), .fz (iN i), .un]) (r0 := [.fz (iN n), .fz (iN k), .fz (lT (setA k i)), .fz (iN i), .un]) (xs := setA k i) tN (fun one => decide (one.length < k)) (fun one => tN (one ++ [i]))
        (by simp [lT]) (small_LINE (by have := smS_len (i := i) h2 (by omega); omega)) (by rfl) (by rfl) (fun one hm => by
          have m1 := smS_mem (i := i) h2 (by omega) hm
          by_cases q : one.length < k
          · simp [stepOk, len_tN, q, addD_tN one i m1]
          · simp [stepOk, len_tN, q])
      have l1 := smS_len (k := k) (i := i + 1) h2 (by omega)
      unfold setA at l1
      rw [List.length_append, List.length_map] at l1
      have e2 := addD_lT (setA k i) (((setA k i).filter fun one => decide (one.length < k)).map fun one => one ++ [i]) (by rw [List.length_map]; omega)
      rw [lT, lT, List.map_map] at e2
      refine ⟨_, _, rfl, ?_, .fz (iN i), rfl⟩
      simp only [Function.comp_def] at e2
      simp [h, lT, e2, setA]) ⟨.un, rfl⟩
  obtain ⟨r', e1, v, e2⟩ := lp
  subst e2
  have e3 : iR1 (.sl 0) [.fz (iN n), .fz (iN k), .ol ((setA k 0).map tN), .un, .un] = .ok ((List.range n).map iN) [.fz (iN n), .fz (iN k), .ol ((setA k 0).map tN), .un, .un] := iR1_nat (j := n) (by simp) (by omega)
  rw [show (setA k 0).map tN = [PyData.tuple []] from rfl] at e1 e3
  have h := eLc_fo (im := iSeq (eRd 2)) (t := tgN 4) (test := asB (bin eqD (.v (app lenD [(.sl 4)])) (.sl 1))) (elt := eRd 4) (vs := [4]) (r := [.fz (iN n), .fz (iN k), .ol ((setA k n).map tN), v, .un]) (r0 := [.fz (iN n), .fz (iN k), .fz (lT (setA k n)), v, .un]) (xs := setA k n) tN (fun one => one.length == k) tN
    (by simp [lT]) (small_LINE (by have := smS_len (i := n) h2 (by omega); omega)) (by rfl) (by rfl) (fun one hm => by
      cases q : (one.length == k)
      · simp [stepOk, len_tN, q]
      · simp [stepOk, len_tN, q])
  have e4 := sorted_tN ((setA k n).filter fun one => one.length == k) (fun ns hm q => by
    have := (List.mem_filter.mp hm).2
    subst q
    simp at this
    omega)
  simp [f__law_sets, runF, b__law_sets, outsF, List.range_succ, -x_iR1, e3, e1, h, e4, setP]
end MP

namespace MP
open PySem MS
theorem setP_all : (sizesL.all fun p => setP p.1 p.2 == allP p.1 p.2) = true := by decide +kernel
theorem setP_eq {n k : Nat} (h1 : 1 ≤ k) (h2 : k ≤ n) (h3 : n ≤ 8) : setP n k = allP n k := eq_of_beq (List.all_eq_true.mp setP_all (n, k) (sizes_mem h1 h2 h3))
theorem lsets_eq {n k : Nat} (h1 : 1 ≤ k) (h2 : k ≤ n) (h3 : n ≤ 8) : f__law_sets [.fz (iN n), .fz (iN k)] = .ok (.ol ((allP n k).map tN)) [.un, .un] := by
  have := sets_eq n k h3 (by omega) h1
  rw [setP_eq h1 h2 h3] at this
  exact this
end MP

namespace MP
open PySem MS
/-! a drawn thing of a written list -/
theorem pickP {P : D → Prop} (L : List D) (h : ∀ d ∈ L, P d) {x : Nat} (hx : x < L.length) : ∃ d, P d ∧ ixD (.list L) (iN x) = some (.fz d) := by
  refine ⟨L[x], h _ (List.getElem_mem hx), ?_⟩
  show (L2.atI L (x : Int)).map Val.fz = _
  rw [atI_nat, List.getElem?_eq_getElem hx]
  rfl
theorem seq_nx {a b : M Fl} {r r1 : List Val} {x : Res Fl} (h : a r = .ok .nx r1) (k : b r1 = x) : sSeq a b r = x := by
  simp only [x_sSeq, h, k]
def okNe (d : D) : Bool := eqOk d d && PyData.eqv d d
theorem ne_self {d : D} (h : okNe d = true) : neD d d = some (.fz (.bool false)) := by
  unfold okNe at h
  rw [Bool.and_eq_true] at h
  unfold neD
  rw [if_pos h.1, h.2]
  rfl
theorem p30 : powD (.int 10) (.int 30) = some (.fz (.int 1000000000000000000000000000000)) := rfl
/-- the end of a law: a loop over the cells -/
theorem cells_ad (ns : List Int) (hn : ns.length ≤ 63) (c0 : Int) (e : Option Int) : slD (scriptD ns) (some 1) e = some (.ol ((cutD ns (some 1) e).map .int)) ∧ addD (.list [.int c0]) (.list ((cutD ns (some 1) e).map .int)) = some (.ol ((c0 :: cutD ns (some 1) e).map .int)) := by
  refine ⟨?_, ?_⟩
  · unfold scriptD
    rw [slD_l, cutD_map]
  · have := cutD_len ns (some 1) e
    rw [addD_ll, if_pos (small_LINE (by simp; omega))]
    rfl
/-- a loop that ends with False at the first that is none -/
theorem loopR {α : Type} {t : D → M Unit} {body : M Fl} (f : α → D) (p : α → Bool) (R : List Val → Prop) : ∀ (xs : List α) (r : List Val), (∀ x ∈ xs, ∀ r, R r → ∃ r1 r2, t (f x) r = .ok () r1 ∧ R r2 ∧ body r1 = if p x = true then .ok .nx r2 else .ok (.rt (.fz (.bool false))) r2) → R r →
    ∃ r', R r' ∧ forL t body (xs.map f) r = if xs.all p = true then .ok .nx r' else .ok (.rt (.fz (.bool false))) r'
  | [], r, _, hr => ⟨r, hr, rfl⟩
  | x :: xs, r, h, hr => by
    obtain ⟨r1, r2, e1, h2, e2⟩ := h x List.mem_cons_self r hr
    rw [List.map_cons, forL_cons, e1, List.all_cons]
    cases q : p x with
    | false =>
      rw [q, if_neg Bool.false_ne_true] at e2
      refine ⟨r2, h2, ?_⟩
      simp only [e2, Bool.false_and, Bool.false_eq_true, if_false]
    | true =>
      rw [q, if_pos rfl] at e2
      obtain ⟨r', h3, e3⟩ := loopR f p R xs r2 (fun y hy => h y (List.mem_cons_of_mem _ hy)) h2
      refine ⟨r', h3, ?_⟩
      simp only [e2, Bool.true_and]
      exact e3
theorem x_whileF' (c : M Bool) (b : M Fl) (n : Nat) (r : List Val) : whileL c b (n + 1) r = (match c r with
  | .ok k r1 => if k = true then (match b r1 with
      | .ok .nx r2 => whileL c b n r2
      | .ok .ct r2 => whileL c b n r2
      | .ok .bk r2 => .ok .nx r2
      | .ok (.rt v) r2 => .ok (.rt v) r2
      | .exc c es r2 => .exc c es r2
      | .err => .err) else .ok .nx r1
  | .exc c ds r' => .exc c ds r'
  | .err => .err) := by
  conv => lhs; unfold whileL
  rw [x_bind]
  cases c r with
  | ok k r1 => cases k <;> rfl
  | exc c ds r' => rfl
  | err => rfl
theorem cut_to' {α : Type} (xs : List α) (n : Nat) : cutD xs none (some (n : Int)) = xs.take n := by
  unfold cutD
  rw [show HT.sIx xs.length xs.length (some (n : Int)) = min n xs.length from HT.sIx_nat xs.length xs.length n, HT.sIx_none, List.drop_zero, Nat.sub_zero]
  by_cases h : n ≤ xs.length
  · rw [Nat.min_eq_left h]
  · rw [Nat.min_eq_right (by omega), List.take_of_length_le (Nat.le_refl _), List.take_of_length_le (by omega)]
theorem zipD_map {α β : Type} (f : α → D) (g : β → D) : ∀ (xs : List α) (ys : List β), zipD (xs.map f) (ys.map g) = (xs.zip ys).map fun p => .tuple [f p.1, g p.2]
  | [], _ => rfl
  | _ :: _, [] => rfl
  | x :: xs, y :: ys => by
    have ih := zipD_map f g xs ys
    show PyData.tuple [f x, g y] :: zipD (xs.map f) (ys.map g) = _
    rw [ih]
    rfl
theorem enumD_map {α : Type} [Inhabited α] (f : α → D) : ∀ (xs : List α) (j : Nat), enumD (j : Int) (xs.map f) = (List.range xs.length).map fun i => .tuple [iN (j + i), f (xs.getD i default)]
  | [], _ => rfl
  | x :: xs, j => by
    have ih := enumD_map f xs (j + 1)
    simp only [List.length_cons, List.range_succ_eq_map, List.map_cons, List.map_map]
    show PyData.tuple [.int (j : Int), f x] :: enumD ((j : Int) + 1) (xs.map f) = _
    rw [show ((j : Int) + 1) = ((j + 1 : Nat) : Int) by omega, ih]
    refine congrArg (List.cons _) (List.map_congr_left fun i _ => ?_)
    show PyData.tuple [iN (j + 1 + i), f (xs.getD i default)] = .tuple [iN (j + (i + 1)), f ((x :: xs).getD (i + 1) default)]
    rw [show j + 1 + i = j + (i + 1) by omega]
    rfl
theorem allD_map {α : Type} (p : α → Bool) (xs : List α) : allD [.list (xs.map fun x => .bool (p x))] = some (.fz (.bool (xs.all p))) := by
  have := allD_b (xs.map p)
  rw [List.map_map, List.all_map] at this
  exact this
theorem anyD_map {α : Type} (p : α → Bool) (xs : List α) : anyD [.list (xs.map fun x => .bool (p x))] = some (.fz (.bool (xs.any p))) := by
  have := anyD_b (xs.map p)
  rw [List.map_map, List.any_map] at this
  exact this
/-- one turn of a comprehension, that may change the slots -/
def stepTo (t : D → M Unit) (test : M Bool) (elt : M Val) (vs : List Nat) (R R' : List Val) (d : D) (o : Option D) : Prop := match t d R with
  | .ok _ r1 => match test r1 with
    | .ok true r2 => match frz elt r2 with
      | .ok e r3 => o = some e ∧ wipeR r3 vs = R'
      | _ => False
    | .ok false r2 => o = none ∧ wipeR r2 vs = R'
    | _ => False
  | _ => False
theorem lcL_cons {t : D → M Unit} {test : M Bool} {elt : M Val} {vs : List Nat} {R R' R2 : List Val} {d : D} {ds es : List D} {o : Option D} (h : stepTo t test elt vs R R' d o) (h2 : lcL t test elt vs ds R' = .ok es R2) : lcL t test elt vs (d :: ds) R = .ok (o.toList ++ es) R2 := by
  unfold lcL
  unfold stepTo at h
  revert h
  cases t d R with
  | exc c ds r => exact fun h => h.elim
  | err => exact fun h => h.elim
  | ok u r1 =>
    simp only
    cases test r1 with
    | exc c ds r => exact fun h => h.elim
    | err => exact fun h => h.elim
    | ok b r2 =>
      cases b with
      | false =>
        rintro ⟨rfl, e2⟩
        simp only [e2, h2]
        rfl
      | true =>
        simp only
        cases frz elt r2 with
        | exc c ds r => exact fun h => h.elim
        | err => exact fun h => h.elim
        | ok e r3 =>
          rintro ⟨rfl, e2⟩
          simp only [e2, h2]
          rfl
theorem lcL_same {t : D → M Unit} {test : M Bool} {elt : M Val} {vs : List Nat} {R : List Val} {α : Type} (f : α → D) (keep : α → Bool) (out : α → D) : ∀ xs : List α, (∀ x ∈ xs, stepTo t test elt vs R R (f x) (if keep x = true then some (out x) else none)) → lcL t test elt vs (xs.map f) R = .ok ((xs.filter keep).map out) R
  | [], _ => rfl
  | x :: xs, h => by
    have ih := lcL_same f keep out xs fun y hy => h y (List.mem_cons_of_mem _ hy)
    rw [List.map_cons, lcL_cons (h x List.mem_cons_self) ih, List.filter_cons]
    cases keep x <;> rfl
/-- a comprehension whose first turn changes the slots -/
theorem eLc_two {im : M (List D)} {t : D → M Unit} {test : M Bool} {elt : M Val} {vs : List Nat} {r r0 R' : List Val} {α : Type} {x0 : α} {xs : List α} (f : α → D) (keep : α → Bool) (out : α → D) (hi : im r = .ok ((x0 :: xs).map f) r0) (hl : (x0 :: xs).length ≤ LINE) (hh : hid r0 vs = true) (h0 : stepTo t test elt vs (wipeR r0 vs) R' (f x0) (if keep x0 = true then some (out x0) else none)) (hs : ∀ x ∈ xs, stepTo t test elt vs R' R' (f x) (if keep x = true then some (out x) else none)) :
    eLc vs im t test elt r = .ok (.ol (((x0 :: xs).filter keep).map out)) (restR R' r0 vs) := by
  unfold eLc M.bind
  rw [hi]
  simp only
  rw [if_pos ⟨hh, by rw [List.length_map]; exact hl⟩, List.map_cons, lcL_cons h0 (lcL_same f keep out xs hs), List.filter_cons]
  cases keep x0 <;> rfl
end MP

namespace MP
open PySem MS
def lg0 : M Fl := (sIf (tNotM (asB (eIsi "tuple" (.sl 2))))
    (sRet (eK (.bool false)))
    sNil)
def lg1 : M Fl := (sIf (tNotM (asB (callV f__law_is_set [(eRd 0), (eRd 1), (eRd 3)])))
    (sRet (eK (.bool false)))
    sNil)
def lg2 : M Fl := (sIf (asB (bin neD (.v (app sortedU [(.sl 2)])) (.v (callV f__law_sets [(eRd 0), (eRd 1)]))))
    (sRet (eK (.bool false)))
    sNil)
def lgLc : M Val := (eLc [4] (iR2 (.v (eK (.int 1))) (.v (app lenD [(.sl 2)]))) (tgN 4) (tNotM (asB (callV f__law_miss [(bin ixD (.sl 2) (.v (bin subD (.sl 4) (.v (eK (.int 1)))))), (bin ixD (.sl 2) (.sl 4))]))) (eRd 4))
theorem lg_body : b__law_row_good = sSeq lg0 (sSeq (sFor (tgN 3) (iSeq (eRd 2)) lg1) (sSeq lg2 (sRet (bin eqD (.v lgLc) (.v (eLst [])))))) := rfl
section
variable {n k : Nat} (h1 : 1 ≤ k) (h2 : k ≤ n) (h3 : n ≤ 8)
include h1 h2 h3
theorem lgLc_eq (oss : List (List Nat)) (hl : oss.length ≤ 60) (h8 : ∀ o ∈ oss, o.length ≤ 60) (v3 : Val) : (bin eqD (.v lgLc) (.v (eLst []))) [.fz (iN n), .fz (iN k), .fz (tT oss), v3, .un] = .ok (.fz (.bool (rowZ oss))) [.fz (iN n), .fz (iN k), .fz (tT oss), v3, .un] := by
  have ll : lenD [tT oss] = some (.fz (iN oss.length)) := len_tT oss
  have rg : iR2 (.v (eK (.int 1))) (.v (app lenD [(.sl 2)])) [.fz (iN n), .fz (iN k), .fz (tT oss), v3, .un] = .ok ((rgN 1 oss.length).map iN) [.fz (iN n), .fz (iN k), .fz (tT oss), v3, .un] := iR2_nat (i := 1) (j := oss.length) (by
    generalize tT oss = T at *
    simp [ll]
    rfl) (by decide) (by omega)
  have er : (rgN 1 oss.length).map iN = (List.range (oss.length - 1)).map fun i => iN (i + 1) := by
    unfold rgN
    rw [List.map_map]
    refine List.map_congr_left fun i _ => ?_
    show iN (1 + i) = _
    rw [Nat.add_comm]
  rw [er] at rg
  have lc := eLc_fo (im := iR2 (.v (eK (.int 1))) (.v (app lenD [(.sl 2)]))) (t := tgN 4) (test := tNotM (asB (callV f__law_miss [(bin ixD (.sl 2) (.v (bin subD (.sl 4) (.v (eK (.int 1)))))), (bin ixD (.sl 2) (.sl 4))]))) (elt := eRd 4) (vs := [4]) (r := [.fz (iN n), .fz (iN k), .fz (tT oss), v3, .un]) (r0 := [.fz (iN n), .fz (iN k), .fz (tT oss), v3, .un]) (xs := List.range (oss.length - 1)) (fun i => iN (i + 1)) (fun i => !rowX oss i) (fun i => iN (i + 1))
    rg (small_LINE (by rw [List.length_range]; omega)) (by rfl) (by rfl) (fun i hi => by
      have hi := List.mem_range.mp hi
      have i0 : ixD (tT oss) (.int (i : Int)) = some (.fz (tN (oss.getD i []))) := by
        show (L2.atI (oss.map tN) (i : Int)).map Val.fz = _
        rw [atI_nat, getD_at oss (by omega), List.getElem?_map, List.getElem?_eq_getElem (by omega)]
        rfl
      have i1 : ixD (tT oss) (iN (i + 1)) = some (.fz (tN (oss.getD (i + 1) []))) := by
        show (L2.atI (oss.map tN) ((i + 1 : Nat) : Int)).map Val.fz = _
        rw [atI_nat, getD_at oss (by omega), List.getElem?_map, List.getElem?_eq_getElem (by omega)]
        rfl
      have sb : subD (iN (i + 1)) (.int 1) = some (.fz (.int (i : Int))) := by
        show some (Val.fz (.int (((i + 1 : Nat) : Int) - 1))) = _
        congr 3
        omega
      have ms := miss_eq (oss.getD i []) (oss.getD (i + 1) []) (small_LINE (by
        rw [getD_at oss (by omega)]
        have := h8 _ (List.getElem_mem (by omega : i < oss.length))
        omega))
      unfold rowX
      generalize missP (oss.getD i []) (oss.getD (i + 1) []) = B at *
      generalize tN (oss.getD (i + 1) []) = P1 at *
      generalize tN (oss.getD i []) = P0 at *
      generalize iN (i + 1) = J at *
      generalize (i : Int) = I at *
      generalize tT oss = T at *
      cases B <;> simp [stepOk, sb, i0, i1, ms, -ixD_t])
  have eq := eqD_nilT (((List.range (oss.length - 1)).filter fun i => !rowX oss i).map (· + 1))
  rw [List.map_map] at eq
  have em : (((List.range (oss.length - 1)).filter fun i => !rowX oss i).map (· + 1)).isEmpty = rowZ oss := by
    rw [rowZ_range, ← filt_all]
    cases (List.range (oss.length - 1)).filter fun i => !rowX oss i <;> rfl
  rw [em] at eq
  have eq : eqD (.list (((List.range (oss.length - 1)).filter fun i => !rowX oss i).map fun i => iN (i + 1))) (.list []) = some (.fz (.bool (rowZ oss))) := eq
  have lc : lgLc [.fz (iN n), .fz (iN k), .fz (tT oss), v3, .un] = .ok (.ol (((List.range (oss.length - 1)).filter fun i => !rowX oss i).map fun i => iN (i + 1))) [.fz (iN n), .fz (iN k), .fz (tT oss), v3, .un] := lc
  generalize ((List.range (oss.length - 1)).filter fun i => !rowX oss i).map (fun i => iN (i + 1)) = L at *
  generalize lgLc = LC at *
  generalize rowZ oss = B at *
  generalize tT oss = T at *
  simp [lc, eq]
end
end MP

namespace MP
open PySem MS
theorem kwE_of {kw : String → Option Str} {c w : String} (h : kw c = some (Str.ofString w)) : kwE kw c = eK (.str (Str.ofString w)) := by
  unfold kwE
  rw [h]
theorem kw_number : kwE kw__law_kind_of "NoNumber" = eK (.str "number") := kwE_of (w := "number") (by kernel_rfl)
theorem kw_great : kwE kw__law_kind_of "TooGreat" = eK (.str "great") := kwE_of (w := "great") (by kernel_rfl)
end MP

namespace MP
open PySem MS
/-! k71: what the law asks of one size -/
@[simp] theorem x_callT (gs : List Fn) (ix : M Val) (ms : List (M Val)) (r : List Val) : callT gs ix ms r = (match frz ix r with
  | .ok (.int i) r1 => (match L2.atI gs i with
    | some g => callV g ms r1
    | none => .err)
  | .ok _ _ => .err
  | .exc c ds r' => .exc c ds r'
  | .err => .err) := (rfl)
theorem at0 (a b : Fn) : L2.atI [a, b] 0 = some a := rfl
theorem at1 (a b : Fn) : L2.atI [a, b] 1 = some b := rfl
theorem ble_dec (a b : Nat) : Nat.ble a b = decide (a ≤ b) := by
  cases h : Nat.ble a b with
  | true => exact (decide_eq_true (Nat.le_of_ble_eq_true h)).symm
  | false => exact (decide_eq_false fun q => by rw [Nat.ble_eq_true_of_le q] at h; cases h).symm
theorem isD_in (i : Int) : isD (.int i) .none = some (.fz (.bool false)) := rfl
theorem isD_ln (l : List D) : isD (.list l) .none = some (.fz (.bool false)) := rfl
theorem isD_tn (l : List D) : isD (.tuple l) .none = some (.fz (.bool false)) := rfl
theorem isD_nn : isD .none .none = some (.fz (.bool true)) := rfl
theorem same_int (d : Nat) (i : Int) : f__law_same (d + 1) [.fz (.int i), .fz (.int i)] = .ok (.fz (.bool true)) [.un, .un] := by
  simp [f__law_same, runF, b__law_same, outsF, List.range_succ, isD_in]
theorem same_two (i j : Int) : f__law_same 12 [.fz (.list [.int i, .int j]), .fz (.list [.int i, .int j])] = .ok (.fz (.bool true)) [.un, .un] := by
  have a := same_int 10 i
  have b := same_int 10 j
  show runF 4 2 [] (b__law_same (f__law_same 11)) _ = _
  generalize f__law_same 11 = G at *
  simp [runF, b__law_same, outsF, List.range_succ, zipD, forL_cons, a, b, isD_ln]
theorem neB (a b : Bool) : neD (.bool a) (.bool b) = some (.fz (.bool (a != b))) := by cases a <;> cases b <;> rfl
section
variable {n k : Nat}
theorem came0_ok {d : D} (h : f_some_row [.fz (iN n), .fz (iN k)] = .ok (.fz d) [.un, .un]) : f__law_came [.fz (.int 0), .fz (iN n), .fz (iN k)] = .ok (.fz d) [.un, .un, .un] := by
  simp [f__law_came, runF, b__law_came, outsF, List.range_succ, at0, at1, h]
theorem came1_ok {d : D} (h : f_some_ring [.fz (iN n), .fz (iN k)] = .ok (.fz d) [.un, .un]) : f__law_came [.fz (.int 1), .fz (iN n), .fz (iN k)] = .ok (.fz d) [.un, .un, .un] := by
  simp [f__law_came, runF, b__law_came, outsF, List.range_succ, at0, at1, h]
theorem came0_no {L : Nat} (h : f_must_few [.fz (iN n), .fz (iN k), .fz (.int 21)] = .exc "TooGreat" [iN L, .int 21] [.un, .un, .un]) : f__law_came [.fz (.int 0), .fz (iN n), .fz (iN k)] = .ok (.ol [iN L, .int 21]) [.un, .un, .un] := by
  simp [f__law_came, runF, b__law_came, outsF, List.range_succ, at0, at1, f_some_row, b_some_row, h, kw_great]
theorem came1_no {L : Nat} (h : f_must_few [.fz (iN n), .fz (iN k), .fz (.int 21)] = .exc "TooGreat" [iN L, .int 21] [.un, .un, .un]) : f__law_came [.fz (.int 1), .fz (iN n), .fz (iN k)] = .ok (.ol [iN L, .int 21]) [.un, .un, .un] := by
  simp [f__law_came, runF, b__law_came, outsF, List.range_succ, at0, at1, f_some_ring, b_some_ring, h, kw_great]
end
section
variable {n k : Nat} (h1 : 1 ≤ k) (h2 : k ≤ n) (h3 : n ≤ 8)
include h1 h2 h3
theorem lrow_good_eq (oss : List (List Nat)) (hl : oss.length ≤ 60) (hg : ∀ o ∈ oss, goodS n k o) : f__law_row_good [.fz (iN n), .fz (iN k), .fz (tT oss)] = .ok (.fz (.bool (rowP n k oss))) [.un, .un, .un] := by
  have h8 : ∀ o ∈ oss, o.length ≤ 60 := fun o ho => by rw [(hg o ho).1]; omega
  have hne : ∀ o ∈ oss, o ≠ [] := fun o ho q => by have := (hg o ho).1; rw [q] at this; simp at this; omega
  have g0 : ∀ v3 v4 : Val, lg0 [.fz (iN n), .fz (iN k), .fz (tT oss), v3, v4] = .ok .nx [.fz (iN n), .fz (iN k), .fz (tT oss), v3, v4] := fun v3 v4 => by simp [lg0, tT]
  obtain ⟨r1, ⟨v3, er1⟩, lp1⟩ := loopR (t := tgN 3) (body := lg1) tN (fun _ => true) (fun r => ∃ v3, r = [.fz (iN n), .fz (iN k), .fz (tT oss), v3, .un]) oss [.fz (iN n), .fz (iN k), .fz (tT oss), .un, .un] (fun o ho r ⟨v3, er⟩ => by
    subst er
    have q := is_set_any n k (by omega) h1 (by omega) (tN o) (smallE_tup (by rw [List.length_map, (hg o ho).1]; omega))
    rw [good_setD (hg o ho)] at q
    refine ⟨_, _, rfl, ⟨.fz (tN o), rfl⟩, ?_⟩
    have q : f__law_is_set [.fz (iN n), .fz (iN k), .fz (tN o)] = .ok (.fz (.bool true)) [.un, .un, .un] := q
    generalize tN o = O at *
    generalize tT oss = T at *
    simp [lg1, q]) ⟨_, rfl⟩
  subst er1
  rw [if_pos (by simp)] at lp1
  have so := sortedU_tT oss hne
  have ls := lsets_eq h1 h2 h3
  have ne := neD_tT (isort leN oss) (allP n k)
  have z2 := lgLc_eq h1 h2 h3 oss hl h8 v3
  have sq : iSeq (eRd 2) [.fz (iN n), .fz (iN k), .fz (tT oss), .un, .un] = .ok (oss.map tN) [.fz (iN n), .fz (iN k), .fz (tT oss), .un, .un] := by
    simp [tT]
  unfold f__law_row_good rowP
  rw [lg_body]
  generalize (isort leN oss == allP n k) = B1 at *
  generalize rowZ oss = B2 at *
  generalize (isort leN oss).map tN = L1 at *
  generalize (allP n k).map tN = L2 at *
  generalize tT oss = T at *
  have zz : sRet (bin eqD (.v lgLc) (.v (eLst []))) [.fz (iN n), .fz (iN k), .fz T, v3, .un] = .ok (.rt (.fz (.bool B2))) [.fz (iN n), .fz (iN k), .fz T, v3, .un] := by
    rw [x_sRet, z2]
  generalize sRet (bin eqD (.v lgLc) (.v (eLst []))) = LC at *
  generalize lg0 = O0 at *
  generalize lg1 = O1 at *
  cases B1 with
  | false =>
    have ne : neD (.list L1) (.list L2) = some (.fz (.bool true)) := ne
    simp [lg2, runF, outsF, List.range_succ, g0, sq, lp1, so, ls, ne, -x_iSeq]
  | true =>
    have ne : neD (.list L1) (.list L2) = some (.fz (.bool false)) := ne
    simp [lg2, runF, outsF, List.range_succ, g0, sq, lp1, so, ls, ne, zz, -x_iSeq]
theorem rowP_ok {cl : Bool} {oss : List (List Nat)} (h : RowOk n k cl oss) : rowP n k oss = true := by
  unfold rowP
  rw [isort_perm_all h1 h2 h3 h.1, rowZ_Q, h.2.1]
  simp
theorem row_small {cl : Bool} {oss : List (List Nat)} (hm : (allP n k).length ≤ 21) (h : RowOk n k cl oss) : oss.length ≤ 60 ∧ ∀ o ∈ oss, goodS n k o :=
  ⟨by rw [h.1.length_eq]; omega, fun o ho => (all_good_at h1 h2 h3).1 o (h.1.mem_iff.mp ho)⟩
theorem lring_good_eq (hm : (allP n k).length ≤ 21) {oss : List (List Nat)} (h : RowOk n k true oss) (h3' : 3 ≤ oss.length) : f__law_ring_good [.fz (iN n), .fz (iN k), .fz (tT oss)] = .ok (.fz (.bool true)) [.un, .un, .un] := by
  obtain ⟨s1, s2⟩ := row_small h1 h2 h3 hm h
  have a := lrow_good_eq h1 h2 h3 oss s1 s2
  rw [rowP_ok h1 h2 h3 h] at a
  have ll := len_tT oss
  have gt : gtD (iN oss.length) (.int 2) = _ := gt_mm oss.length 2
  rw [decide_eq_true (by omega)] at gt
  have hne : oss ≠ [] := fun e => by rw [e] at h3'; simp at h3'
  have i0 : ixD (tT oss) (.int 0) = some (.fz (tN (oss.head hne))) := by
    cases oss with
    | nil => exact absurd rfl hne
    | cons a R => show (L2.atI _ ((0 : Nat) : Int)).map Val.fz = _; rw [atI_nat]; rfl
  have il : ixD (tT oss) (.int (-1)) = some (.fz (tN (oss.getLast hne))) := by
    show (L2.atI (oss.map tN) (-1)).map Val.fz = _
    rw [atI_last (xs := oss.map tN) (by simpa using hne), List.getLast_map]
    rfl
  have ng : negD (.int 1) = some (.fz (.int (-1))) := rfl
  have ms := miss_eq (oss.head hne) (oss.getLast hne) (small_LINE (by rw [(s2 _ (List.head_mem hne)).1]; omega))
  rw [h.2.2 rfl hne] at ms
  generalize tN (oss.head hne) = P0 at *
  generalize tN (oss.getLast hne) = P1 at *
  generalize oss.length = L at *
  generalize tT oss = T at *
  simp [f__law_ring_good, runF, b__law_ring_good, outsF, List.range_succ, a, ll, gt, i0, il, ng, ms, -gtD_ii]
theorem through_eq (cl : Bool) : f__law_through [.fz (iN n), .fz (iN k), .fz (.bool cl)] = .ok (.fz (.bool (thrB n k cl))) [.un, .un, .un] := by
  have ls := lsets_eq h1 h2 h3
  have ll := len_tNs (allP n k)
  have mu : mulD (.int 2) (iN k) = some (.fz (iN (2 * k))) := mulD_nat (a := 2) (by omega) (by omega)
  have g2 := gt_mm n (2 * k)
  cases cl with
  | true =>
    have g1 : gtD (iN (allP n k).length) (.int 2) = _ := gt_mm (allP n k).length 2
    have ne : neD (.tuple [iN n, iN k]) (.tuple [.int 5, .int 2]) = _ := neD_tN [n, k] [5, 2]
    have e1 : thrB n k true = (decide (2 < (allP n k).length) && (decide (2 * k < n) && !([n, k] == [5, 2]))) := by
      have b1 : Nat.ble 3 (allP n k).length = decide (2 < (allP n k).length) := by
        rw [ble_dec]
        exact decide_eq_decide.mpr (by omega)
      have b2 : Nat.ble (2 * k + 1) n = decide (2 * k < n) := by
        rw [ble_dec]
        exact decide_eq_decide.mpr (by omega)
      have b3 : ([n, k] == [5, 2]) = (n == 5 && k == 2) := by
        show (n == 5 && (k == 2 && true)) = _
        rw [Bool.and_true]
      show (Nat.ble 3 (allP n k).length && Nat.ble (2 * k + 1) n && !(n == 5 && k == 2)) = _
      rw [b1, b2, b3, Bool.and_assoc]
    rw [e1]
    generalize (!([n, k] == [5, 2])) = B3 at *
    generalize decide (2 * k < n) = B2 at *
    generalize decide (2 < (allP n k).length) = B1 at *
    generalize (allP n k).map tN = T at *
    generalize iN (allP n k).length = L at *
    generalize iN (2 * k) = K2 at *
    generalize iN k = K1 at *
    generalize iN n = N1 at *
    cases B1 <;> cases B2 <;> simp [f__law_through, runF, b__law_through, outsF, List.range_succ, ls, ll, mu, g1, g2, ne, -lenD_l]
  | false =>
    have g1 : ltD (iN (allP n k).length) (.int 3) = _ := lt_mm (allP n k).length 3
    have sb : subD (iN (2 * k)) (.int 1) = some (.fz (iN (2 * k - 1))) := by
      show some (Val.fz (.int (((2 * k : Nat) : Int) - 1))) = some (.fz (.int ((2 * k - 1 : Nat) : Int)))
      congr 3
      omega
    have g3 := gt_mm n (2 * k - 1)
    have e4 : eqD (iN (allP n k).length) (.int 1) = some (.fz (.bool ((allP n k).length == 1))) := eqD_nn (allP n k).length 1
    have e1 : thrB n k false = (decide ((allP n k).length < 3) && decide (2 * k - 1 < n) || ((allP n k).length == 1 || decide (2 * k < n))) := by
      have b1 : Nat.ble (allP n k).length 2 = decide ((allP n k).length < 3) := by
        rw [ble_dec]
        exact decide_eq_decide.mpr (by omega)
      have b2 : Nat.ble (2 * k) n = decide (2 * k - 1 < n) := by
        rw [ble_dec]
        exact decide_eq_decide.mpr (by omega)
      have b3 : Nat.ble (2 * k + 1) n = decide (2 * k < n) := by
        rw [ble_dec]
        exact decide_eq_decide.mpr (by omega)
      show ((Nat.ble (allP n k).length 2 && Nat.ble (2 * k) n) || (allP n k).length == 1 || Nat.ble (2 * k + 1) n) = _
      rw [b1, b2, b3, Bool.or_assoc]
    rw [e1]
    generalize decide (2 * k - 1 < n) = B4 at *
    generalize decide (2 * k < n) = B2 at *
    generalize decide ((allP n k).length < 3) = B1 at *
    generalize ((allP n k).length == 1) = B3 at *
    generalize (allP n k).map tN = T at *
    generalize iN (allP n k).length = L at *
    generalize iN (2 * k - 1) = K3 at *
    generalize iN (2 * k) = K2 at *
    generalize iN k = K1 at *
    generalize iN n = N1 at *
    cases B1 <;> cases B4 <;> cases B3 <;> simp [f__law_through, runF, b__law_through, outsF, List.range_succ, ls, ll, mu, g1, g2, sb, g3, e4, -lenD_l]
theorem right_eq : f__law_right [.fz (iN n), .fz (iN k)] = .ok (.fz (.bool true)) [.un, .un] := by
  have ls := lsets_eq h1 h2 h3
  have ll := len_tNs (allP n k)
  have gt : gtD (iN (allP n k).length) (.int 21) = _ := gt_mm (allP n k).length 21
  by_cases hl : 21 < (allP n k).length
  · have fn := few_noM h1 h2 h3 21 hl
    have a := came0_no fn
    have b := came1_no fn
    have sm : f__law_same 12 [.fz (.list [iN (allP n k).length, .int 21]), .fz (.list [iN (allP n k).length, .int 21])] = _ := same_two ((allP n k).length : Int) 21
    rw [decide_eq_true hl] at gt
    generalize (allP n k).map tN = T at *
    generalize iN (allP n k).length = L at *
    simp [f__law_right, runF, b__law_right, sPar2, outsF, List.range_succ, ls, ll, a, b, gt, sm, -lenD_l]
  · rw [decide_eq_false hl] at gt
    have t0 := through_eq h1 h2 h3 false
    have t1 := through_eq h1 h2 h3 true
    have ntf : neD (.bool true) (.bool true) = some (.fz (.bool false)) := rfl
    have nff : neD (.bool false) (.bool false) = some (.fz (.bool false)) := rfl
    have hm : (allP n k).length ≤ 21 := by omega
    rcases some_row_eq h1 h2 h3 hl with ⟨p0, o0, ro0, r0⟩ | ⟨p0, r0⟩ <;> rcases some_ring_eq h1 h2 h3 hl with ⟨p1, o1, ro1, l1, r1⟩ | ⟨p1, r1⟩
    all_goals
      have a := came0_ok r0
      have b := came1_ok r1
      rw [p0] at t0
      rw [p1] at t1
    · have q0 := lrow_good_eq h1 h2 h3 o0 (row_small h1 h2 h3 hm ro0).1 (row_small h1 h2 h3 hm ro0).2
      rw [rowP_ok h1 h2 h3 ro0] at q0
      have q0 : f__law_row_good [.fz (iN n), .fz (iN k), .fz (.tuple (o0.map tN))] = _ := q0
      have q1 : f__law_ring_good [.fz (iN n), .fz (iN k), .fz (.tuple (o1.map tN))] = _ := lring_good_eq h1 h2 h3 hm ro1 l1
      generalize (allP n k).map tN = T at *
      generalize iN (allP n k).length = L at *
      generalize o0.map tN = T0 at *
      generalize o1.map tN = T1 at *
      simp [f__law_right, runF, b__law_right, sPar2, outsF, List.range_succ, ls, ll, a, b, gt, t0, t1, q0, q1, isn_t, isn_n, isD_tn, isD_nn, ntf, nff, -lenD_l]
    · have q0 := lrow_good_eq h1 h2 h3 o0 (row_small h1 h2 h3 hm ro0).1 (row_small h1 h2 h3 hm ro0).2
      rw [rowP_ok h1 h2 h3 ro0] at q0
      have q0 : f__law_row_good [.fz (iN n), .fz (iN k), .fz (.tuple (o0.map tN))] = _ := q0
      generalize (allP n k).map tN = T at *
      generalize iN (allP n k).length = L at *
      generalize o0.map tN = T0 at *
      simp [f__law_right, runF, b__law_right, sPar2, outsF, List.range_succ, ls, ll, a, b, gt, t0, t1, q0, isn_t, isn_n, isD_tn, isD_nn, ntf, nff, -lenD_l]
    · have q1 : f__law_ring_good [.fz (iN n), .fz (iN k), .fz (.tuple (o1.map tN))] = _ := lring_good_eq h1 h2 h3 hm ro1 l1
      generalize (allP n k).map tN = T at *
      generalize iN (allP n k).length = L at *
      generalize o1.map tN = T1 at *
      simp [f__law_right, runF, b__law_right, sPar2, outsF, List.range_succ, ls, ll, a, b, gt, t0, t1, q1, isn_t, isn_n, isD_tn, isD_nn, ntf, nff, -lenD_l]
    · generalize (allP n k).map tN = T at *
      generalize iN (allP n k).length = L at *
      simp [f__law_right, runF, b__law_right, sPar2, outsF, List.range_succ, ls, ll, a, b, gt, t0, t1, isn_t, isn_n, isD_tn, isD_nn, ntf, nff, -lenD_l]
end
end MP

namespace MP
open PySem MS
/-! draws -/
def penV (c f : Int) : Val := .ol [.int c, .int f]
theorem draw_eq (c f : Int) (hf : f = 0 ∨ f = 1) (many : Nat) (h1 : 1 ≤ many) (h2 : many ≤ 1000) : ∃ (c' : Int) (x : Nat), x < many ∧ f__law_draw [.ol [.int c, .int f], .fz (iN many)] = .ok (.fz (iN x)) [.ol [.int c', .int f], .un] := by
  have i1 : ∀ (a b : D), ixD (.list [a, b]) (.int 0) = some (.fz a) := fun a b => rfl
  have i2 : ∀ (a b : D), ixD (.list [a, b]) (.int 1) = some (.fz b) := fun a b => rfl
  have n0 : L2.ixN 2 0 = some 0 := rfl
  have rest : ∀ z : Int, ∃ x : Nat, x < many ∧ PyData.int (z % (many : Int)) = iN x := fun z => by
    have a := Int.emod_nonneg z (b := (many : Int)) (by omega)
    have b := Int.emod_lt_of_pos z (b := (many : Int)) (by omega)
    refine ⟨(z % (many : Int)).toNat, by omega, ?_⟩
    unfold iN
    rw [Int.toNat_of_nonneg a]
  have mm : ∀ z : Int, modD (.int z) (iN many) = some (.fz (.int (z % (many : Int)))) := fun z => by
    unfold iN
    rw [modD_ii, if_pos (by omega)]
  have md : ∀ z : Int, modD (.int z) (.int 2147483629) = some (.fz (.int (z % 2147483629))) := fun z => rfl
  have me : ∀ z : Int, modD (.int z) (.int 2147483647) = some (.fz (.int (z % 2147483647))) := fun z => rfl
  have d8 : ∀ z : Int, fdivD (.int z) (.int 8) = some (.fz (.int (z / 8))) := fun z => by
    rw [fdivD_ii, if_pos ⟨by decide, by decide⟩]
  have dm : ∀ z : Int, fdivD (.int z) (iN many) = some (.fz (.int (z / (many : Int)))) := fun z => by
    unfold iN
    rw [fdivD_ii, if_pos ⟨by omega, by rw [Int.natAbs_natCast]; exact log_small h2⟩]
  rcases hf with rfl | rfl
  · have p1 := Int.emod_nonneg c (b := 2147483629) (by decide)
    have p2 := Int.emod_lt_of_pos c (b := 2147483629) (by decide)
    have m1 := mulD_sm (i := c % 2147483629) (j := 48271) p1 (by omega) (by decide) (by decide)
    generalize hp : (c % 2147483629 * 48271 + 11) % 2147483629 = p
    have q1 : 0 ≤ p := by rw [← hp]; exact Int.emod_nonneg _ (by decide)
    have q2 : p < 2147483629 := by rw [← hp]; exact Int.emod_lt_of_pos _ (by decide)
    have m2 := mulD_sm (i := p) (j := p) q1 (by omega) q1 (by omega)
    have m3 := mulD_sm (i := 40692) (j := p) (by decide) (by decide) q1 (by omega)
    obtain ⟨x, hx, ex⟩ := rest ((p * p + 40692 * p) % 2147483647 / 8)
    refine ⟨p, x, hx, ?_⟩
    simp [f__law_draw, runF, b__law_draw, outsF, List.range_succ, i1, i2, n0, md, me, m1, m2, m3, d8, mm, hp, ex, -modD_ii, -mulD_ii, -fdivD_ii, -ixD_l]
  · obtain ⟨x, hx, ex⟩ := rest c
    refine ⟨c / (many : Int), x, hx, ?_⟩
    simp [f__law_draw, runF, b__law_draw, outsF, List.range_succ, i1, i2, n0, mm, dm, ex, -modD_ii, -mulD_ii, -fdivD_ii, -ixD_l]
theorem pen_eq (c : Int) : ∃ f : Int, (f = 0 ∨ f = 1) ∧ f__law_pen [.fz (.int c)] = .ok (.ol [.int c, .int f]) [.un] := by
  have p : powD (.int 10) (.int 18) = some (.fz (.int 1000000000000000000)) := rfl
  refine ⟨if decide (1000000000000000000 ≤ c) = true then 1 else 0, ?_, ?_⟩
  · split
    · exact .inr rfl
    · exact .inl rfl
  · simp [f__law_pen, runF, b__law_pen, outsF, List.range_succ, p]
end MP

namespace MP
open PySem MS
def nL : List Nat := [8, 7, 6, 5, 7, 6, 5, 4, 8, 3, 2, 1]
theorem nL_at : ((List.range 12).all fun x => match nL[x]? with | some n => Nat.ble 1 n && Nat.ble n 8 | none => false) = true := by decide +kernel
theorem size_eq (c f : Int) (hf : f = 0 ∨ f = 1) : ∃ (c' : Int) (n k : Nat), 1 ≤ k ∧ k ≤ n ∧ n ≤ 8 ∧ f__law_size [.ol [.int c, .int f]] = .ok (.fz (.tuple [iN n, iN k])) [.ol [.int c', .int f]] := by
  obtain ⟨c1, x1, hx1, e1⟩ := draw_eq c f hf 12 (by decide) (by decide)
  have hn := List.all_eq_true.mp nL_at x1 (List.mem_range.mpr hx1)
  cases en : nL[x1]? with
  | none => rw [en] at hn; cases hn
  | some n =>
    rw [en] at hn
    simp only [Bool.and_eq_true] at hn
    have hn1 := Nat.le_of_ble_eq_true hn.1
    have hn2 := Nat.le_of_ble_eq_true hn.2
    have ei : ixD (.list [.int 8, .int 7, .int 6, .int 5, .int 7, .int 6, .int 5, .int 4, .int 8, .int 3, .int 2, .int 1]) (iN x1) = some (.fz (iN n)) := by
      have a := atI_nat (nL.map iN) x1
      rw [List.getElem?_map, en] at a
      show (L2.atI (nL.map iN) (x1 : Int)).map Val.fz = _
      rw [a]
      rfl
    obtain ⟨c2, x2, hx2, e2⟩ := draw_eq c1 f hf n hn1 (by omega)
    obtain ⟨c3, x3, hx3, e3⟩ := draw_eq c2 f hf ((n + 1) / 2) (by omega) (by omega)
    obtain ⟨c4, x4, hx4, e4⟩ := draw_eq c3 f hf 2 (by decide) (by decide)
    have d2 : fdivD (iN (n + 1)) (.int 2) = some (.fz (iN ((n + 1) / 2))) := fdivD_nat (a := n + 1) (b := 2) (by decide) (by decide)
    have a1 : addD (iN n) (.int 1) = some (.fz (iN (n + 1))) := addD_nn n 1
    have a2 : addD (.int 1) (iN x2) = some (.fz (iN (1 + x2))) := addD_nn 1 x2
    have a3 : addD (.int 1) (iN x3) = some (.fz (iN (1 + x3))) := addD_nn 1 x3
    have e1' : f__law_draw [.ol [.int c, .int f], .fz (.int 12)] = .ok (.fz (iN x1)) [.ol [.int c1, .int f], .un] := e1
    have e4' : f__law_draw [.ol [.int c3, .int f], .fz (.int 2)] = .ok (.fz (iN x4)) [.ol [.int c4, .int f], .un] := e4
    rcases (by omega : x4 = 0 ∨ x4 = 1) with h | h
    · subst h
      have ek : ixD (.list [iN (1 + x2), iN (1 + x3)]) (iN 0) = some (.fz (iN (1 + x2))) := rfl
      refine ⟨c4, n, 1 + x2, by omega, by omega, hn2, ?_⟩
      simp [f__law_size, runF, b__law_size, outsF, List.range_succ, e1', ei, e2, e3, e4', d2, a1, a2, a3, ek, -ixD_l, -fdivD_ii]
    · subst h
      have ek : ixD (.list [iN (1 + x2), iN (1 + x3)]) (iN 1) = some (.fz (iN (1 + x3))) := rfl
      refine ⟨c4, n, 1 + x3, by omega, by omega, hn2, ?_⟩
      simp [f__law_size, runF, b__law_size, outsF, List.range_succ, e1', ei, e2, e3, e4', d2, a1, a2, a3, ek, -ixD_l, -fdivD_ii]
end MP

namespace MP
open PySem MS
theorem cell_eq (ns : List Int) : ∃ c : Int, f__law_cell [.fz (scriptD ns), .fz (.int 0)] = .ok (.fz (.int c)) [.un, .un] := by
  unfold scriptD
  cases ns with
  | nil => exact ⟨0, by simp [f__law_cell, runF, b__law_cell, outsF, List.range_succ]⟩
  | cons n ns =>
    have e : ixD (.list ((n :: ns).map .int)) (.int 0) = some (.fz (.int n)) := by
      have a := atI_nat ((n :: ns).map PyData.int) 0
      show (L2.atI ((n :: ns).map PyData.int) ((0 : Nat) : Int)).map Val.fz = _
      rw [a]
      rfl
    have l : lenD [.list ((n :: ns).map .int)] = some (.fz (iN (ns.length + 1))) := by
      rw [lenD_l, List.length_map]
      rfl
    have q : ltD (.int 0) (iN (ns.length + 1)) = some (.fz (.bool true)) := by
      have := ltD_nn 0 (ns.length + 1)
      rw [decide_eq_true (by omega)] at this
      exact this
    refine ⟨n, ?_⟩
    rw [List.map_cons] at e l ⊢
    simp [f__law_cell, runF, b__law_cell, outsF, List.range_succ, e, l, q, -lenD_l, -ixD_l, -ltD_ii]
end MP

namespace MP
open PySem MS
def s9L : List (Nat × Nat) := [(1, 1), (2, 1), (3, 1), (2, 2), (3, 2), (4, 2), (5, 2), (6, 3), (7, 2)]
def s7L : List (Nat × Nat) := [(8, 2), (8, 3), (8, 4), (8, 5), (8, 6), (7, 3), (7, 4)]
def szT (p : Nat × Nat) : D := .tuple [iN p.1, iN p.2]
theorem s9_ok : ∀ p ∈ s9L, 1 ≤ p.2 ∧ p.2 ≤ p.1 ∧ p.1 ≤ 8 := by decide
theorem s7_ok : ∀ p ∈ s7L, 1 ≤ p.2 ∧ p.2 ≤ p.1 ∧ p.1 ≤ 8 := by decide
def rightB : M Fl := (sIf (tNotM (asB (callV f__law_right [(eRd 1), (eRd 2)])))
    (sRet (eK (.bool false)))
    sNil)
theorem right_step {n k : Nat} (h : 1 ≤ k ∧ k ≤ n ∧ n ≤ 8) (s v3 v4 : Val) : rightB [s, .fz (iN n), .fz (iN k), v3, v4] = .ok .nx [s, .fz (iN n), .fz (iN k), v3, v4] := by
  have a := right_eq h.1 h.2.1 h.2.2
  simp [rightB, a]
def e9 : M Val := (eLst [(eTup [(eK (.int 1)), (eK (.int 1))]), (eTup [(eK (.int 2)), (eK (.int 1))]), (eTup [(eK (.int 3)), (eK (.int 1))]), (eTup [(eK (.int 2)), (eK (.int 2))]), (eTup [(eK (.int 3)), (eK (.int 2))]), (eTup [(eK (.int 4)), (eK (.int 2))]), (eTup [(eK (.int 5)), (eK (.int 2))]), (eTup [(eK (.int 6)), (eK (.int 3))]), (eTup [(eK (.int 7)), (eK (.int 2))])])
def e7 : M Val := (eLst [(eTup [(eK (.int 8)), (eK (.int 2))]), (eTup [(eK (.int 8)), (eK (.int 3))]), (eTup [(eK (.int 8)), (eK (.int 4))]), (eTup [(eK (.int 8)), (eK (.int 5))]), (eTup [(eK (.int 8)), (eK (.int 6))]), (eTup [(eK (.int 7)), (eK (.int 3))]), (eTup [(eK (.int 7)), (eK (.int 4))])])
theorem e9_eq (r : List Val) : e9 r = .ok (.ol (s9L.map szT)) r := rfl
theorem e7_eq (r : List Val) : e7 r = .ok (.ol (s7L.map szT)) r := rfl
def cellB : M Fl := (sSeq (sSet 4 (callV f__law_pen [(eRd 3)]))
    (sSeq (sAsg (tgT [(tgN 1), (tgN 2)]) (callB f__law_size 4 []))
    (sSeq rightB
    (sSeq (sAsg (tgT [(tgN 1), (tgN 2)]) (bin ixD (.v e7) (.v (callB f__law_draw 4 [(eK (.int 7))]))))
    rightB))))
theorem b_law_eq : b_law = (sSeq (sFor (tgT [(tgN 1), (tgN 2)]) (iSeq e9) rightB)
    (sSeq (sFor (tgN 3) (iSeq (bin addD (.v (eLst [(callV f__law_cell [(eRd 0), (eK (.int 0))])])) (.v (eSl slD (.sl 0) (some (eK (.int 1))) (some (eK (.int 4)))))))
    cellB)
    (sRet (eK (.bool true))))) := rfl
theorem cell_step (s v1 v2 v4 : Val) (c : Int) : ∃ u1 u2 u4, cellB [s, v1, v2, .fz (.int c), v4] = .ok .nx [s, u1, u2, .fz (.int c), u4] := by
  obtain ⟨f, hf, ep⟩ := pen_eq c
  obtain ⟨c1, n, k, h1, h2, h3, es⟩ := size_eq c f hf
  obtain ⟨c2, x, hx, ed⟩ := draw_eq c1 f hf 7 (by decide) (by decide)
  have ed : f__law_draw [.ol [.int c1, .int f], .fz (.int 7)] = .ok (.fz (iN x)) [.ol [.int c2, .int f], .un] := ed
  obtain ⟨p, hp, ix⟩ : ∃ p ∈ s7L, ixD (.list (s7L.map szT)) (iN x) = some (.fz (.tuple [iN p.1, iN p.2])) := by
    have hl : x < s7L.length := hx
    refine ⟨s7L[x], List.getElem_mem hl, ?_⟩
    show (L2.atI _ (x : Int)).map Val.fz = _
    rw [atI_nat, List.getElem?_map, List.getElem?_eq_getElem hl]
    rfl
  have r1 := right_step ⟨h1, h2, h3⟩ s (.fz (.int c)) (.ol [.int c1, .int f])
  have r2 := right_step (s7_ok p hp) s (.fz (.int c)) (.ol [.int c2, .int f])
  have z := e7_eq
  refine ⟨.fz (iN p.1), .fz (iN p.2), .ol [.int c2, .int f], ?_⟩
  unfold cellB
  generalize s7L.map szT = S at *
  generalize e7 = M7 at *
  generalize rightB = RB at *
  simp [ep, es, r1, z, ed, ix, r2, -ixD_l]
theorem run_law (ns : List Int) (hn : ns.length ≤ 63) : ∃ r, f_law [.fz (scriptD ns)] = .ok (.fz (.bool true)) r := by
  obtain ⟨c0, hc⟩ := cell_eq ns
  obtain ⟨r1, l1, v1, v2, e1⟩ := forL_map (t := tgT [(tgN 1), (tgN 2)]) (body := rightB) szT (fun _ r => ∃ v1 v2, r = [.fz (scriptD ns), v1, v2, .un, .un]) [] s9L (r := [.fz (scriptD ns), .un, .un, .un, .un]) (fun a p b e r ⟨v1, v2, er⟩ => by
      subst er
      have hp : p ∈ s9L := by
        rw [show s9L = [] ++ s9L from rfl, e]
        simp
      exact ⟨[.fz (scriptD ns), .fz (iN p.1), .fz (iN p.2), .un, .un], _, by simp [szT], right_step (s9_ok p hp) _ _ _, _, _, rfl⟩) ⟨_, _, rfl⟩
  subst e1
  obtain ⟨r', l2, w1, w2, w3, w4, er⟩ := forL_map (t := tgN 3) (body := cellB) PyData.int (fun _ r => ∃ w1 w2 w3 w4, r = [.fz (scriptD ns), w1, w2, w3, w4]) [] (c0 :: cutD ns (some 1) (some 4)) (r := [.fz (scriptD ns), v1, v2, .un, .un]) (fun a c b e r ⟨w1, w2, w3, w4, er⟩ => by
      subst er
      obtain ⟨u1, u2, u4, e⟩ := cell_step (.fz (scriptD ns)) w1 w2 w4 c
      exact ⟨_, _, rfl, e, _, _, _, _, rfl⟩) ⟨_, _, _, _, rfl⟩
  subst er
  have sl : slD (scriptD ns) (some 1) (some 4) = some (.ol ((cutD ns (some 1) (some 4)).map .int)) := by
    unfold scriptD
    rw [slD_l, cutD_map]
  have ad : addD (.list [.int c0]) (.list ((cutD ns (some 1) (some 4)).map .int)) = some (.ol ((c0 :: cutD ns (some 1) (some 4)).map .int)) := by
    have := cutD_len ns (some 1) (some 4)
    rw [addD_ll, if_pos (small_LINE (by simp; omega))]
    rfl
  have z := e9_eq
  rw [List.map_cons] at l2 ad
  unfold f_law
  rw [b_law_eq]
  generalize cellB = CB at *
  generalize rightB = RB at *
  generalize s9L.map szT = S at *
  generalize e9 = M9 at *
  simp [runF, outsF, List.range_succ, hc, sl, ad, l1, l2, z, -slD_l, -addD_ll]
end MP

open PySem PySem.W PyProof.Rows
set_option maxHeartbeats 0 in
theorem PySem.Challenge.cw_missingsets_k71_rows_and_rings_found_holds : PySem.Challenge.rw_missingsets_k71_rows_and_rings_found.Holds := by
  w_on; o_law; k_head; (case hw => w_witness2)
  k_fill
  refine MS.law_walkT (l := PySem.Challenge.rw_missingsets_k71_rows_and_rings_found) (n := 63) (k := 30) (x := "_law_script") (gf := MP.f_law) rfl (by decide) rfl ⟨⟨rfl, by decide, by decide⟩, rfl⟩ (fun w h Y => PySem.W.km_in_of Y) MP.run_law ?F
  case F =>
    intro w mg fa h Y KX G hmg
    refine' MP.all_mk KX G hmg ?a0 ?l0 ?c0 ?k0 ?a1 ?l1 ?c1 ?k1 ?a2 ?l2 ?c2 ?k2 ?a3 ?l3 ?c3 ?k3 ?a4 ?l4 ?c4 ?k4 ?a5 ?l5 ?c5 ?k5 ?a6 ?l6 ?c6 ?k6 ?u1_6 ?u2_6 ?u3_6 ?u4_6 ?u5_6 ?u6_6 ?a7 ?l7 ?c7 ?k7 ?a8 ?l8 ?c8 ?k8 ?a9 ?l9 ?c9 ?k9 ?a10 ?l10 ?c10 ?k10 ?a11 ?l11 ?c11 ?k11 ?a12 ?l12 ?c12 ?k12 ?a13 ?l13 ?c13 ?k13 ?a14 ?l14 ?c14 ?k14 ?a15 ?l15 ?c15 ?k15 ?a16 ?l16 ?c16 ?k16 ?a17 ?l17 ?c17 ?k17 ?a18 ?l18 ?c18 ?k18 ?a19 ?l19 ?c19 ?k19 ?a20 ?l20 ?c20 ?k20 ?a21 ?l21 ?c21 ?k21 ?a22 ?l22 ?c22 ?k22 ?a23 ?l23 ?c23 ?k23 ?a24 ?l24 ?c24 ?k24 ?a25 ?l25 ?c25 ?k25 ?m_ValueError ?m_all ?m_any ?m_bool ?m_int ?m_isinstance ?m_len ?m_list ?m_max ?m_range ?m_set ?m_sorted ?m_str ?m_sum ?m_tuple ?m_zip ?c_MOST_POINTS ?c_MOST_THROUGH ?n1_NoNumber ?n2_NoNumber ?n3_NoNumber ?n1_NoSet ?n2_NoSet ?n3_NoSet ?n1_NoHues ?n2_NoHues ?n3_NoHues ?n1_NoLot ?n2_NoLot ?n3_NoLot ?n1_NoMap ?n2_NoMap ?n3_NoMap ?n1_NoTurn ?n2_NoTurn ?n3_NoTurn ?n1_NoWeights ?n2_NoWeights ?n3_NoWeights ?n1_NoRow ?n2_NoRow ?n3_NoRow ?n1_NoText ?n2_NoText ?n3_NoText ?n1_NoLine ?n2_NoLine ?n3_NoLine ?n1_NoDeed ?n2_NoDeed ?n3_NoDeed ?n1_TooGreat ?n2_TooGreat ?n3_TooGreat ?n1_MissError ?n2_MissError ?n3_MissError ?g1_ ?g2_ ?g3_ ?v1_ ?v2_ ?v3_ ?v4_ ?v5_ ?v6_ ?v7_ ?v8_ ?v9_ ?va_ ?vb_ ?vc_ ?f1_TooGreat ?f2_TooGreat ?f3_TooGreat ?f4_TooGreat ?f5_TooGreat ?f6_TooGreat ?s_TooGreat_NoNumber ?s_TooGreat_NoSet ?s_TooGreat_NoHues ?s_TooGreat_NoLot ?s_TooGreat_NoMap ?s_TooGreat_NoTurn ?s_TooGreat_NoWeights ?s_TooGreat_NoRow ?s_TooGreat_NoText ?s_TooGreat_NoLine ?s_TooGreat_NoDeed ?s_TooGreat_TooGreat ?e2_NoNumber ?e3_NoNumber ?e4_NoNumber ?f1_NoNumber ?f2_NoNumber ?f3_NoNumber ?f4_NoNumber ?f5_NoNumber ?f6_NoNumber ?s_NoNumber_NoNumber ?s_NoNumber_NoSet ?s_NoNumber_NoHues ?s_NoNumber_NoLot ?s_NoNumber_NoMap ?s_NoNumber_NoTurn ?s_NoNumber_NoWeights ?s_NoNumber_NoRow ?s_NoNumber_NoText ?s_NoNumber_NoLine ?s_NoNumber_NoDeed ?s_NoNumber_TooGreat
    (case a0 => k_is); (case l0 => k_is); (case c0 => k_is); (case k0 => k_is); (case a1 => k_is); (case l1 => k_is); (case c1 => k_is); (case k1 => k_is); (case a2 => k_is); (case l2 => k_is); (case c2 => k_is); (case k2 => k_is); (case a3 => k_is); (case l3 => k_is); (case c3 => k_is); (case k3 => k_is); (case a4 => k_is); (case l4 => k_is); (case c4 => k_is); (case k4 => k_is); (case a5 => k_is); (case l5 => k_is); (case c5 => k_is); (case k5 => k_is); (case a6 => k_is); (case l6 => k_is); (case c6 => k_is); (case k6 => k_is); (case u1_6 => rfl); (case u2_6 => k_is); (case u3_6 => rfl); (case u4_6 => kernel_rfl); (case u5_6 => kernel_rfl); (case u6_6 => exact PySem.W.km_tabs_of Y _ (by k_mem)); (case a7 => k_is); (case l7 => k_is); (case c7 => k_is); (case k7 => k_is); (case a8 => k_is); (case l8 => k_is); (case c8 => k_is); (case k8 => k_is); (case a9 => k_is); (case l9 => k_is); (case c9 => k_is); (case k9 => k_is); (case a10 => k_is); (case l10 => k_is); (case c10 => k_is); (case k10 => k_is); (case a11 => k_is); (case l11 => k_is); (case c11 => k_is); (case k11 => k_is); (case a12 => k_is); (case l12 => k_is); (case c12 => k_is); (case k12 => k_is); (case a13 => k_is); (case l13 => k_is); (case c13 => k_is); (case k13 => k_is); (case a14 => k_is); (case l14 => k_is); (case c14 => k_is); (case k14 => k_is); (case a15 => k_is); (case l15 => k_is); (case c15 => k_is); (case k15 => k_is); (case a16 => k_is); (case l16 => k_is); (case c16 => k_is); (case k16 => k_is); (case a17 => k_is); (case l17 => k_is); (case c17 => k_is); (case k17 => k_is); (case a18 => k_is); (case l18 => k_is); (case c18 => k_is); (case k18 => k_is); (case a19 => k_is); (case l19 => k_is); (case c19 => k_is); (case k19 => k_is); (case a20 => k_is); (case l20 => k_is); (case c20 => k_is); (case k20 => k_is); (case a21 => k_is); (case l21 => k_is); (case c21 => k_is); (case k21 => k_is); (case a22 => k_is); (case l22 => k_is); (case c22 => k_is); (case k22 => k_is); (case a23 => k_is); (case l23 => k_is); (case c23 => k_is); (case k23 => k_is); (case a24 => k_is); (case l24 => k_is); (case c24 => k_is); (case k24 => k_is); (case a25 => k_is); (case l25 => k_is); (case c25 => k_is); (case k25 => k_is); (case m_ValueError => k_is); (case m_all => k_is); (case m_any => k_is); (case m_bool => k_is); (case m_int => k_is); (case m_isinstance => k_is); (case m_len => k_is); (case m_list => k_is); (case m_max => k_is); (case m_range => k_is); (case m_set => k_is); (case m_sorted => k_is); (case m_str => k_is); (case m_sum => k_is); (case m_tuple => k_is); (case m_zip => k_is); (case c_MOST_POINTS => k_is); (case c_MOST_THROUGH => k_is); (case n1_NoNumber => k_is); (case n2_NoNumber => k_is); (case n3_NoNumber => k_is); (case n1_NoSet => k_is); (case n2_NoSet => k_is); (case n3_NoSet => k_is); (case n1_NoHues => k_is); (case n2_NoHues => k_is); (case n3_NoHues => k_is); (case n1_NoLot => k_is); (case n2_NoLot => k_is); (case n3_NoLot => k_is); (case n1_NoMap => k_is); (case n2_NoMap => k_is); (case n3_NoMap => k_is); (case n1_NoTurn => k_is); (case n2_NoTurn => k_is); (case n3_NoTurn => k_is); (case n1_NoWeights => k_is); (case n2_NoWeights => k_is); (case n3_NoWeights => k_is); (case n1_NoRow => k_is); (case n2_NoRow => k_is); (case n3_NoRow => k_is); (case n1_NoText => k_is); (case n2_NoText => k_is); (case n3_NoText => k_is); (case n1_NoLine => k_is); (case n2_NoLine => k_is); (case n3_NoLine => k_is); (case n1_NoDeed => k_is); (case n2_NoDeed => k_is); (case n3_NoDeed => k_is); (case n1_TooGreat => k_is); (case n2_TooGreat => k_is); (case n3_TooGreat => k_is); (case n1_MissError => k_is); (case n2_MissError => k_is); (case n3_MissError => k_is); (case g1_ => k_is); (case g2_ => k_is); (case g3_ => k_is); (case v1_ => k_is); (case v2_ => rfl); (case v3_ => k_is); (case v4_ => k_is); (case v5_ => k_is); (case v6_ => k_is); (case v7_ => k_is); (case v8_ => k_is); (case v9_ => k_is); (case va_ => k_is); (case vb_ => k_is); (case vc_ => k_is); (case f1_TooGreat => k_is); (case f2_TooGreat => k_is); (case f3_TooGreat => k_is); (case f4_TooGreat => k_is); (case f5_TooGreat => k_is); (case f6_TooGreat => k_is); (case s_TooGreat_NoNumber => k_is); (case s_TooGreat_NoSet => k_is); (case s_TooGreat_NoHues => k_is); (case s_TooGreat_NoLot => k_is); (case s_TooGreat_NoMap => k_is); (case s_TooGreat_NoTurn => k_is); (case s_TooGreat_NoWeights => k_is); (case s_TooGreat_NoRow => k_is); (case s_TooGreat_NoText => k_is); (case s_TooGreat_NoLine => k_is); (case s_TooGreat_NoDeed => k_is); (case s_TooGreat_TooGreat => k_is); (case e2_NoNumber => k_exc); (case e3_NoNumber => k_is); (case e4_NoNumber => k_is); (case f1_NoNumber => k_is); (case f2_NoNumber => k_is); (case f3_NoNumber => k_is); (case f4_NoNumber => k_is); (case f5_NoNumber => k_is); (case f6_NoNumber => k_is); (case s_NoNumber_NoNumber => k_is); (case s_NoNumber_NoSet => k_is); (case s_NoNumber_NoHues => k_is); (case s_NoNumber_NoLot => k_is); (case s_NoNumber_NoMap => k_is); (case s_NoNumber_NoTurn => k_is); (case s_NoNumber_NoWeights => k_is); (case s_NoNumber_NoRow => k_is); (case s_NoNumber_NoText => k_is); (case s_NoNumber_NoLine => k_is); (case s_NoNumber_NoDeed => k_is); (case s_NoNumber_TooGreat => k_is)
