import PyProof.Rows.All
import Wide.All
import OpenK.AllK
import Wide.FinOn
import HandS.ForMost
import HandS.Exc
import HandS.TryOnly
import HandS.WordsExc
import HandS.TupSets
import KE.KDictKeyed
import KE.KDictCopyH
import KE.KeyNested
import HandS.Lambda
import KE.DataEq
import KE.DataCmp
import KE.DataAny
import KE.DataFind
import KE.DataIsa
import KE.DataMinMax
import KE.DatumIndex
import KE.SortData
import HandS.TupAny
import HandS.Wide
import HandS.Flow
import HandS.RaiseMore
import HandS.Walk
import HandS.NoneIn
import HandS.Style
import HandS.Dict
import HandS.ExcOwn
import HandS.Defaults
import HandS.Ends
import HandS.HeadEnd
import HandS.Head0
import HandS.Head1
import HandS.Head2
import HandS.HeadHook1
import HandS.HeadHook2
import HandS.DictComp
import KE.GoesSet
import KE.KUnpackStar
import PyProof.TupleOfGen
import PyProof.ListRange
import HandS.ExcInit
import HandS.ExcField
import HandS.ExcIs
import KE.KExcSuper
import KE.KExcIs
import HandS.EndTab
import HandS.HeadHook4
import HandS.Star
import HandS.ExcBuiltin
import HandS.SetFor
import HandS.Deep
import HandS.ReCall
import HandS.Iter
import KE.GoesEnum
import HandS.List
import HandS.TupLe
import HandS.Text
import HandS.Zip
import PyProof.StrLawsRepr
import HandS.TupMul
import PySem.Challenge.RW_zonebetween_k32_strangers_told
set_option Elab.async false
set_option linter.all false
set_option maxRecDepth 100000
namespace Z
open PySem PySem.Spec PyProof.Rows L2
set_option autoImplicit false

/-- data: what a value stands for -/
inductive D where
  | non | bl (b : Bool) | int (i : Int) | str (x : Str)
  | tup (ds : List D) | lst (ds : List D) | set (ds : List D) | dct (ks vs : List D)
  | ref (n : Nat) | clo (n : Nat) (ds : List D) | err (c : Nat) (ds : List D) | scr (ns : List Int)
  deriving Inhabited

mutual
def py : D → PyData
  | .non => .none
  | .bl b => .bool b
  | .int i => .int i
  | .str x => .str x
  | .tup ds => .tuple (pys ds)
  | .lst ds => .list (pys ds)
  | .set _ => .none
  | .dct _ _ => .none
  | .ref _ => .none
  | .clo _ _ => .none
  | .err _ _ => .none
  | .scr _ => .none
def pys : List D → List PyData
  | [] => []
  | d :: ds => py d :: pys ds
end
mutual
/-- pure data: no sets, dicts, cells -/
def isD : D → Bool
  | .non => true
  | .bl _ => true
  | .int _ => true
  | .str _ => true
  | .tup ds => isDs ds
  | .lst ds => isDs ds
  | .set _ => false
  | .dct _ _ => false
  | .ref _ => false
  | .clo _ _ => false
  | .err _ _ => false
  | .scr _ => false
def isDs : List D → Bool
  | [] => true
  | d :: ds => isD d && isDs ds
end
mutual
/-- as a key -/
def nk : D → NestedKey
  | .non => .none
  | .bl b => .num (if b = true then 1 else 0)
  | .int i => .num i
  | .str x => .text x
  | .tup ds => .tup (nks ds)
  | .lst _ => .none
  | .set _ => .none
  | .dct _ _ => .none
  | .ref _ => .none
  | .clo _ _ => .none
  | .err _ _ => .none
  | .scr _ => .none
def nks : List D → List NestedKey
  | [] => []
  | d :: ds => nk d :: nks ds
end
mutual
/-- hashable, by value -/
def isK : D → Bool
  | .non => true
  | .bl _ => true
  | .int _ => true
  | .str _ => true
  | .tup ds => isKs ds
  | .lst _ => false
  | .set _ => false
  | .dct _ _ => false
  | .ref _ => false
  | .clo _ _ => false
  | .err _ _ => false
  | .scr _ => false
def isKs : List D → Bool
  | [] => true
  | d :: ds => isK d && isKs ds
end
/-- a flat key -/
def lf : D → Option Leaf
  | .non => some .none
  | .bl b => some (.num (if b = true then 1 else 0))
  | .int i => some (.num i)
  | .str x => some (.text x)
  | _ => none
def lfs : List D → Option (List Leaf)
  | [] => some []
  | d :: ds => match lf d, lfs ds with
    | some l, some ls => some (l :: ls)
    | _, _ => none

/-- what a marked slot holds: the error that a suite handles (its dict, class, fields), a function that was handed in -/
inductive Mk where
  | ex (a dx : Addr) (c : Nat) (ds : List D)
  | fn (f c : Addr) (o : HO) (ds : List D) (vs : List V)
def Mk.at_ : Mk → Addr
  | .ex a _ _ _ => a
  | .fn f _ _ _ _ => f
/-- the world that a relation speaks of -/
structure Wd where
  P : Program
  w : World
  K : PySem.W.Frag
  /-- the classes of errors, their fields -/
  ct : Nat → Value
  cf : Nat → List Str
  mks : Nat → Option Mk := fun _ => none
  tb : Str → Addr := fun _ => 0

/-! what stands at an address: sets, dicts -/
def SetE (a : Addr) (led : Bool) : Heap → Prop := fun h => h.get? a = some { cls := .type "set", dict := none, data := .set #[] 0 (.fresh 0 0 led) }
/-- a set of keys carried by value: its rows, in the table's order -/
structure LfS (P : Program) (w : World) (h : Heap) (a : Addr) (L : List (Leaf × Value)) : Prop where
  ob : ∃ o es ep t, h.get? a = some o ∧ o.ExactSet ∧ o.data = .set es ep t ∧ es.toList = L.map (fun p => ((leafKind P w).hash p.1, p.2)) ∧ t.fits es.size = true ∧ Ris t.place.toList ∧ (w.params.followText "set-order" = true ∨ t.led = true)
  good : ∀ p ∈ L, (leafKind P w).is p.1 p.2 = true ∧ p.2.scannable = true
  nd : (L.map (·.1)).Nodup
  few : L.length < scanBound
def SetF (P : Program) (w : World) (a : Addr) (ls : List Leaf) (us : List V) : Heap → Prop := fun h => ∃ (L : List (Leaf × Value)) (zs : List Value), Vals us zs ∧ L.Perm (ls.zip zs) ∧ LfS P w h a L
def DctF (P : Program) (w : World) (a : Addr) (ls : List Leaf) (vs : List V) : Heap → Prop := fun h => (a == sysModules) = false ∧ ∃ us, Vals vs us ∧ h.DictOf (leafKind P w) a (ls.zip us)
def DctN (P : Program) (w : World) (a : Addr) (ks : List NestedKey) (bs : List Addr) (vs : List V) : Heap → Prop := fun h => (a == sysModules) = false ∧ ∃ us, Vals vs us ∧
  ∃ o es ep, h.get? a = some o ∧ o.ExactDict ∧ o.data = .dict es ep ∧ es.toList = (ks.zip (bs.zip us)).map (entryOfKey (nestedKind P w)) ∧ ks.Nodup

/-- the script: frozen, or an object of the module -/
def ScrA (K : PySem.W.Frag) (H : Hp) (a : Addr) (xs : List V) : Prop := (∃ o, H a = some (.frz o (.lst xs))) ∨
  ∃ (o : Obj) (its : Array Value) (n : Nat), K.lookup a = some o ∧ o.cls = .type "list" ∧ o.dict = none ∧ o.data = .seq its n ∧ its.size ≤ sizeLine ∧ Vals xs its.toList
theorem ScrA.sq {K : PySem.W.Frag} {H : Hp} {a : Addr} {xs : List V} (h : ScrA K H a xs) : SqL K H a xs := by
  rcases h with ⟨o, h⟩ | h
  · exact .inl (.inr ⟨o, h⟩)
  · exact .inr h
/-- a set of tuples: its rows, its table -/
abbrev rowsN (w : World) (L : List (Addr × NestedKey)) : List (Int × Value) := L.map fun p => (p.2.hash w, Value.ref p.1)
abbrev hsN (w : World) (L : List (Addr × NestedKey)) : List Int := L.map fun p => p.2.hash w
structure TabN (w : World) (h : Heap) (a : Addr) (L : List (Addr × NestedKey)) (es : Array (Int × Value)) (ep : Nat) (t : SetTable) : Prop where
  ob : ∃ o, h.get? a = some o ∧ o.ExactSet ∧ o.data = .set es ep t
  rows : es.toList = rowsN w L
  tab : TabOk t (hsN w L)
  nd : (L.map (·.2)).Nodup
  room : L.length * 5 < t.mask * 3
  few : L.length < 64
def SetNh (w : World) (a : Addr) (ks : List NestedKey) (bs : List Addr) : Heap → Prop := fun h => ∃ L es ep t, L.Perm (bs.zip ks) ∧ TabN w h a L es ep t
section
variable (T : Wd) (ι : List Addr) (bar : Addr → Prop) (H : Hp)
mutual
def RelD : D → V → Prop
  | .non, v => v = .non
  | .bl b, v => v = .bl b
  | .int i, v => v = .int i
  | .str x, v => v = .str x
  | .tup ds, v => ∃ a vs, v = .ref a ∧ SqT T.K H a vs ∧ RelDs ds vs
  | .lst ds, v => ∃ a vs, v = .ref a ∧ Rd H a (.lst vs) ∧ ¬ bar a ∧ RelDs ds vs
  | .set ds, v => ∃ a us, v = .ref a ∧ ¬ bar a ∧ RelDs ds us ∧ ((∃ led, ds = [] ∧ H a = some (.ext (SetE a led))) ∨ (∃ ls, ds ≠ [] ∧ lfs ds = some ls ∧ ls.Nodup ∧ H a = some (.ext (SetF T.P T.w a ls us))) ∨ (∃ bs : List Addr, us = bs.map V.ref ∧ isKs ds = true ∧ (∀ k ∈ nks ds, k.depth ≤ 8) ∧ H a = some (.ext (SetNh T.w a (nks ds) bs))))
  | .dct ks vs, v => ∃ a us ws, v = .ref a ∧ ¬ bar a ∧ RelDs ks us ∧ RelDs vs ws ∧ ks.length = vs.length ∧
      ((∃ ls, lfs ks = some ls ∧ H a = some (.ext (DctF T.P T.w a ls ws))) ∨ (∃ bs : List Addr, us = bs.map V.ref ∧ isKs ks = true ∧ (∀ k ∈ nks ks, k.depth ≤ 8) ∧ H a = some (.ext (DctN T.P T.w a (nks ks) bs ws))))
  | .ref n, v => ∃ a, ι[n]? = some a ∧ v = .ref a
  | .clo _ _, _ => False
  | .err _ _, _ => False
  | .scr ns, v => ∃ a, v = .ref a ∧ ScrA T.K H a (ns.map V.int)
def RelDs : List D → List V → Prop
  | [], vs => vs = []
  | d :: ds, vs => ∃ v r, vs = v :: r ∧ RelD d v ∧ RelDs ds r
end
end

/-- one object, by its own content, at an address: weakly (a list of one's own too) -/
def RelC (T : Wd) (ι : List Addr) (bar : Addr → Prop) (H : Hp) : D → Addr → Prop
  | .lst ds, a => ∃ vs, Rd H a (.lst vs) ∧ RelDs T ι bar H ds vs
  | .set ds, a => ∃ us, RelDs T ι bar H ds us ∧ ((∃ led, ds = [] ∧ H a = some (.ext (SetE a led))) ∨ (∃ ls, ds ≠ [] ∧ lfs ds = some ls ∧ ls.Nodup ∧ H a = some (.ext (SetF T.P T.w a ls us))) ∨ (∃ bs : List Addr, us = bs.map V.ref ∧ isKs ds = true ∧ (∀ k ∈ nks ds, k.depth ≤ 8) ∧ H a = some (.ext (SetNh T.w a (nks ds) bs))))
  | .dct ks vs, a => ∃ us ws, RelDs T ι bar H ks us ∧ RelDs T ι bar H vs ws ∧ ks.length = vs.length ∧
      ((∃ ls, lfs ks = some ls ∧ H a = some (.ext (DctF T.P T.w a ls ws))) ∨ (∃ bs : List Addr, us = bs.map V.ref ∧ isKs ks = true ∧ (∀ k ∈ nks ks, k.depth ≤ 8) ∧ H a = some (.ext (DctN T.P T.w a (nks ks) bs ws))))
  | _, _ => False
def RelW (T : Wd) (ι : List Addr) (bar : Addr → Prop) (H : Hp) (d : D) (v : V) : Prop :=
  RelD T ι bar H d v ∨ ∃ a, v = .ref a ∧ a ∉ ι ∧ RelC T ι bar H d a

/-! ### how they stay -/
def Imm : HO → Prop
  | .tup _ => True
  | .frz _ _ => True
  | _ => False
/-- all tracked but the cells is as it was; ι' has the old cells and new ones -/
structure Stp (ι ι' : List Addr) (H H' : Hp) : Prop where
  ext : ∀ a o, H a = some o → a ∉ ι → H' a = some o
  imm : ∀ a o, H a = some o → Imm o → H' a = some o
  live : ∀ a o, H a = some o → ∃ o', H' a = some o'
  pre : ∃ more, ι' = ι ++ more ∧ ∀ a ∈ more, H a = none
theorem Stp.refl {ι : List Addr} {H : Hp} : Stp ι ι H H := ⟨fun _ _ h _ => h, fun _ _ h _ => h, fun _ o h => ⟨o, h⟩, [], by simp, by simp⟩
theorem Stp.same {ι : List Addr} {H H' : Hp} (h : ∀ a o, H a = some o → H' a = some o) : Stp ι ι H H' := ⟨fun a o e _ => h a o e, fun a o e _ => h a o e, fun a o e => ⟨o, h a o e⟩, [], by simp, by simp⟩
theorem Stp.laid {ι : List Addr} {H : Hp} {p : Addr} {o : HO} (h : H p = none) : Stp ι ι H (upd H p o) := .same fun a u e => by
  rw [upd_ne (ne_of_none e h)]; exact e
theorem Stp.back {ι ι' : List Addr} {H H' : Hp} (a : Stp ι ι' H H') {x : Addr} (h : H' x = none) : H x = none := by
  cases q : H x with
  | none => rfl
  | some o =>
    obtain ⟨o', e⟩ := a.live x o q
    rw [h] at e; cases e
theorem Stp.trans {ι ι1 ι2 : List Addr} {H H1 H2 : Hp} (a : Stp ι ι1 H H1) (b : Stp ι1 ι2 H1 H2) : Stp ι ι2 H H2 := by
  obtain ⟨m1, e1, f1⟩ := a.pre
  obtain ⟨m2, e2, f2⟩ := b.pre
  have key : ∀ x o, H x = some o → x ∉ ι → x ∉ ι1 := fun x o e n => by
    rw [e1, List.mem_append]
    rintro (z | z)
    · exact n z
    · rw [f1 x z] at e; cases e
  refine ⟨fun x o e n => b.ext x o (a.ext x o e n) (key x o e n), fun x o e i => b.imm x o (a.imm x o e i) i, fun x o e => ?_, m1 ++ m2, by rw [e2, e1, List.append_assoc], fun x hx => ?_⟩
  · obtain ⟨o1, e1⟩ := a.live x o e
    exact b.live x o1 e1
  · rcases List.mem_append.mp hx with z | z
    · exact f1 x z
    · exact a.back (f2 x z)
theorem Stp.get {ι ι' : List Addr} {H H' : Hp} (s : Stp ι ι' H H') {n : Nat} {a : Addr} (h : ι[n]? = some a) : ι'[n]? = some a := by
  obtain ⟨m, e, _⟩ := s.pre
  rw [e, List.getElem?_append_left (by
    obtain ⟨hl, _⟩ := List.getElem?_eq_some_iff.mp h
    exact hl)]
  exact h
/-- a new object, unbarred: bar' bars what bar did and new things -/
def Grows (H : Hp) (bar bar' : Addr → Prop) : Prop := ∀ a, bar' a → bar a ∨ H a = none
section
variable {T : Wd} {ι ι' : List Addr} {bar bar' : Addr → Prop} {H H' : Hp}
theorem Rd.keep (s : Stp ι ι' H H') {a : Addr} {u : HO} (h : Rd H a u) (n : a ∉ ι) : Rd H' a u := by
  rcases h with h | ⟨o, h⟩
  · exact .inl (s.ext a u h n)
  · exact .inr ⟨o, s.imm a _ h trivial⟩
theorem SqT.keep (s : Stp ι ι' H H') {a : Addr} {xs : List V} (h : SqT T.K H a xs) : SqT T.K H' a xs := by
  rcases h with (h | ⟨o, h⟩) | h
  · exact .inl (.inl (s.imm a _ h trivial))
  · exact .inl (.inr ⟨o, s.imm a _ h trivial⟩)
  · exact .inr h
theorem Rd.tracked {a : Addr} {u : HO} (h : Rd H a u) : H a ≠ none := by
  rcases h with h | ⟨o, h⟩ <;> rw [h] <;> simp
theorem nbar_keep (hb : Grows H bar bar') {a : Addr} (t : H a ≠ none) (n : ¬ bar a) : ¬ bar' a := fun z => by
  rcases hb a z with q | q
  · exact n q
  · exact t q
theorem some_ne {H : Hp} {a : Addr} {o : HO} (h : H a = some o) : H a ≠ none := by rw [h]; simp
mutual
theorem RelD.keep (s : Stp ι ι' H H') (hi : ∀ a ∈ ι, bar a) (hb : Grows H bar bar') : ∀ {d : D} {v : V}, RelD T ι bar H d v → RelD T ι' bar' H' d v
  | .non, v, h => by simpa [RelD] using h
  | .bl _, v, h => by simpa [RelD] using h
  | .int _, v, h => by simpa [RelD] using h
  | .str _, v, h => by simpa [RelD] using h
  | .tup ds, v, h => by
    simp only [RelD] at h ⊢
    obtain ⟨a, vs, e, q, r⟩ := h
    exact ⟨a, vs, e, SqT.keep s q, RelDs.keep s hi hb r⟩
  | .lst ds, v, h => by
    simp only [RelD] at h ⊢
    obtain ⟨a, vs, e, q, n, r⟩ := h
    exact ⟨a, vs, e, Rd.keep s q fun z => n (hi a z), nbar_keep hb (Rd.tracked q) n, RelDs.keep s hi hb r⟩
  | .set ds, v, h => by
    simp only [RelD] at h ⊢
    obtain ⟨a, us, e, n, r, q⟩ := h
    have na : a ∉ ι := fun z => n (hi a z)
    refine ⟨a, us, e, ?_, RelDs.keep s hi hb r, ?_⟩
    · rcases q with ⟨_, _, q⟩ | ⟨_, _, _, _, q⟩ | ⟨_, _, _, _, q⟩ <;> exact nbar_keep hb (some_ne q) n
    · rcases q with ⟨led, e1, q⟩ | ⟨ls, e0, e1, e2, q⟩ | ⟨bs, e1, e2, e3, q⟩
      · exact .inl ⟨led, e1, s.ext a _ q na⟩
      · exact .inr (.inl ⟨ls, e0, e1, e2, s.ext a _ q na⟩)
      · exact .inr (.inr ⟨bs, e1, e2, e3, s.ext a _ q na⟩)
  | .dct ks vs, v, h => by
    simp only [RelD] at h ⊢
    obtain ⟨a, us, ws, e, n, r1, r2, l, q⟩ := h
    have na : a ∉ ι := fun z => n (hi a z)
    refine ⟨a, us, ws, e, ?_, RelDs.keep s hi hb r1, RelDs.keep s hi hb r2, l, ?_⟩
    · rcases q with ⟨_, _, q⟩ | ⟨_, _, _, _, q⟩ <;> exact nbar_keep hb (some_ne q) n
    · rcases q with ⟨ls, e1, q⟩ | ⟨bs, e1, e2, e3, q⟩
      · exact .inl ⟨ls, e1, s.ext a _ q na⟩
      · exact .inr ⟨bs, e1, e2, e3, s.ext a _ q na⟩
  | .ref n, v, h => by
    simp only [RelD] at h ⊢
    obtain ⟨a, e, q⟩ := h
    exact ⟨a, s.get e, q⟩
  | .clo _ _, v, h => by simp [RelD] at h
  | .err _ _, v, h => by simp [RelD] at h
  | .scr ns, v, h => by
    simp only [RelD] at h ⊢
    obtain ⟨a, e, q⟩ := h
    refine ⟨a, e, ?_⟩
    rcases q with ⟨o, q⟩ | q
    · exact .inl ⟨o, s.imm a _ q trivial⟩
    · exact .inr q
theorem RelDs.keep (s : Stp ι ι' H H') (hi : ∀ a ∈ ι, bar a) (hb : Grows H bar bar') : ∀ {ds : List D} {vs : List V}, RelDs T ι bar H ds vs → RelDs T ι' bar' H' ds vs
  | [], vs, h => by simpa [RelDs] using h
  | d :: ds, vs, h => by
    simp only [RelDs] at h ⊢
    obtain ⟨v, r, e, h1, h2⟩ := h
    exact ⟨v, r, e, RelD.keep s hi hb h1, RelDs.keep s hi hb h2⟩
end
theorem RelDs.nil : RelDs T ι bar H [] [] := by simp [RelDs]
theorem RelDs.cons {d : D} {v : V} {ds : List D} {vs : List V} (h : RelD T ι bar H d v) (r : RelDs T ι bar H ds vs) : RelDs T ι bar H (d :: ds) (v :: vs) := by
  simp only [RelDs]; exact ⟨v, vs, rfl, h, r⟩
theorem RelDs.uncons {d : D} {ds : List D} {vs : List V} (h : RelDs T ι bar H (d :: ds) vs) : ∃ v r, vs = v :: r ∧ RelD T ι bar H d v ∧ RelDs T ι bar H ds r := by
  simpa only [RelDs] using h
theorem RelDs.length : ∀ {ds : List D} {vs : List V}, RelDs T ι bar H ds vs → vs.length = ds.length
  | [], vs, h => by
    have : vs = [] := by simpa [RelDs] using h
    rw [this]; rfl
  | d :: ds, vs, h => by
    obtain ⟨v, r, rfl, _, h2⟩ := h.uncons
    rw [List.length_cons, List.length_cons, RelDs.length h2]
theorem RelDs.get : ∀ {ds : List D} {vs : List V} {i : Nat} {d : D}, RelDs T ι bar H ds vs → ds[i]? = some d → ∃ v, vs[i]? = some v ∧ RelD T ι bar H d v
  | [], _, _, _, _, e => by simp at e
  | d :: ds, vs, 0, x, h, e => by
    obtain ⟨v, r, rfl, h1, _⟩ := h.uncons
    simp at e; subst e
    exact ⟨v, rfl, h1⟩
  | d :: ds, vs, i + 1, x, h, e => by
    obtain ⟨v, r, rfl, _, h2⟩ := h.uncons
    obtain ⟨u, e1, r1⟩ := RelDs.get (i := i) h2 (by simpa using e)
    exact ⟨u, by simpa using e1, r1⟩
theorem RelDs.append : ∀ {ds es : List D} {vs us : List V}, RelDs T ι bar H ds vs → RelDs T ι bar H es us → RelDs T ι bar H (ds ++ es) (vs ++ us)
  | [], _, vs, _, h, q => by
    have : vs = [] := by simpa [RelDs] using h
    rw [this]; exact q
  | d :: ds, es, vs, us, h, q => by
    obtain ⟨v, r, rfl, h1, h2⟩ := h.uncons
    exact .cons h1 (RelDs.append h2 q)
theorem RelDs.take : ∀ (n : Nat) {ds : List D} {vs : List V}, RelDs T ι bar H ds vs → RelDs T ι bar H (ds.take n) (vs.take n)
  | 0, _, _, _ => by simpa using RelDs.nil
  | n + 1, [], vs, h => by
    have : vs = [] := by simpa [RelDs] using h
    rw [this]; exact .nil
  | n + 1, d :: ds, vs, h => by
    obtain ⟨v, r, rfl, h1, h2⟩ := h.uncons
    exact .cons h1 (RelDs.take n h2)
theorem RelDs.drop : ∀ (n : Nat) {ds : List D} {vs : List V}, RelDs T ι bar H ds vs → RelDs T ι bar H (ds.drop n) (vs.drop n)
  | 0, _, _, h => h
  | n + 1, [], vs, h => by
    have : vs = [] := by simpa [RelDs] using h
    rw [this]; exact .nil
  | n + 1, d :: ds, vs, h => by
    obtain ⟨v, r, rfl, h1, h2⟩ := h.uncons
    exact RelDs.drop n h2
theorem RelDs.set {d : D} {v : V} (q : RelD T ι bar H d v) : ∀ (i : Nat) {ds : List D} {vs : List V}, RelDs T ι bar H ds vs → RelDs T ι bar H (ds.set i d) (vs.set i v)
  | _, [], vs, h => by
    have : vs = [] := by simpa [RelDs] using h
    rw [this]; exact .nil
  | 0, x :: ds, vs, h => by
    obtain ⟨v, r, rfl, h1, h2⟩ := h.uncons
    exact .cons q h2
  | i + 1, x :: ds, vs, h => by
    obtain ⟨v, r, rfl, h1, h2⟩ := h.uncons
    exact .cons h1 (RelDs.set q i h2)
theorem RelDs.none_of {ds : List D} {vs : List V} {i : Nat} (h : RelDs T ι bar H ds vs) (e : ds[i]? = none) : vs[i]? = none := by
  have := h.length
  rw [List.getElem?_eq_none_iff] at e ⊢
  omega
theorem RelDs.reverse : ∀ {ds : List D} {vs : List V}, RelDs T ι bar H ds vs → RelDs T ι bar H ds.reverse vs.reverse
  | [], vs, h => by
    have : vs = [] := by simpa [RelDs] using h
    rw [this]; exact .nil
  | d :: ds, vs, h => by
    obtain ⟨v, r, rfl, h1, h2⟩ := h.uncons
    rw [List.reverse_cons, List.reverse_cons]
    exact (RelDs.reverse h2).append (.cons h1 .nil)
theorem RelC.keep (s : Stp ι ι' H H') (hi : ∀ a ∈ ι, bar a) (hb : Grows H bar bar') {d : D} {a : Addr} (na : a ∉ ι) (h : RelC T ι bar H d a) : RelC T ι' bar' H' d a := by
  cases d with
  | lst ds =>
    obtain ⟨vs, q, r⟩ := h
    exact ⟨vs, Rd.keep s q na, r.keep s hi hb⟩
  | set ds =>
    obtain ⟨us, r, q⟩ := h
    refine ⟨us, r.keep s hi hb, ?_⟩
    rcases q with ⟨led, e1, q⟩ | ⟨ls, e0, e1, e2, q⟩ | ⟨bs, e1, e2, e3, q⟩
    · exact .inl ⟨led, e1, s.ext a _ q na⟩
    · exact .inr (.inl ⟨ls, e0, e1, e2, s.ext a _ q na⟩)
    · exact .inr (.inr ⟨bs, e1, e2, e3, s.ext a _ q na⟩)
  | dct ks vs =>
    obtain ⟨us, ws, r1, r2, l, q⟩ := h
    refine ⟨us, ws, r1.keep s hi hb, r2.keep s hi hb, l, ?_⟩
    rcases q with ⟨ls, e1, q⟩ | ⟨bs, e1, e2, e3, q⟩
    · exact .inl ⟨ls, e1, s.ext a _ q na⟩
    · exact .inr ⟨bs, e1, e2, e3, s.ext a _ q na⟩
  | _ => exact h
theorem RelC.tracked {d : D} {a : Addr} (h : RelC T ι bar H d a) : H a ≠ none := by
  cases d with
  | lst ds => obtain ⟨vs, q, r⟩ := h; exact Rd.tracked q
  | set ds => obtain ⟨us, r, q⟩ := h; rcases q with ⟨_, _, q⟩ | ⟨_, _, _, _, q⟩ | ⟨_, _, _, _, q⟩ <;> exact some_ne q
  | dct ks vs => obtain ⟨us, ws, r1, r2, l, q⟩ := h; rcases q with ⟨_, _, q⟩ | ⟨_, _, _, _, q⟩ <;> exact some_ne q
  | _ => exact h.elim
/-- an unbarred container, as a value -/
theorem RelC.val {d : D} {a : Addr} (h : RelC T ι bar H d a) (n : ¬ bar a) : RelD T ι bar H d (.ref a) := by
  cases d with
  | lst ds => obtain ⟨vs, q, r⟩ := h; simp only [RelD]; exact ⟨a, vs, rfl, q, n, r⟩
  | set ds => obtain ⟨us, r, q⟩ := h; simp only [RelD]; exact ⟨a, us, rfl, n, r, q⟩
  | dct ks vs => obtain ⟨us, ws, r1, r2, l, q⟩ := h; simp only [RelD]; exact ⟨a, us, ws, rfl, n, r1, r2, l, q⟩
  | _ => exact h.elim
theorem RelW.keep (s : Stp ι ι' H H') (hi : ∀ a ∈ ι, bar a) (hb : Grows H bar bar') {d : D} {v : V} (h : RelW T ι bar H d v) : RelW T ι' bar' H' d v := by
  rcases h with h | ⟨a, e, na, h⟩
  · exact .inl (h.keep s hi hb)
  · refine .inr ⟨a, e, fun z => ?_, h.keep s hi hb na⟩
    obtain ⟨m, e1, f⟩ := s.pre
    rw [e1, List.mem_append] at z
    rcases z with z | z
    · exact na z
    · exact h.tracked (f a z)
theorem RelD.weak {d : D} {v : V} (h : RelD T ι bar H d v) : RelW T ι bar H d v := .inl h
mutual
/-- fewer things barred -/
theorem RelD.fewer (hb : ∀ a, bar' a → bar a) : ∀ {d : D} {v : V}, RelD T ι bar H d v → RelD T ι bar' H d v
  | .non, v, h => by simpa [RelD] using h
  | .bl _, v, h => by simpa [RelD] using h
  | .int _, v, h => by simpa [RelD] using h
  | .str _, v, h => by simpa [RelD] using h
  | .tup ds, v, h => by
    simp only [RelD] at h ⊢
    obtain ⟨a, vs, e, q, r⟩ := h
    exact ⟨a, vs, e, q, RelDs.fewer hb r⟩
  | .lst ds, v, h => by
    simp only [RelD] at h ⊢
    obtain ⟨a, vs, e, q, n, r⟩ := h
    exact ⟨a, vs, e, q, fun z => n (hb a z), RelDs.fewer hb r⟩
  | .set ds, v, h => by
    simp only [RelD] at h ⊢
    obtain ⟨a, us, e, n, r, q⟩ := h
    exact ⟨a, us, e, fun z => n (hb a z), RelDs.fewer hb r, q⟩
  | .dct ks vs, v, h => by
    simp only [RelD] at h ⊢
    obtain ⟨a, us, ws, e, n, r1, r2, l, q⟩ := h
    exact ⟨a, us, ws, e, fun z => n (hb a z), RelDs.fewer hb r1, RelDs.fewer hb r2, l, q⟩
  | .ref n, v, h => by simpa [RelD] using h
  | .clo _ _, v, h => by simp [RelD] at h
  | .err _ _, v, h => by simp [RelD] at h
  | .scr ns, v, h => by simpa [RelD] using h
theorem RelDs.fewer (hb : ∀ a, bar' a → bar a) : ∀ {ds : List D} {vs : List V}, RelDs T ι bar H ds vs → RelDs T ι bar' H ds vs
  | [], vs, h => by simpa [RelDs] using h
  | d :: ds, vs, h => by
    simp only [RelDs] at h ⊢
    obtain ⟨v, r, e, h1, h2⟩ := h
    exact ⟨v, r, e, RelD.fewer hb h1, RelDs.fewer hb h2⟩
end
theorem RelC.fewer (hb : ∀ a, bar' a → bar a) {d : D} {a : Addr} (h : RelC T ι bar H d a) : RelC T ι bar' H d a := by
  cases d with
  | lst ds => obtain ⟨vs, q, r⟩ := h; exact ⟨vs, q, r.fewer hb⟩
  | set ds => obtain ⟨us, r, q⟩ := h; exact ⟨us, r.fewer hb, q⟩
  | dct ks vs => obtain ⟨us, ws, r1, r2, l, q⟩ := h; exact ⟨us, ws, r1.fewer hb, r2.fewer hb, l, q⟩
  | _ => exact h
/-! ### marked slots -/
def MkR (T : Wd) (ι : List Addr) (bar : Addr → Prop) (H : Hp) : Mk → Prop
  | .ex _ dx c ds => ∃ ws, RelDs T ι bar H ds ws ∧ (T.cf c).length = ds.length ∧ H dx = some (.xd ((T.cf c).zip ws)) ∧ ¬ bar dx
  | .fn _ c o ds vs => H c = some o ∧ ¬ bar c ∧ RelDs T ι bar H ds vs
theorem MkR.keep (s : Stp ι ι' H H') (hi : ∀ a ∈ ι, bar a) (hb : Grows H bar bar') : ∀ {m : Mk}, MkR T ι bar H m → MkR T ι' bar' H' m
  | .ex _ dx c ds, ⟨ws, r, l, e, n⟩ => ⟨ws, r.keep s hi hb, l, s.ext _ _ e fun z => n (hi _ z), nbar_keep hb (some_ne e) n⟩
  | .fn _ c o ds vs, ⟨e, n, r⟩ => ⟨s.ext _ _ e fun z => n (hi _ z), nbar_keep hb (some_ne e) n, r.keep s hi hb⟩
theorem MkR.fewer (hb : ∀ a, bar' a → bar a) : ∀ {m : Mk}, MkR T ι bar H m → MkR T ι bar' H m
  | .ex _ dx c ds, ⟨ws, r, l, e, n⟩ => ⟨ws, r.fewer hb, l, e, fun z => n (hb _ z)⟩
  | .fn _ c o ds vs, ⟨e, n, r⟩ => ⟨e, fun z => n (hb _ z), r.fewer hb⟩
end
end Z

namespace Z
open PySem PySem.Spec PyProof.Rows L2
set_option autoImplicit false

/-! ### the state of a def, as data -/
inductive Sl where
  | no | val (d : D) | own (d : D) | mk (k : Nat)
abbrev Env := List Sl
/-- a cell: what may be changed from anywhere -/
inductive Cell where
  | dk (ks : List Str) (vs : List D)
  | tb (q : Str)
abbrev G := List Cell
structure Xc where
  c : Nat
  ds : List D
inductive Res (α : Type) where
  | ok (a : α) (g : G)
  | exc (x : Xc) (g : G)
  | bad
def Res.bind {α β : Type} : Res α → (α → G → Res β) → Res β
  | .ok a g, f => f a g
  | .exc x g, _ => .exc x g
  | .bad, _ => .bad
abbrev Ev := Env → G → Res D
abbrev EvL := Env → G → Res (List D)
abbrev EvB := Env → G → Res Bool

/-! ### cells -/
section
variable (T : Wd) (ι : List Addr) (bar : Addr → Prop) (H : Hp)
/-- a table of code objects that bear the name q -/
def TabZ (P : Addr) (q : Str) : Prop := ∃ ps : Array Value, H P = some (.tbl ps) ∧ TriplesOk ps.toList ∧ ∀ (pos : Pos) (cv : Value), codeAmong pos ps.toList = some cv → ∃ c, cv = .ref c ∧ H c = some (LamX.CodeO c q) ∧ ¬ bar c
def RelCell : Cell → Addr → Prop
  | .dk ks vs, a => ∃ ws, RelDs T ι bar H vs ws ∧ ks.length = vs.length ∧ H a = some (.dK ((ks.map Sum.inr).zip ws))
  | .tb q, a => a = T.tb q ∧ TabZ bar H a q
structure GR (g : G) : Prop where
  len : ι.length = g.length
  nd : ι.Nodup
  at_ : ∀ (n : Nat) (c : Cell), g[n]? = some c → ∃ a, ι[n]? = some a ∧ RelCell T ι bar H c a
end
theorem RelCell.tracked {T : Wd} {ι : List Addr} {bar : Addr → Prop} {H : Hp} {c : Cell} {a : Addr} (h : RelCell T ι bar H c a) : H a ≠ none := by
  cases c with
  | dk ks vs => obtain ⟨ws, _, _, e⟩ := h; exact some_ne e
  | tb q => obtain ⟨_, ps, e, _⟩ := h; exact some_ne e
theorem GR.tracked {T : Wd} {ι : List Addr} {bar : Addr → Prop} {H : Hp} {g : G} (h : GR T ι bar H g) : ∀ a ∈ ι, H a ≠ none := fun a ha => by
  obtain ⟨n, hn, e⟩ := List.getElem_of_mem ha
  have h2 : n < g.length := by rw [← h.len]; exact hn
  obtain ⟨b, e1, r⟩ := h.at_ n g[n] (List.getElem?_eq_getElem h2)
  rw [List.getElem?_eq_getElem hn, e] at e1
  cases e1
  exact r.tracked
theorem RelCell.keep {T : Wd} {ι : List Addr} {bar bar' : Addr → Prop} {H H' : Hp} (s : Same H H') (hi : ∀ a ∈ ι, bar a) (hb : Grows H bar bar') {c : Cell} {a : Addr} (h : RelCell T ι bar H c a) : RelCell T ι bar' H' c a := by
  cases c with
  | dk ks vs =>
    obtain ⟨ws, r, l, e⟩ := h
    exact ⟨ws, r.keep (.same s) hi hb, l, s _ _ e⟩
  | tb q =>
    obtain ⟨eP, ps, e, t, f⟩ := h
    refine ⟨eP, ps, s _ _ e, t, fun pos cv hc => ?_⟩
    obtain ⟨c, e1, e2, n⟩ := f pos cv hc
    exact ⟨c, e1, s _ _ e2, nbar_keep hb (some_ne e2) n⟩
theorem RelCell.fewer {T : Wd} {ι : List Addr} {bar bar' : Addr → Prop} {H : Hp} (hb : ∀ a, bar' a → bar a) {c : Cell} {a : Addr} (h : RelCell T ι bar H c a) : RelCell T ι bar' H c a := by
  cases c with
  | dk ks vs =>
    obtain ⟨ws, r, l, e⟩ := h
    exact ⟨ws, r.fewer hb, l, e⟩
  | tb q =>
    obtain ⟨eP, ps, e, t, f⟩ := h
    refine ⟨eP, ps, e, t, fun pos cv hc => ?_⟩
    obtain ⟨c, e1, e2, n⟩ := f pos cv hc
    exact ⟨c, e1, e2, fun z => n (hb _ z)⟩
theorem GR.keep {T : Wd} {ι : List Addr} {bar bar' : Addr → Prop} {H H' : Hp} {g : G} (h : GR T ι bar H g) (s : Same H H') (hi : ∀ a ∈ ι, bar a) (hb : Grows H bar bar') : GR T ι bar' H' g :=
  ⟨h.len, h.nd, fun n c e => let ⟨a, e1, r⟩ := h.at_ n c e; ⟨a, e1, r.keep s hi hb⟩⟩
theorem GR.fewer {T : Wd} {ι : List Addr} {bar bar' : Addr → Prop} {H : Hp} {g : G} (h : GR T ι bar H g) (hb : ∀ a, bar' a → bar a) : GR T ι bar' H g :=
  ⟨h.len, h.nd, fun n c e => let ⟨a, e1, r⟩ := h.at_ n c e; ⟨a, e1, r.fewer hb⟩⟩

/-! ### the frame -/
/-- what is known besides: the cells' addresses, the addresses of the containers that a name of the def owns, other barred ones -/
structure Gho where
  ι : List Addr
  oa : Nat → Option Addr
  av : Addr → Prop
def Gho.bar (γ : Gho) : Addr → Prop := fun a => a ∈ γ.ι ∨ (∃ i, γ.oa i = some a) ∨ γ.av a
abbrev Gho.to (γ : Gho) (ι' : List Addr) : Gho := { γ with ι := ι' }
structure StR (T : Wd) (γ : Gho) (H : Hp) (ρ : Env) (σ : L2.St) (g : G) : Prop where
  len : σ.length = ρ.length
  vals : ∀ (i : Nat) (d : D), ρ[i]? = some (.val d) → ∃ v, σ[i]? = some (some v) ∧ RelD T γ.ι γ.bar H d v
  owns : ∀ (i : Nat) (d : D), ρ[i]? = some (.own d) → ∃ a, γ.oa i = some a ∧ σ[i]? = some (some (.ref a)) ∧ RelC T γ.ι γ.bar H d a ∧ Mut (H a)
  oad : ∀ (i : Nat) (a : Addr), γ.oa i = some a → ∃ d, ρ[i]? = some (.own d)
  oinj : ∀ i j a, γ.oa i = some a → γ.oa j = some a → i = j
  oi : ∀ i a, γ.oa i = some a → a ∉ γ.ι ∧ ¬ γ.av a
  avt : ∀ a, γ.av a → H a ≠ none
  cells : GR T γ.ι γ.bar H g
  mks : ∀ (i k : Nat), ρ[i]? = some (.mk k) → ∃ m, T.mks k = some m ∧ σ[i]? = some (some (.ref m.at_)) ∧ MkR T γ.ι γ.bar H m
theorem mk_of_set {ρ : Env} {i j k : Nat} {s : Sl} (n : ∀ k, s ≠ .mk k) (h : (ρ.set i s)[j]? = some (.mk k)) : i ≠ j ∧ ρ[j]? = some (.mk k) := by
  by_cases e : i = j
  · subst e
    have hl : i < ρ.length := by simpa using (List.getElem?_eq_some_iff.mp h).1
    rw [List.getElem?_set_self hl] at h
    exact absurd (Option.some.inj h) (n k)
  · rw [List.getElem?_set_ne e] at h; exact ⟨e, h⟩
section
variable {T : Wd} {γ : Gho} {ι' : List Addr} {H H' : Hp} {ρ : Env} {σ : L2.St} {g g' : G}
theorem Gho.bi (γ : Gho) : ∀ a ∈ γ.ι, γ.bar a := fun _ h => .inl h
theorem Gho.grows (s : Stp γ.ι ι' H H') : Grows H γ.bar (γ.to ι').bar := fun a h => by
  rcases h with h | h | h
  · obtain ⟨m, e, f⟩ := s.pre
    have h : a ∈ ι' := h
    rw [e, List.mem_append] at h
    rcases h with h | h
    · exact .inl (.inl h)
    · exact .inr (f a h)
  · exact .inl (.inr (.inl h))
  · exact .inl (.inr (.inr h))
theorem StR.owned (R : StR T γ H ρ σ g) {i : Nat} {a : Addr} (h : γ.oa i = some a) : H a ≠ none := by
  obtain ⟨d, e⟩ := R.oad i a h
  obtain ⟨b, e1, _, r, _⟩ := R.owns i d e
  rw [h] at e1; cases e1
  exact r.tracked
theorem StR.bart (R : StR T γ H ρ σ g) : ∀ a, γ.bar a → H a ≠ none := fun a h => by
  rcases h with h | ⟨i, h⟩ | h
  · exact R.cells.tracked a h
  · exact R.owned h
  · exact R.avt a h
theorem StR.step (R : StR T γ H ρ σ g) (s : Stp γ.ι ι' H H') (G' : GR T ι' (γ.to ι').bar H' g') : StR T (γ.to ι') H' ρ σ g' where
  len := R.len
  vals := fun i d e => let ⟨v, e1, r⟩ := R.vals i d e; ⟨v, e1, r.keep s γ.bi (Gho.grows s)⟩
  owns := fun i d e => by
    obtain ⟨a, e1, e2, r, m⟩ := R.owns i d e
    have na := (R.oi i a e1).1
    refine ⟨a, e1, e2, r.keep s γ.bi (Gho.grows s) na, ?_⟩
    cases q : H a with
    | none => rw [q] at m; exact m.elim
    | some o => rw [s.ext a o q na, ← q]; exact m
  oad := R.oad
  oinj := R.oinj
  oi := fun i a e => by
    refine ⟨fun z => ?_, (R.oi i a e).2⟩
    obtain ⟨m, e1, f⟩ := s.pre
    have z : a ∈ ι' := z
    rw [e1, List.mem_append] at z
    rcases z with z | z
    · exact (R.oi i a e).1 z
    · exact R.owned e (f a z)
  avt := fun a h => by
    cases q : H a with
    | none => exact absurd q (R.avt a h)
    | some o =>
      obtain ⟨o', e⟩ := s.live a o q
      rw [e]; simp
  cells := G'
  mks := fun i k e => let ⟨m, e1, e2, r⟩ := R.mks i k e; ⟨m, e1, e2, r.keep s γ.bi (Gho.grows s)⟩
/-- new objects alone -/
theorem StR.same (R : StR T γ H ρ σ g) (s : Same H H') : StR T γ H' ρ σ g :=
  R.step (.same s) (R.cells.keep s γ.bi (Gho.grows (.same s)))
end

/-! ### what is wanted behind -/
/-- an error, as its object lies -/
def ExcR (T : Wd) (ι : List Addr) (bar : Addr → Prop) (H : Hp) (x : Xc) (cls : Value) (dx : Option Addr) : Prop :=
  cls = T.ct x.c ∧ ∃ d ws, dx = some d ∧ RelDs T ι bar H x.ds ws ∧ (T.cf x.c).length = x.ds.length ∧ H d = some (.xd ((T.cf x.c).zip ws)) ∧ ¬ bar d
/-- how results are told -/
abbrev Rel (α β : Type) := List Addr → (Addr → Prop) → Hp → α → β → Prop
def Post {α β : Type} (T : Wd) (γ : Gho) (H : Hp) (σ : L2.St) (W : WX) (R : Rel α β) (Q : β → Hp → Prop) : Res α → Prop
  | .ok d g' => ∀ v ι' H', Stp γ.ι ι' H H' → GR T ι' (γ.to ι').bar H' g' → R ι' (γ.to ι').bar H' d v → Q v H'
  | .exc x g' => ∀ cls dx ι' H', Stp γ.ι ι' H H' → GR T ι' (γ.to ι').bar H' g' → ExcR T ι' (γ.to ι').bar H' x cls dx → W cls dx σ H'
  | .bad => False
theorem Post.after {α β : Type} {T : Wd} {γ : Gho} {H H1 : Hp} {σ : L2.St} {W : WX} {R : Rel α β} {Q : β → Hp → Prop} {ι1 : List Addr} (s : Stp γ.ι ι1 H H1) : ∀ {r : Res α}, Post T γ H σ W R Q r → Post T (γ.to ι1) H1 σ W R Q r
  | .ok d g', h => fun v ι' H' s1 G1 r1 => h v ι' H' (s.trans s1) G1 r1
  | .exc x g', h => fun cls dx ι' H' s1 G1 r1 => h cls dx ι' H' (s.trans s1) G1 r1
  | .bad, h => h
theorem Post.bind {α β α' β' : Type} {T : Wd} {γ : Gho} {H : Hp} {σ : L2.St} {W : WX} {R : Rel α β} {R1 : Rel α' β'} {Q : β → Hp → Prop} {Q1 : β' → Hp → Prop} {r : Res α'} {k : α' → G → Res α} (h : Post T γ H σ W R Q (r.bind k))
    (hk : ∀ d g1, r = .ok d g1 → ∀ v ι1 H1, Stp γ.ι ι1 H H1 → GR T ι1 (γ.to ι1).bar H1 g1 → R1 ι1 (γ.to ι1).bar H1 d v → Post T (γ.to ι1) H1 σ W R Q (k d g1) → Q1 v H1) : Post T γ H σ W R1 Q1 r := by
  cases r with
  | ok d g1 => exact fun v ι1 H1 s G1 r1 => hk d g1 rfl v ι1 H1 s G1 r1 (Post.after s h)
  | exc x g1 => exact h
  | bad => exact h
/-- the reading of an expression -/
def tX {α β : Type} (T : Wd) (W : WX) (R : Rel α β) (m : Env → G → Res α) : L2.St → Hp → (β → Hp → Prop) → Prop :=
  fun σ H Q => ∃ γ ρ g, StR T γ H ρ σ g ∧ Post T γ H σ W R Q (m ρ g)
abbrev rD (T : Wd) : Rel D V := fun ι bar H d v => RelD T ι bar H d v
abbrev rW (T : Wd) : Rel D V := fun ι bar H d v => RelW T ι bar H d v
abbrev rDs (T : Wd) : Rel (List D) (List V) := fun ι bar H d v => RelDs T ι bar H d v
abbrev rB : Rel Bool Bool := fun _ _ _ b c => c = b
/-- the world of a context -/
structure Ok (T : Wd) (X : Cx) : Prop where
  P : X.prog = T.P
  w : X.w = T.w
  K : X.K = T.K
/-- an expression does what m says: a value that may be kept -/
abbrev EE (T : Wd) (W : WX) (X : Cx) (e : Expr) (m : Ev) : Prop := PE X e (tX T W (rD T) m)
/-- .. a value that is only looked at -/
abbrev EW (T : Wd) (W : WX) (X : Cx) (e : Expr) (m : Ev) : Prop := PE X e (tX T W (rW T) m)
abbrev EB (T : Wd) (W : WX) (X : Cx) (e : Expr) (m : EvB) : Prop := PT X e (tX T W rB m)
abbrev EAs (T : Wd) (W : WX) (X : Cx) (es : List Expr) (m : EvL) : Prop := PA X es (tX T W (rDs T) m)
theorem PE.imp {X : Cx} {e : Expr} {t t' : TE} (h : PE X e t) (i : ∀ σ H Q, t' σ H Q → t σ H Q) : PE X e t' := ⟨fun pins s σ H Q I q => h.run pins s σ H Q I (i σ H Q q)⟩
theorem PT.imp {X : Cx} {e : Expr} {t t' : TT} (h : PT X e t) (i : ∀ σ H Q, t' σ H Q → t σ H Q) : PT X e t' := ⟨fun pins s σ H Q I q => h.run pins s σ H Q I (i σ H Q q)⟩
theorem PA.imp {X : Cx} {e : List Expr} {t t' : TA} (h : PA X e t) (i : ∀ σ H Q, t' σ H Q → t σ H Q) : PA X e t' := ⟨fun pos pins s σ H Q I q => h.run pos pins s σ H Q I (i σ H Q q)⟩
theorem PS.imp {X : Cx} {e : Stmt} {t t' : TS} (h : PS X e t) (i : ∀ D σ H, t' D σ H → t D σ H) : PS X e t' := ⟨fun pins s σ H D I q => h.run pins s σ H D I (i D σ H q)⟩
theorem PSs.imp {X : Cx} {e : List Stmt} {t t' : TS} (h : PSs X e t) (i : ∀ D σ H, t' D σ H → t D σ H) : PSs X e t' := ⟨fun pins s σ H D I q => h.run pins s σ H D I (i D σ H q)⟩
theorem Post.rel {α β : Type} {T : Wd} {γ : Gho} {H : Hp} {σ : L2.St} {W : WX} {R R' : Rel α β} {Q : β → Hp → Prop} (i : ∀ ι bar H d v, R' ι bar H d v → R ι bar H d v) : ∀ {r : Res α}, Post T γ H σ W R Q r → Post T γ H σ W R' Q r
  | .ok d g', h => fun v ι' H' s1 G1 r1 => h v ι' H' s1 G1 (i _ _ _ _ _ r1)
  | .exc x g', h => h
  | .bad, h => h
theorem EE.weak {T : Wd} {W : WX} {X : Cx} {e : Expr} {m : Ev} (h : EE T W X e m) : EW T W X e m :=
  PE.imp h fun σ H Q ⟨γ, ρ, g, R, p⟩ => ⟨γ, ρ, g, R, p.rel fun _ _ _ _ _ r => .inl r⟩
end Z

namespace Z
open PySem PySem.Spec PyProof.Rows L2
set_option autoImplicit false

/-! ### data read in the heap -/
section
variable {X : Cx} {T : Wd} {pins : List (Addr × Obj)} {σ : L2.St} {H : Hp} {s : Shared} {ι : List Addr} {bar : Addr → Prop}
mutual
theorem RelD.reads (ok : Ok T X) (I : Inv X pins σ H s) : ∀ {d : D} {v : V} {u : Value}, RelD T ι bar H d v → RelV v u → isD d = true → ∃ as, Reads s.heap u (py d) as
  | .non, v, u, h, r, _ => by
    simp only [RelD] at h; subst h; cases r
    exact ⟨_, .none⟩
  | .bl b, v, u, h, r, _ => by
    simp only [RelD] at h; subst h; cases r
    exact ⟨_, .bool b⟩
  | .int i, v, u, h, r, _ => by
    simp only [RelD] at h; subst h; obtain ⟨t, rfl⟩ := r
    exact ⟨_, .int i t⟩
  | .str x, v, u, h, r, _ => by
    simp only [RelD] at h; subst h; obtain ⟨t, rfl⟩ := r
    exact ⟨_, .str x t⟩
  | .tup ds, v, u, h, r, g => by
    simp only [RelD] at h
    obtain ⟨a, vs, rfl, q, rs⟩ := h
    cases r
    rw [← ok.K] at q
    obtain ⟨its, rv, ⟨o, ho, hc, n, hd⟩, _⟩ := I.tuple q
    obtain ⟨as, hr⟩ := RelDs.reads ok I rs rv (by simpa [isD] using g)
    exact ⟨_, .tuple ho hc hd hr⟩
  | .lst ds, v, u, h, r, g => by
    simp only [RelD] at h
    obtain ⟨a, vs, rfl, q, _, rs⟩ := h
    cases r
    obtain ⟨its, rv, ⟨o, n, ho, hc, _, hd⟩, _⟩ := I.list (.inl q)
    obtain ⟨as, hr⟩ := RelDs.reads ok I rs rv (by simpa [isD] using g)
    exact ⟨_, .list ho hc hd hr⟩
  | .set _, _, _, _, _, g => by simp [isD] at g
  | .dct _ _, _, _, _, _, g => by simp [isD] at g
  | .ref _, _, _, _, _, g => by simp [isD] at g
  | .clo _ _, _, _, _, _, g => by simp [isD] at g
  | .err _ _, _, _, _, _, g => by simp [isD] at g
  | .scr _, _, _, _, _, g => by simp [isD] at g
theorem RelDs.reads (ok : Ok T X) (I : Inv X pins σ H s) : ∀ {ds : List D} {vs : List V} {us : List Value}, RelDs T ι bar H ds vs → Vals vs us → isDs ds = true → ∃ as, ReadsAll s.heap us (pys ds) as
  | [], vs, us, h, r, _ => by
    have : vs = [] := by simpa [RelDs] using h
    subst this; cases r
    exact ⟨_, .nil⟩
  | d :: ds, vs, us, h, r, g => by
    obtain ⟨v, vr, rfl, h1, h2⟩ := h.uncons
    cases r with
    | cons r1 r2 =>
      have g' : isD d = true ∧ isDs ds = true := by simpa [isDs] using g
      obtain ⟨as, q1⟩ := RelD.reads ok I h1 r1 g'.1
      obtain ⟨bs, q2⟩ := RelDs.reads ok I h2 r2 g'.2
      exact ⟨_, .cons q1 q2⟩
end
theorem RelW.reads (ok : Ok T X) (I : Inv X pins σ H s) {d : D} {v : V} {u : Value} (h : RelW T ι bar H d v) (r : RelV v u) (g : isD d = true) : ∃ as, Reads s.heap u (py d) as := by
  rcases h with h | ⟨a, rfl, _, h⟩
  · exact h.reads ok I r g
  · cases d with
    | lst ds =>
      obtain ⟨vs, q, rs⟩ := h
      cases r
      obtain ⟨its, rv, ⟨o, n, ho, hc, _, hd⟩, _⟩ := I.list (.inl q)
      obtain ⟨as, hr⟩ := RelDs.reads ok I rs rv (by simpa [isD] using g)
      exact ⟨_, .list ho hc hd hr⟩
    | set ds => simp [isD] at g
    | dct ks vs => simp [isD] at g
    | _ => exact h.elim
end
mutual
theorem plain_of : ∀ d : D, isD d = true → (py d).plain = true
  | .non, _ => by simp [py, PyData.plain]
  | .bl _, _ => by simp [py, PyData.plain]
  | .int _, _ => by simp [py, PyData.plain]
  | .str _, _ => by simp [py, PyData.plain]
  | .tup ds, g => by simp only [py, PyData.plain]; exact plains_of ds (by simpa [isD] using g)
  | .lst ds, g => by simp only [py, PyData.plain]; exact plains_of ds (by simpa [isD] using g)
  | .set _, g => by simp [isD] at g
  | .dct _ _, g => by simp [isD] at g
  | .ref _, g => by simp [isD] at g
  | .clo _ _, g => by simp [isD] at g
  | .err _ _, g => by simp [isD] at g
  | .scr _, g => by simp [isD] at g
theorem plains_of : ∀ ds : List D, isDs ds = true → PyData.plainAll (pys ds) = true
  | [], _ => by simp [pys, PyData.plainAll]
  | d :: ds, g => by
    have g' : isD d = true ∧ isDs ds = true := by simpa [isDs] using g
    simp only [pys, PyData.plainAll, plain_of d g'.1, plains_of ds g'.2, Bool.and_self]
end

/-! ### operations on data -/
/-- a two-place operation: what it answers, where it does -/
def rOp (T : Wd) (k : D → D → Option D) : R2 := fun x y H Q => ∃ (ι : List Addr) (bar : Addr → Prop) (d e r : D), (∀ a, bar a → H a ≠ none) ∧ (∀ a ∈ ι, bar a) ∧
  RelW T ι bar H d x ∧ RelW T ι bar H e y ∧ k d e = some r ∧ ∀ z H', Same H H' → RelD T ι bar H' r z → Q z H'
/-- a one-place one -/
def rUn (T : Wd) (k : D → Option D) : V → Hp → VK → Prop := fun x H Q => ∃ (ι : List Addr) (bar : Addr → Prop) (d r : D), (∀ a, bar a → H a ≠ none) ∧ (∀ a ∈ ι, bar a) ∧
  RelW T ι bar H d x ∧ k d = some r ∧ ∀ z H', Same H H' → RelD T ι bar H' r z → Q z H'
abbrev OpD (T : Wd) (X : Cx) (f : Value → Value → Sem Value) (k : D → D → Option D) : Prop := OpR X f (rOp T k)
abbrev UnD (T : Wd) (X : Cx) (f : Value → Sem Value) (k : D → Option D) : Prop := UnR X f (rUn T k)
/-- a call of a builtin with one value, two values -/
abbrev Call1 (T : Wd) (X : Cx) (f : Value) (k : D → Option D) : Prop := UnD T X (fun v => call f [v]) k
abbrev Call2 (T : Wd) (X : Cx) (f : Value) (k : D → D → Option D) : Prop := OpD T X (fun v u => call f [v, u]) k

section
variable {T : Wd} {ι : List Addr} {bar : Addr → Prop} {H : Hp} {x : V}
theorem RelW.non (h : RelW T ι bar H .non x) : x = .non := by
  rcases h with h | ⟨a, _, _, h⟩
  · simpa [RelD] using h
  · exact h.elim
theorem RelW.bl {b : Bool} (h : RelW T ι bar H (.bl b) x) : x = .bl b := by
  rcases h with h | ⟨a, _, _, h⟩
  · simpa [RelD] using h
  · exact h.elim
theorem RelW.int {b : Int} (h : RelW T ι bar H (.int b) x) : x = .int b := by
  rcases h with h | ⟨a, _, _, h⟩
  · simpa [RelD] using h
  · exact h.elim
theorem RelW.str {b : Str} (h : RelW T ι bar H (.str b) x) : x = .str b := by
  rcases h with h | ⟨a, _, _, h⟩
  · simpa [RelD] using h
  · exact h.elim
theorem RelW.tup {ds : List D} (h : RelW T ι bar H (.tup ds) x) : ∃ a vs, x = .ref a ∧ SqT T.K H a vs ∧ RelDs T ι bar H ds vs := by
  rcases h with h | ⟨a, _, _, h⟩
  · simpa only [RelD] using h
  · exact h.elim
theorem RelW.lst {ds : List D} (h : RelW T ι bar H (.lst ds) x) : ∃ a vs, x = .ref a ∧ Rd H a (.lst vs) ∧ RelDs T ι bar H ds vs := by
  rcases h with h | ⟨a, e, _, h⟩
  · simp only [RelD] at h
    obtain ⟨a, vs, e, q, _, r⟩ := h
    exact ⟨a, vs, e, q, r⟩
  · obtain ⟨vs, q, r⟩ := h
    exact ⟨a, vs, e, q, r⟩
theorem RelD.ofInt (i : Int) : RelD T ι bar H (.int i) (.int i) := by simp [RelD]
theorem RelD.ofBl (i : Bool) : RelD T ι bar H (.bl i) (.bl i) := by simp [RelD]
theorem RelD.ofStr (i : Str) : RelD T ι bar H (.str i) (.str i) := by simp [RelD]
theorem RelD.ofNon : RelD T ι bar H .non .non := by simp [RelD]
/-- a new tuple, a new list -/
theorem RelD.newTup {ds : List D} {vs : List V} {p : Addr} (hi : ∀ a ∈ ι, bar a) (hp : H p = none) (r : RelDs T ι bar H ds vs) : RelD T ι bar (upd H p (.tup vs)) (.tup ds) (.ref p) := by
  simp only [RelD]
  exact ⟨p, vs, rfl, .inl (.inl upd_same), r.keep (Stp.laid hp) hi fun a h => .inl h⟩
theorem RelD.newLst {ds : List D} {vs : List V} {p : Addr} (hb : ∀ a, bar a → H a ≠ none) (hi : ∀ a ∈ ι, bar a) (hp : H p = none) (r : RelDs T ι bar H ds vs) : RelD T ι bar (upd H p (.lst vs)) (.lst ds) (.ref p) := by
  simp only [RelD]
  exact ⟨p, vs, rfl, .inl upd_same, fun z => hb p z hp, r.keep (Stp.laid hp) hi fun a h => .inl h⟩
theorem same_upd {H : Hp} {p : Addr} {o : HO} (h : H p = none) : Same H (upd H p o) := fun b x e => by
  rw [upd_ne (ne_of_none e h)]; exact e
end
end Z

namespace Z
open PySem PySem.Spec PyProof.Rows L2
set_option autoImplicit false

/-- what a context has besides: room on the stacks, no repr under way -/
structure Rm (X : Cx) : Prop where
  hu : X.A.units + 120 < cLine
  hg : X.A.guards = some []

/-! ### the operations' answers -/
abbrev sh (d : D) : Bool := decide ((py d).depth ≤ 60)
abbrev shs (ds : List D) : Bool := decide (PyData.depthAll (pys ds) ≤ 60)
def eqO (d e : D) : Option D := if isD d && isD e && (sh d || sh e) then some (.bl (PyData.eqv (py d) (py e))) else none
def neO (d e : D) : Option D := if isD d && isD e && (sh d || sh e) then some (.bl (!PyData.eqv (py d) (py e))) else none
def isNon : D → Bool
  | .non => true
  | _ => false
def cmpOk (d e : D) : Bool := isD d && isD e && (sh d || sh e) && PySem.W.alike (py d) (py e) && !isNon d
def ltO (d e : D) : Option D := if cmpOk d e then some (.bl (PySem.W.dataLt (py d) (py e))) else none
def gtO (d e : D) : Option D := if cmpOk d e then some (.bl (PySem.W.dataLt (py e) (py d))) else none
def leO (d e : D) : Option D := if cmpOk d e then some (.bl (!PySem.W.dataLt (py e) (py d))) else none
def geO (d e : D) : Option D := if cmpOk d e then some (.bl (!PySem.W.dataLt (py d) (py e))) else none
def strIn (x y : Str) : Bool := !(Builtin.Str.occurrences y x 0 y.length 1).isEmpty
def mem (ds : List D) (d : D) : Bool := (pys ds).any fun y => PyData.eqv y (py d)
def inB (d e : D) : Option Bool := match d, e with
  | .str x, .str y => some (strIn x y)
  | d, .lst ds => if isD d && isDs ds && (sh d || shs ds) then some (mem ds d) else none
  | d, .tup ds => if isD d && isDs ds && (sh d || shs ds) then some (mem ds d) else none
  | _, _ => none
def inO (d e : D) : Option D := (inB d e).map .bl
def notInO (d e : D) : Option D := (inB d e).map fun b => .bl !b
def isO (d e : D) : Option D := match e with
  | .non => some (.bl (isNon d))
  | _ => none
def isNotO (d e : D) : Option D := match e with
  | .non => some (.bl !(isNon d))
  | _ => none
theorem depth_min {T : Wd} {X : Cx} (rm : Rm X) {d e : D} (h : (sh d || sh e) = true) (n : Nat) (hn : n ≤ 50) : X.A.units + n + min (py d).depth (py e).depth < cLine := by
  have hu := rm.hu
  have h1 := Nat.min_le_left (py d).depth (py e).depth
  have h2 := Nat.min_le_right (py d).depth (py e).depth
  rcases Bool.or_eq_true_iff.mp h with h | h
  · have := of_decide_eq_true h; omega
  · have := of_decide_eq_true h; omega
section
variable {T : Wd} {X : Cx}
theorem fin_b {pins : List (Addr × Obj)} {σ : L2.St} {H : Hp} {s : Shared} {Q : VK} {b : Bool} {ι : List Addr} {bar : Addr → Prop} (I : Inv X pins σ H s) (q : ∀ z H', Same H H' → RelD T ι bar H' (.bl b) z → Q z H') : EP X pins σ Q (.bool b) s :=
  ⟨.bl b, H, I, rfl, q _ _ (Same.refl H) (RelD.ofBl b)⟩
theorem od_eq (ok : Ok T X) (rm : Rm X) : OpD T X (compareOp .Eq) eqO := by
  intro pins s σ H x y v u Q I rx ry ⟨ι, bar, d, e, r, hb, hi, rd, re, hk, q⟩
  unfold eqO at hk
  split at hk
  · rename_i hc
    cases hk
    simp only [Bool.and_eq_true] at hc
    obtain ⟨⟨h1, h2⟩, h3⟩ := hc
    obtain ⟨as, r1⟩ := rd.reads ok I rx h1
    obtain ⟨bs, r2⟩ := re.reads ok I ry h2
    exact SeqAt.eq_plain r1 r2 (plain_of d h1) (plain_of e h2) (by have := depth_min (T := T) rm h3 0 (by decide); simpa using this) (fin_b I q)
  · cases hk
theorem od_ne (ok : Ok T X) (rm : Rm X) : OpD T X (compareOp .NotEq) neO := by
  intro pins s σ H x y v u Q I rx ry ⟨ι, bar, d, e, r, hb, hi, rd, re, hk, q⟩
  unfold neO at hk
  split at hk
  · rename_i hc
    cases hk
    simp only [Bool.and_eq_true] at hc
    obtain ⟨⟨h1, h2⟩, h3⟩ := hc
    obtain ⟨as, r1⟩ := rd.reads ok I rx h1
    obtain ⟨bs, r2⟩ := re.reads ok I ry h2
    exact SeqAt.ne_plain r1 r2 (plain_of d h1) (plain_of e h2) (by have := depth_min (T := T) rm h3 0 (by decide); simpa using this) (fin_b I q)
  · cases hk
theorem nonNone {d : D} (h : (!isNon d) = true) (g : isD d = true) : py d ≠ .none := by
  cases d <;> simp_all [isNon, py, isD]
theorem cmp_of {pins : List (Addr × Obj)} {σ : L2.St} {H : Hp} {s : Shared} {ι : List Addr} {bar : Addr → Prop} {d e : D} {x y : V} {v u : Value} (ok : Ok T X) (rm : Rm X) (I : Inv X pins σ H s) (rx : RelV x v) (ry : RelV y u)
    (rd : RelW T ι bar H d x) (re : RelW T ι bar H e y) (h : cmpOk d e = true) : ∃ as bs, Reads s.heap v (py d) as ∧ Reads s.heap u (py e) bs ∧ PySem.W.alike (py d) (py e) = true ∧ py d ≠ .none ∧ X.A.units + min (py d).depth (py e).depth < cLine := by
  unfold cmpOk at h
  simp only [Bool.and_eq_true] at h
  obtain ⟨⟨⟨⟨h1, h2⟩, h3⟩, h4⟩, h5⟩ := h
  obtain ⟨as, r1⟩ := rd.reads ok I rx h1
  obtain ⟨bs, r2⟩ := re.reads ok I ry h2
  exact ⟨as, bs, r1, r2, h4, nonNone h5 h1, by have := depth_min (T := T) rm h3 0 (by decide); simpa using this⟩
theorem od_lt (ok : Ok T X) (rm : Rm X) : OpD T X (compareOp .Lt) ltO := by
  intro pins s σ H x y v u Q I rx ry ⟨ι, bar, d, e, r, hb, hi, rd, re, hk, q⟩
  unfold ltO at hk
  split at hk
  · rename_i hc
    cases hk
    obtain ⟨as, bs, r1, r2, h4, h5, h6⟩ := cmp_of ok rm I rx ry rd re hc
    exact PySem.W.lt_data r1 r2 h4 h5 h6 (fin_b I q)
  · cases hk
theorem od_gt (ok : Ok T X) (rm : Rm X) : OpD T X (compareOp .Gt) gtO := by
  intro pins s σ H x y v u Q I rx ry ⟨ι, bar, d, e, r, hb, hi, rd, re, hk, q⟩
  unfold gtO at hk
  split at hk
  · rename_i hc
    cases hk
    obtain ⟨as, bs, r1, r2, h4, h5, h6⟩ := cmp_of ok rm I rx ry rd re hc
    exact PySem.W.gt_data r1 r2 h4 h5 h6 (fin_b I q)
  · cases hk
theorem od_le (ok : Ok T X) (rm : Rm X) : OpD T X (compareOp .LtE) leO := by
  intro pins s σ H x y v u Q I rx ry ⟨ι, bar, d, e, r, hb, hi, rd, re, hk, q⟩
  unfold leO at hk
  split at hk
  · rename_i hc
    cases hk
    obtain ⟨as, bs, r1, r2, h4, h5, h6⟩ := cmp_of ok rm I rx ry rd re hc
    exact PySem.W.le_data r1 r2 h4 h5 h6 (fin_b I q)
  · cases hk
theorem od_ge (ok : Ok T X) (rm : Rm X) : OpD T X (compareOp .GtE) geO := by
  intro pins s σ H x y v u Q I rx ry ⟨ι, bar, d, e, r, hb, hi, rd, re, hk, q⟩
  unfold geO at hk
  split at hk
  · rename_i hc
    cases hk
    obtain ⟨as, bs, r1, r2, h4, h5, h6⟩ := cmp_of ok rm I rx ry rd re hc
    exact PySem.W.ge_data r1 r2 h4 h5 h6 (fin_b I q)
  · cases hk
theorem depth_in (rm : Rm X) {d : D} {ds : List D} (h : (sh d || shs ds) = true) : X.A.units + 1 + min (PyData.depthAll (pys ds)) (py d).depth < cLine := by
  have hu := rm.hu
  have h1 := Nat.min_le_left (PyData.depthAll (pys ds)) (py d).depth
  have h2 := Nat.min_le_right (PyData.depthAll (pys ds)) (py d).depth
  rcases Bool.or_eq_true_iff.mp h with h | h
  · have := of_decide_eq_true h; omega
  · have := of_decide_eq_true h; omega
theorem in_of {neg : Bool} (ok : Ok T X) (rm : Rm X) : OpD T X (compareOp (if neg then .NotIn else .In)) (fun d e => (inB d e).map fun b => .bl (if neg then !b else b)) := by
  intro pins s σ H x y v u Q I rx ry ⟨ι, bar, d, e, r, hb, hi, rd, re, hk, q⟩
  have go : ∀ ds, (e = .lst ds ∨ e = .tup ds) → (isD d && isDs ds && (sh d || shs ds)) = true → (r = .bl (if neg then !(mem ds d) else mem ds d)) → wpAny (model X.prog X.w) X.A (compareOp (if neg then .NotIn else .In) v u) (EP X pins σ Q) X.xe s := by
    intro ds he hc hr
    subst hr
    simp only [Bool.and_eq_true] at hc
    obtain ⟨⟨h1, h2⟩, h3⟩ := hc
    obtain ⟨as, r1⟩ := rd.reads ok I rx h1
    have p1 := plain_of d h1
    have p2 := plains_of ds h2
    have hdp := depth_in rm h3
    rcases he with rfl | rfl
    · obtain ⟨bs, r2⟩ := re.reads ok I ry (by simpa [isD] using h2)
      rw [py] at r2
      cases neg with
      | false => exact SeqAt.in_list_data r2 r1 p2 p1 hdp (fin_b I q)
      | true => exact SeqAt.notIn_list_data r2 r1 p2 p1 hdp (fin_b I q)
    · obtain ⟨bs, r2⟩ := re.reads ok I ry (by simpa [isD] using h2)
      rw [py] at r2
      cases neg with
      | false => exact SeqAt.in_tuple_data r2 r1 p2 p1 hdp (fin_b I q)
      | true => exact SeqAt.notIn_tuple_data r2 r1 p2 p1 hdp (fin_b I q)
  obtain ⟨c, hc0, hr0⟩ := Option.map_eq_some_iff.mp hk
  unfold inB at hc0
  split at hc0
  · rename_i a b
    cases hc0
    subst hr0
    obtain rfl := RelW.str rd
    obtain rfl := RelW.str re
    cases neg with
    | false => exact op_in_str pins s σ H _ _ v u Q I rx ry ⟨_, _, rfl, rfl, q _ _ (Same.refl H) (RelD.ofBl _)⟩
    | true => exact op_notin_str pins s σ H _ _ v u Q I rx ry ⟨_, _, rfl, rfl, q _ _ (Same.refl H) (RelD.ofBl _)⟩
  · split at hc0
    · rename_i hc
      cases hc0
      exact go _ (.inl rfl) hc hr0.symm
    · cases hc0
  · split at hc0
    · rename_i hc
      cases hc0
      exact go _ (.inr rfl) hc hr0.symm
    · cases hc0
  · cases hc0
theorem od_in (ok : Ok T X) (rm : Rm X) : OpD T X (compareOp .In) inO := in_of (neg := false) ok rm
theorem od_notIn (ok : Ok T X) (rm : Rm X) : OpD T X (compareOp .NotIn) notInO := in_of (neg := true) ok rm
theorem non_iff {ι : List Addr} {bar : Addr → Prop} {H : Hp} {d : D} {x : V} (h : RelW T ι bar H d x) : decide (x = .non) = isNon d := by
  cases d with
  | non => rw [h.non]; rfl
  | _ =>
    refine decide_eq_false fun e => ?_
    subst e
    rcases h with h | ⟨a, e, _⟩
    · simp [RelD] at h
    · cases e
theorem od_is : OpD T X (compareOp .Is) isO := by
  intro pins s σ H x y v u Q I rx ry ⟨ι, bar, d, e, r, hb, hi, rd, re, hk, q⟩
  unfold isO at hk
  split at hk
  · cases hk
    obtain rfl := re.non
    refine op_isN pins s σ H x _ v u Q I rx ry ⟨rfl, ?_⟩
    rw [non_iff rd]
    exact q _ _ (Same.refl H) (RelD.ofBl _)
  · cases hk
theorem od_isNot : OpD T X (compareOp .IsNot) isNotO := by
  intro pins s σ H x y v u Q I rx ry ⟨ι, bar, d, e, r, hb, hi, rd, re, hk, q⟩
  unfold isNotO at hk
  split at hk
  · cases hk
    obtain rfl := re.non
    refine op_notN pins s σ H x _ v u Q I rx ry ⟨rfl, ?_⟩
    rw [non_iff rd]
    exact q _ _ (Same.refl H) (RelD.ofBl _)
  · cases hk
end

/-! ### arithmetic, + -/
def fits (n : Nat) : Bool := decide (n ≤ 16777216)
theorem fits_line {n : Nat} (h : fits n = true) : n ≤ sizeLine := Nat.le_trans (of_decide_eq_true h) (by decide)
def addO (d e : D) : Option D := match d, e with
  | .int i, .int j => some (.int (i + j))
  | .int i, .bl b => some (.int (i + b2i b))
  | .str x, .str y => if fits (x.length + y.length) then some (.str (x ++ y)) else none
  | .tup xs, .tup ys => if fits (xs.length + ys.length) then some (.tup (xs ++ ys)) else none
  | .lst xs, .lst ys => if fits (xs.length + ys.length) then some (.lst (xs ++ ys)) else none
  | _, _ => none
def subO (d e : D) : Option D := match d, e with
  | .int i, .int j => some (.int (i - j))
  | _, _ => none
def mulOk (i j : Int) : Bool := decide (i.natAbs.log2 + j.natAbs.log2 < 1000000)
def mulO (d e : D) : Option D := match d, e with
  | .int i, .int j => if mulOk i j || decide (i.natAbs < 18446744073709551616) then some (.int (i * j)) else none
  | _, _ => none
def divO (d e : D) : Option D := match d, e with
  | .int i, .int j => if decide (0 < j) && decide (j.natAbs.log2 < 9000) then some (.int (i / j)) else none
  | _, _ => none
def modO (d e : D) : Option D := match d, e with
  | .int i, .int j => if decide (0 < j) then some (.int (i % j)) else none
  | _, _ => none
def powO (d e : D) : Option D := match d, e with
  | .int i, .int j => if decide (0 ≤ j) && decide (j ≤ 1000) && decide (i.natAbs < 1000) then some (.int (i ^ j.toNat)) else none
  | _, _ => none
def negO : D → Option D
  | .int i => some (.int (-i))
  | _ => none
section
variable {T : Wd} {X : Cx}
theorem nil_of {ι : List Addr} {bar : Addr → Prop} {H : Hp} {ds : List D} {vs : List V} (h : RelDs T ι bar H ds vs) : vs = [] ↔ ds = [] := by
  have := h.length
  constructor
  · intro e; subst e
    exact List.length_eq_zero_iff.mp (by simpa using this.symm)
  · intro e; subst e
    exact List.length_eq_zero_iff.mp (by simpa using this)
theorem Rd.lstT {H : Hp} {a : Addr} {vs : List V} {K : PySem.W.Frag} (h : Rd H a (.lst vs)) : SqL K H a vs := .inl h
theorem od_add (ok : Ok T X) : OpD T X (binaryOp .Add) addO := by
  intro pins s σ H x y v u Q I rx ry ⟨ι, bar, d, e, r, hb, hi, rd, re, hk, q⟩
  unfold addO at hk
  split at hk
  · cases hk
    obtain rfl := rd.int
    obtain rfl := re.int
    exact op_add pins s σ H _ _ v u Q I rx ry ⟨_, _, rfl, rfl, q _ _ (Same.refl H) (RelD.ofInt _)⟩
  · cases hk
    obtain rfl := rd.int
    obtain rfl := re.bl
    exact op_add_ib pins s σ H _ _ v u Q I rx ry ⟨_, _, rfl, rfl, q _ _ (Same.refl H) (RelD.ofInt _)⟩
  · split at hk
    · rename_i hc
      cases hk
      obtain rfl := rd.str
      obtain rfl := re.str
      exact op_add_str pins s σ H _ _ v u Q I rx ry ⟨_, _, rfl, rfl, fits_line hc, q _ _ (Same.refl H) (RelD.ofStr _)⟩
    · cases hk
  · split at hk
    · rename_i hc
      cases hk
      obtain ⟨a, xs, rfl, h1, r1⟩ := rd.tup
      obtain ⟨b, ys, rfl, h2, r2⟩ := re.tup
      rw [← ok.K] at h1 h2
      refine op_catA pins s σ H _ _ v u Q I rx ry ⟨a, b, xs, ys, rfl, rfl, h1, h2, by rw [r1.length, r2.length]; exact fits_line hc, fun e => ?_, fun _ e => ?_, fun _ _ p hp => ?_⟩
      · have e2 := (nil_of r1).mp e
        subst e2
        refine q _ _ (Same.refl H) ?_
        simp only [RelD]
        rw [ok.K] at h2
        exact ⟨b, ys, rfl, h2, r2⟩
      · have e2 := (nil_of r2).mp e
        subst e2
        refine q _ _ (Same.refl H) ?_
        simp only [RelD, List.append_nil]
        rw [ok.K] at h1
        exact ⟨a, xs, rfl, h1, r1⟩
      · exact q _ _ (same_upd hp) (RelD.newTup hi hp (r1.append r2))
    · cases hk
  · split at hk
    · rename_i hc
      cases hk
      obtain ⟨a, xs, rfl, h1, r1⟩ := rd.lst
      obtain ⟨b, ys, rfl, h2, r2⟩ := re.lst
      cases rx
      cases ry
      obtain ⟨z, its, n, r, e⟩ := h1.ok I.hok
      obtain ⟨z2, its2, n2, r', e2⟩ := h2.ok I.hok
      have hz := fits_line hc
      rw [← r1.length, ← r2.length] at hz
      refine PySem.P.add_list e e2 ?_ (by rw [List.size_toArray, List.size_toArray, ← r.length, ← r'.length]; exact hz)
      have ea : its.toArray ++ its2.toArray = (its ++ its2).toArray := by simp
      rw [ea]
      exact ⟨.ref _, _, I.lnew (t' := s.toks) (r.append r') (by rw [List.length_append]; exact hz), rfl, q _ _ (same_upd I.fresh) (RelD.newLst hb hi I.fresh (r1.append r2))⟩
    · cases hk
  · cases hk
theorem od_sub : OpD T X (binaryOp .Sub) subO := by
  intro pins s σ H x y v u Q I rx ry ⟨ι, bar, d, e, r, hb, hi, rd, re, hk, q⟩
  unfold subO at hk
  split at hk
  · cases hk
    obtain rfl := rd.int
    obtain rfl := re.int
    exact op_sub pins s σ H _ _ v u Q I rx ry ⟨_, _, rfl, rfl, q _ _ (Same.refl H) (RelD.ofInt _)⟩
  · cases hk
theorem od_mul : OpD T X (binaryOp .Mult) mulO := by
  intro pins s σ H x y v u Q I rx ry ⟨ι, bar, d, e, r, hb, hi, rd, re, hk, q⟩
  unfold mulO at hk
  split at hk
  · split at hk
    · rename_i hc
      cases hk
      obtain rfl := rd.int
      obtain rfl := re.int
      rcases Bool.or_eq_true _ _ ▸ hc with hc | hc
      · exact op_mulW pins s σ H _ _ v u Q I rx ry ⟨_, _, rfl, rfl, of_decide_eq_true (p := _ < _) hc, q _ _ (Same.refl H) (RelD.ofInt _)⟩
      · have hc := of_decide_eq_true hc
        exact op_mul pins s σ H _ _ v u Q I rx ry ⟨_, _, rfl, rfl, .inl ⟨by omega, by omega⟩, q _ _ (Same.refl H) (RelD.ofInt _)⟩
    · cases hk
  · cases hk
theorem od_div : OpD T X (binaryOp .FloorDiv) divO := by
  intro pins s σ H x y v u Q I rx ry ⟨ι, bar, d, e, r, hb, hi, rd, re, hk, q⟩
  unfold divO at hk
  split at hk
  · split at hk
    · rename_i hc
      cases hk
      obtain rfl := rd.int
      obtain rfl := re.int
      rw [Bool.and_eq_true] at hc
      exact op_fdivW pins s σ H _ _ v u Q I rx ry ⟨_, _, rfl, rfl, ⟨of_decide_eq_true hc.1, of_decide_eq_true hc.2⟩, q _ _ (Same.refl H) (RelD.ofInt _)⟩
    · cases hk
  · cases hk
theorem od_mod : OpD T X (binaryOp .Mod) modO := by
  intro pins s σ H x y v u Q I rx ry ⟨ι, bar, d, e, r, hb, hi, rd, re, hk, q⟩
  unfold modO at hk
  split at hk
  · split at hk
    · rename_i hc
      cases hk
      obtain rfl := rd.int
      obtain rfl := re.int
      exact op_mod pins s σ H _ _ v u Q I rx ry ⟨_, _, rfl, rfl, of_decide_eq_true hc, q _ _ (Same.refl H) (RelD.ofInt _)⟩
    · cases hk
  · cases hk
theorem od_pow : OpD T X (binaryOp .Pow) powO := by
  intro pins s σ H x y v u Q I rx ry ⟨ι, bar, d, e, r, hb, hi, rd, re, hk, q⟩
  unfold powO at hk
  split at hk
  · split at hk
    · rename_i hc
      cases hk
      obtain rfl := rd.int
      obtain rfl := re.int
      simp only [Bool.and_eq_true, decide_eq_true_eq] at hc
      exact op_pow pins s σ H _ _ v u Q I rx ry ⟨_, _, rfl, rfl, ⟨hc.1.1, by omega, by omega⟩, q _ _ (Same.refl H) (RelD.ofInt _)⟩
    · cases hk
  · cases hk
theorem ud_neg : UnD T X (unaryOp .USub) negO := by
  intro pins s σ H x v Q I rx ⟨ι, bar, d, r, hb, hi, rd, hk, q⟩
  unfold negO at hk
  split at hk
  · cases hk
    obtain rfl := rd.int
    exact un_neg pins s σ H _ v Q I rx ⟨_, rfl, q _ _ (Same.refl H) (RelD.ofInt _)⟩
  · cases hk

/-! ### subscripts, slices -/
def idxO (d e : D) : Option D := match d, e with
  | .lst ds, .int i => atI ds i
  | .tup ds, .int i => atI ds i
  | .str x, .int i => if fits x.length then (atI x.cps.toList i).map fun c => .str ⟨#[c]⟩ else none
  | _, _ => none
theorem atI_rel {ι : List Addr} {bar : Addr → Prop} {H : Hp} {ds : List D} {vs : List V} {i : Int} {d : D} (r : RelDs T ι bar H ds vs) (h : atI ds i = some d) : ∃ v, atI vs i = some v ∧ RelD T ι bar H d v := by
  unfold atI at h ⊢
  rw [r.length]
  cases q : ixN ds.length i with
  | none => rw [q] at h; cases h
  | some j =>
    rw [q] at h
    exact r.get h
theorem ix_data (ok : Ok T X) : IxR X (rOp T idxO) := by
  intro value slice pins s σ H x y v u Q I rx ry ⟨ι, bar, d, e, r, hb, hi, rd, re, hk, q⟩ hs
  unfold idxO at hk
  split at hk
  · obtain rfl := re.int
    obtain ⟨a, xs, rfl, h1, r1⟩ := rd.lst
    obtain ⟨z, e1, r2⟩ := atI_rel r1 hk
    exact ix_list value slice pins s σ H _ _ v u Q I rx ry ⟨a, xs, _, z, rfl, rfl, .inl h1, e1, q _ _ (Same.refl H) r2⟩ hs
  · obtain rfl := re.int
    obtain ⟨a, xs, rfl, h1, r1⟩ := rd.tup
    obtain ⟨z, e1, r2⟩ := atI_rel r1 hk
    rw [← ok.K] at h1
    exact ix_tup value slice pins s σ H _ _ v u Q I rx ry ⟨a, xs, _, z, rfl, rfl, h1, e1, q _ _ (Same.refl H) r2⟩ hs
  · split at hk
    · rename_i hc
      obtain rfl := re.int
      obtain rfl := rd.str
      rw [Option.map_eq_some_iff] at hk
      obtain ⟨c, e1, rfl⟩ := hk
      exact ix_str value slice pins s σ H _ _ v u Q I rx ry ⟨_, _, c, rfl, rfl, fits_line hc, e1, q _ _ (Same.refl H) (RelD.ofStr _)⟩ hs
    · cases hk
  · cases hk
/-- xs[lo:hi] -/
def cutD (ds : List D) (lo hi : Option Int) : List D := (ds.drop (HT.sIx ds.length 0 lo)).take (HT.sIx ds.length ds.length hi - HT.sIx ds.length 0 lo)
def slO (d : D) (lo hi : Option Int) : Option D := match d with
  | .lst ds => some (.lst (cutD ds lo hi))
  | .scr ns => some (.lst (cutD (ns.map D.int) lo hi))
  | .tup ds => some (.tup (cutD ds lo hi))
  | .str x => if fits x.length then some (.str (L2.cutS x lo hi)) else none
  | _ => none
theorem cut_rel {ι : List Addr} {bar : Addr → Prop} {H : Hp} {ds : List D} {vs : List V} (lo hi : Option Int) (r : RelDs T ι bar H ds vs) : RelDs T ι bar H (cutD ds lo hi) (cutV vs lo hi) := by
  unfold cutD cutV
  rw [r.length]
  exact (r.drop _).take _
theorem cut_whole {ds : List D} {lo hi : Option Int} (h : HT.sIx ds.length 0 lo = 0 ∧ HT.sIx ds.length ds.length hi = ds.length) : cutD ds lo hi = ds := by
  unfold cutD
  rw [h.1, h.2, List.drop_zero, Nat.sub_zero, List.take_length]
def rSlD (T : Wd) : V → Option Int → Option Int → Hp → VK → Prop := fun x lo hi H Q => ∃ (ι : List Addr) (bar : Addr → Prop) (d r : D), (∀ a, bar a → H a ≠ none) ∧ (∀ a ∈ ι, bar a) ∧
  RelW T ι bar H d x ∧ slO d lo hi = some r ∧ ∀ z H', Same H H' → RelD T ι bar H' r z → Q z H'
theorem sl_data (ok : Ok T X) : SlR X (rSlD T) := by
  intro pins s σ H x v vl vu lo hi' sl Q I rx hs pl pu ⟨ι, bar, d, r, hb, hi, rd, hk, q⟩
  unfold slO at hk
  split at hk
  · cases hk
    obtain ⟨a, xs, rfl, h1, r1⟩ := rd.lst
    exact sl_list pins s σ H _ v vl vu lo hi' sl Q I rx hs pl pu ⟨a, xs, rfl, .inl h1, fun p hp => q _ _ (same_upd hp) (RelD.newLst hb hi hp (cut_rel lo hi' r1))⟩
  · cases hk
    rename_i ns
    rcases rd with rd | ⟨_, _, _, rd⟩
    · simp only [RelD] at rd
      obtain ⟨a, rfl, q1⟩ := rd
      have r1 : RelDs T ι bar H (ns.map D.int) (ns.map V.int) := by
        clear hs q1 rx q
        induction ns with
        | nil => exact .nil
        | cons n ns ih => exact .cons (RelD.ofInt n) ih
      exact sl_list pins s σ H _ v vl vu lo hi' sl Q I rx hs pl pu ⟨a, _, rfl, by rw [ok.K]; exact q1.sq, fun p hp => q _ _ (same_upd hp) (RelD.newLst hb hi hp (cut_rel lo hi' r1))⟩
    · exact rd.elim
  · cases hk
    obtain ⟨a, xs, rfl, h1, r1⟩ := rd.tup
    have h1' := h1
    rw [← ok.K] at h1
    refine sl_tupA pins s σ H _ v vl vu lo hi' sl Q I rx hs pl pu ⟨a, xs, rfl, h1, fun e => ?_, fun _ p hp => q _ _ (same_upd hp) (RelD.newTup hi hp (cut_rel lo hi' r1))⟩
    rw [r1.length] at e
    refine q _ _ (Same.refl H) ?_
    rw [cut_whole e]
    simp only [RelD]
    exact ⟨a, xs, rfl, h1', r1⟩
  · split at hk
    · rename_i hc
      cases hk
      obtain rfl := rd.str
      exact sl_str pins s σ H _ v vl vu lo hi' sl Q I rx hs pl pu ⟨_, rfl, fits_line hc, q _ _ (Same.refl H) (RelD.ofStr _)⟩
    · cases hk
  · cases hk
end
end Z

namespace Z
open PySem PySem.Spec PyProof.Rows L2
set_option autoImplicit false

/-! ### what expressions say -/
def mC (d : D) : Ev := fun _ g => .ok d g
/-- a name, looked at -/
def mV (i : Nat) : Ev := fun ρ g => match ρ[i]? with
  | some (.val d) => .ok d g
  | some (.own d) => .ok d g
  | _ => .bad
/-- a name, its value kept -/
def mVs (i : Nat) : Ev := fun ρ g => match ρ[i]? with
  | some (.val d) => .ok d g
  | _ => .bad
def ret {α : Type} (o : Option α) (g : G) : Res α := match o with
  | some a => .ok a g
  | none => .bad
def mOp (k : D → D → Option D) (a b : Ev) : Ev := fun ρ g => (a ρ g).bind fun d g1 => (b ρ g1).bind fun e g2 => ret (k d e) g2
def mUn (k : D → Option D) (a : Ev) : Ev := fun ρ g => (a ρ g).bind fun d g1 => ret (k d) g1
def mNil : EvL := fun _ g => .ok [] g
def mCons (a : Ev) (b : EvL) : EvL := fun ρ g => (a ρ g).bind fun d g1 => (b ρ g1).bind fun ds g2 => .ok (d :: ds) g2
def mTup (a : EvL) : Ev := fun ρ g => (a ρ g).bind fun ds g1 => if fits ds.length then .ok (.tup ds) g1 else .bad
def mLst (a : EvL) : Ev := fun ρ g => (a ρ g).bind fun ds g1 => if fits ds.length then .ok (.lst ds) g1 else .bad
/-- truth -/
def tr : D → Option Bool
  | .non => some false
  | .bl b => some b
  | .int i => some (i != 0)
  | .str y => if fits y.length then some ((y.length : Int) != 0) else none
  | .tup ds => some !ds.isEmpty
  | .lst ds => some !ds.isEmpty
  | _ => none
def mTr (a : Ev) : EvB := fun ρ g => (a ρ g).bind fun d g1 => ret (tr d) g1
/-- a comparison's answer -/
def isB : D → Option Bool
  | .bl b => some b
  | _ => none
def mB (a : Ev) : EvB := fun ρ g => (a ρ g).bind fun d g1 => ret (isB d) g1
def mAnd (a b : EvB) : EvB := fun ρ g => (a ρ g).bind fun c g1 => if c = true then b ρ g1 else .ok false g1
def mOr (a b : EvB) : EvB := fun ρ g => (a ρ g).bind fun c g1 => if c = true then .ok true g1 else b ρ g1
def mNot (a : EvB) : EvB := fun ρ g => (a ρ g).bind fun c g1 => .ok (!c) g1
def mAndV (a b : Ev) : Ev := fun ρ g => (a ρ g).bind fun d g1 => (ret (tr d) g1).bind fun c g1 => if c = true then b ρ g1 else .ok d g1
def mOrV (a b : Ev) : Ev := fun ρ g => (a ρ g).bind fun d g1 => (ret (tr d) g1).bind fun c g1 => if c = true then .ok d g1 else b ρ g1
def mNotV (a : Ev) : Ev := fun ρ g => (a ρ g).bind fun d g1 => (ret (tr d) g1).bind fun c g1 => .ok (.bl !c) g1
def mIf (c : EvB) (a b : Ev) : Ev := fun ρ g => (c ρ g).bind fun k g1 => if k = true then a ρ g1 else b ρ g1
/-- a op1 b op2 c -/
def mCh (k k' : D → D → Option D) (a b c : Ev) : Ev := fun ρ g => (a ρ g).bind fun d g1 => (b ρ g1).bind fun e g2 => (ret (k d e) g2).bind fun r g2 => (ret (isB r) g2).bind fun q g2 =>
  if q = true then (c ρ g2).bind fun f g3 => ret (k' e f) g3 else .ok (.bl false) g2

theorem tX.imp {α β : Type} {T : Wd} {W : WX} {R R' : Rel α β} {m : Env → G → Res α} {σ : L2.St} {H : Hp} {Q : β → Hp → Prop} (i : ∀ ι bar H d v, R' ι bar H d v → R ι bar H d v) (h : tX T W R m σ H Q) : tX T W R' m σ H Q := by
  obtain ⟨γ, ρ, g, S, p⟩ := h
  exact ⟨γ, ρ, g, S, p.rel i⟩
section
variable {T : Wd} {W : WX} {X : Cx} {pos : Pos}
theorem Post.ret0 {α β : Type} {γ : Gho} {H : Hp} {σ : L2.St} {R : Rel α β} {Q : β → Hp → Prop} {d : α} {g : G} {v : β} {ρ : Env} {g0 : G} (S : StR T γ H ρ σ g) (h : Post T γ H σ W R Q (.ok d g)) (r : R γ.ι γ.bar H d v) : Q v H :=
  h v γ.ι H Stp.refl S.cells r
/-- .. with new objects laid -/
theorem Post.ret1 {α β : Type} {γ : Gho} {H H' : Hp} {σ : L2.St} {R : Rel α β} {Q : β → Hp → Prop} {d : α} {g : G} {v : β} {ρ : Env} (S : StR T γ H ρ σ g) (s : Same H H') (h : Post T γ H σ W R Q (.ok d g)) (r : R γ.ι γ.bar H' d v) : Q v H' :=
  h v γ.ι H' (.same s) (S.same s).cells r
theorem ee_int {i j} : EE T W X (.Constant (.int i) j pos) (mC (.int i)) := PE.imp pe_int fun σ H Q ⟨γ, ρ, g, S, p⟩ => p.ret0 (g0 := g) S (RelD.ofInt i)
theorem ee_bl {i j} : EE T W X (.Constant (.bool i) j pos) (mC (.bl i)) := PE.imp pe_bl fun σ H Q ⟨γ, ρ, g, S, p⟩ => p.ret0 (g0 := g) S (RelD.ofBl i)
theorem ee_str {i j} : EE T W X (.Constant (.str i) j pos) (mC (.str i)) := PE.imp pe_str fun σ H Q ⟨γ, ρ, g, S, p⟩ => p.ret0 (g0 := g) S (RelD.ofStr i)
theorem ee_non {j} : EE T W X (.Constant .none j pos) (mC .non) := PE.imp pe_non fun σ H Q ⟨γ, ρ, g, S, p⟩ => p.ret0 (g0 := g) S RelD.ofNon
theorem ew_v (i : Nat) {x : Str} (hN : X.N[i]? = some x := by rfl) (hv : Vis X.env.scope x := by first | exact Or.inl rfl | exact Or.inr (Or.inl rfl) | exact Or.inr (Or.inr rfl)) (hd : (x == ("__debug__" : Str)) = false := by decide)
    (hcd : (x == ("__classdict__" : Str)) = false := by decide) : EW T W X (.Name x pos) (mV i) := PE.imp (pe_var hN hv hd hcd) fun σ H Q ⟨γ, ρ, g, S, p⟩ => by
  unfold mV at p
  split at p
  · rename_i d e
    obtain ⟨v, e1, r⟩ := S.vals i d e
    exact ⟨v, e1, p.ret0 (g0 := g) S r.weak⟩
  · rename_i d e
    obtain ⟨a, e1, e2, r, _⟩ := S.owns i d e
    exact ⟨.ref a, e2, p.ret0 (g0 := g) S (.inr ⟨a, rfl, (S.oi i a e1).1, r⟩)⟩
  · exact p.elim
theorem ee_v (i : Nat) {x : Str} (hN : X.N[i]? = some x := by rfl) (hv : Vis X.env.scope x := by first | exact Or.inl rfl | exact Or.inr (Or.inl rfl) | exact Or.inr (Or.inr rfl)) (hd : (x == ("__debug__" : Str)) = false := by decide)
    (hcd : (x == ("__classdict__" : Str)) = false := by decide) : EE T W X (.Name x pos) (mVs i) := PE.imp (pe_var hN hv hd hcd) fun σ H Q ⟨γ, ρ, g, S, p⟩ => by
  unfold mVs at p
  split at p
  · rename_i d e
    obtain ⟨v, e1, r⟩ := S.vals i d e
    exact ⟨v, e1, p.ret0 (g0 := g) S r⟩
  · exact p.elim
/-- a two-place operation -/
theorem op_imp {k : D → D → Option D} {ma mb : Ev} {σ : L2.St} {H : Hp} {Q : VK} (h : tX T W (rD T) (mOp k ma mb) σ H Q) : tOp (rOp T k) (tX T W (rW T) ma) (tX T W (rW T) mb) σ H Q := by
  obtain ⟨γ, ρ, g, S, p⟩ := h
  refine ⟨γ, ρ, g, S, p.bind fun d g1 _ v ι1 H1 s1 G1 r1 p1 => ?_⟩
  have S1 := S.step s1 G1
  refine ⟨γ.to ι1, ρ, g1, S1, p1.bind fun e g2 _ u ι2 H2 s2 G2 r2 p2 => ?_⟩
  have S2 := S1.step s2 G2
  cases hk : k d e with
  | none => rw [hk] at p2; exact p2.elim
  | some r =>
    rw [hk] at p2
    exact ⟨ι2, ((γ.to ι1).to ι2).bar, d, e, r, S2.bart, fun a h => .inl h, r1.keep s2 (γ.to ι1).bi (Gho.grows s2), r2, hk, fun z H' s r => p2.ret1 S2 s r⟩
theorem un_imp {k : D → Option D} {ma : Ev} {σ : L2.St} {H : Hp} {Q : VK} (h : tX T W (rD T) (mUn k ma) σ H Q) : tX T W (rW T) ma σ H fun x H1 => rUn T k x H1 Q := by
  obtain ⟨γ, ρ, g, S, p⟩ := h
  refine ⟨γ, ρ, g, S, p.bind fun d g1 _ v ι1 H1 s1 G1 r1 p1 => ?_⟩
  have S1 := S.step s1 G1
  cases hk : k d with
  | none => rw [hk] at p1; exact p1.elim
  | some r =>
    rw [hk] at p1
    exact ⟨ι1, (γ.to ι1).bar, d, r, S1.bart, fun a h => .inl h, r1, hk, fun z H' s r => p1.ret1 S1 s r⟩
variable {a b c : Expr} {ma mb mc : Ev}
theorem ee_bin {op : Operator} {k : D → D → Option D} (ho : OpD T X (binaryOp op) k) (ha : EW T W X a ma) (hb : EW T W X b mb) : EE T W X (.BinOp a op b pos) (mOp k ma mb) := PE.imp (pe_op ho ha hb) fun _ _ _ h => op_imp h
theorem ee_un {op : UnaryOp} {k : D → Option D} (ho : UnD T X (unaryOp op) k) (ha : EW T W X a ma) : EE T W X (.UnaryOp op a pos) (mUn k ma) := PE.imp (pe_un ho ha) fun _ _ _ h => un_imp h
theorem ee_cmp {op : CmpOp} {k : D → D → Option D} (ho : OpD T X (compareOp op) k) (ha : EW T W X a ma) (hb : EW T W X b mb) (hm : behindInMarks op b = false := by rfl) : EE T W X (.Compare a [op] [b] pos) (mOp k ma mb) := PE.imp (pe_cmpR ho ha hb hm) fun _ _ _ h => op_imp h
theorem ee_ix (ok : Ok T X) (ha : EW T W X a ma) (hb : EW T W X b mb) (hs : PlainIx b := by exact fun _ _ => rfl) : EE T W X (.Subscript a b pos) (mOp idxO ma mb) := PE.imp (pe_ix (ix_data ok) ha hb hs) fun _ _ _ h => op_imp h
/-- tests -/
theorem mb_imp {m : Ev} {σ : L2.St} {H : Hp} {Q : Bool → Hp → Prop} (h : tX T W rB (mB m) σ H Q) : tX T W (rD T) m σ H fun x H1 => ∃ k, x = .bl k ∧ Q k H1 := by
  obtain ⟨γ, ρ, g, S, p⟩ := h
  refine ⟨γ, ρ, g, S, p.bind fun d g1 _ v ι1 H1 s1 G1 r1 p1 => ?_⟩
  have S1 := S.step s1 G1
  cases d with
  | bl k =>
    have e : v = .bl k := by simpa [RelD] using r1
    exact ⟨k, e, p1.ret0 (g0 := g) S1 rfl⟩
  | _ => exact p1.elim
theorem eb_cmp {op : CmpOp} {k : D → D → Option D} (ho : OpD T X (compareOp op) k) (ha : EW T W X a ma) (hb : EW T W X b mb) (hm : behindInMarks op b = false := by rfl) : EB T W X (.Compare a [op] [b] pos) (mB (mOp k ma mb)) :=
  PT.imp (pt_cmpR ho ha hb hm) fun _ _ _ h => op_imp (mb_imp h)
theorem chain_imp {k k' : D → D → Option D} {σ : L2.St} {H : Hp} {Q : VK} (h : tX T W (rD T) (mCh k k' ma mb mc) σ H Q) : tChain (rOp T k) (rOp T k') (tX T W (rW T) ma) (tX T W (rW T) mb) (tX T W (rW T) mc) σ H Q := by
  obtain ⟨γ, ρ, g, S, p⟩ := h
  refine ⟨γ, ρ, g, S, p.bind fun d g1 _ v ι1 H1 s1 G1 r1 p1 => ?_⟩
  have S1 := S.step s1 G1
  refine ⟨γ.to ι1, ρ, g1, S1, p1.bind fun e g2 _ u ι2 H2 s2 G2 r2 p2 => ?_⟩
  have S2 := S1.step s2 G2
  cases hk : k d e with
  | none => rw [hk] at p2; exact p2.elim
  | some r =>
    rw [hk] at p2
    have p2 : Post T _ H2 σ W (rD T) Q ((ret (isB r) g2).bind fun q g2 => if q = true then (mc ρ g2).bind fun f g3 => ret (k' e f) g3 else .ok (.bl false) g2) := p2
    refine ⟨ι2, ((γ.to ι1).to ι2).bar, d, e, r, S2.bart, fun a h => .inl h, r1.keep s2 (γ.to ι1).bi (Gho.grows s2), r2, hk, fun z H' s rz => ?_⟩
    have S3 := S2.same s
    cases hr : isB r with
    | none => rw [hr] at p2; exact p2.elim
    | some q =>
      rw [hr] at p2
      have hq : r = .bl q := by cases r <;> simp [isB] at hr; rw [hr]
      subst hq
      refine ⟨q, by simpa [RelD] using rz, ?_⟩
      have p2 : Post T _ H2 σ W (rD T) Q (if q = true then (mc ρ g2).bind fun f g3 => ret (k' e f) g3 else .ok (.bl false) g2) := p2
      cases q with
      | false => exact p2.ret1 S2 s (RelD.ofBl false)
      | true =>
        rw [if_pos rfl] at p2 ⊢
        have p3 := Post.after (.same s) p2
        refine ⟨_, ρ, g2, S3, p3.bind fun f g3 _ w' ι3 H3 s3 G3 r3 p4 => ?_⟩
        have S4 := S3.step s3 G3
        cases hk' : k' e f with
        | none => rw [hk'] at p4; exact p4.elim
        | some r' =>
          rw [hk'] at p4
          exact ⟨ι3, _, e, f, r', S4.bart, fun a h => .inl h, (r2.keep (.same s) (Gho.bi _) (Gho.grows (γ := (γ.to ι1).to ι2) (.same s))).keep s3 (Gho.bi _) (Gho.grows (γ := (γ.to ι1).to ι2) s3), r3, hk', fun z H' s r => p4.ret1 S4 s r⟩
theorem ee_chain {op op' : CmpOp} {k k' : D → D → Option D} (ho : OpD T X (compareOp op) k) (ho' : OpD T X (compareOp op') k') (ha : EW T W X a ma) (hb : EW T W X b mb) (hc : EW T W X c mc) (hm : lastMarks [op, op'] [b, c] = false := by rfl) :
    EE T W X (.Compare a [op, op'] [b, c] pos) (mCh k k' ma mb mc) := PE.imp (pe_chain ho ho' ha hb hc hm) fun _ _ _ h => chain_imp h
theorem eb_chain {op op' : CmpOp} {k k' : D → D → Option D} (ho : OpD T X (compareOp op) k) (ho' : OpD T X (compareOp op') k') (ha : EW T W X a ma) (hb : EW T W X b mb) (hc : EW T W X c mc) (hm : lastMarks [op, op'] [b, c] = false := by rfl) :
    EB T W X (.Compare a [op, op'] [b, c] pos) (mB (mCh k k' ma mb mc)) := PT.imp (pt_chain ho ho' ha hb hc hm) fun _ _ _ h => chain_imp (mb_imp h)
/-- a value's truth -/
theorem tr_rel (ok : Ok T X) {ι : List Addr} {bar : Addr → Prop} {H : Hp} {d : D} {x : V} {k : Bool} (r : RelW T ι bar H d x) (h : tr d = some k) : TruV X.K x H k := by
  cases d with
  | non => rw [r.non]; cases h; rfl
  | bl b => rw [r.bl]; cases h; rfl
  | int i => rw [r.int]; cases h; rfl
  | str y =>
    rw [r.str]
    simp only [tr] at h
    split at h
    · rename_i hc; cases h; exact ⟨fits_line hc, rfl⟩
    · cases h
  | tup ds =>
    obtain ⟨a, vs, rfl, q, rs⟩ := r.tup
    cases h
    rw [← ok.K] at q
    refine .inr (.inl ⟨vs, q, ?_⟩)
    have := rs.length
    cases vs <;> cases ds <;> simp_all
  | lst ds =>
    obtain ⟨a, vs, rfl, q, rs⟩ := r.lst
    cases h
    refine .inl ⟨vs, .inl q, ?_⟩
    have := rs.length
    cases vs <;> cases ds <;> simp_all
  | _ => cases h
theorem tr_imp (ok : Ok T X) {m : Ev} {σ : L2.St} {H : Hp} {Q : Bool → Hp → Prop} (h : tX T W rB (mTr m) σ H Q) : tX T W (rW T) m σ H fun x H1 => ∃ k, TruV X.K x H1 k ∧ Q k H1 := by
  obtain ⟨γ, ρ, g, S, p⟩ := h
  refine ⟨γ, ρ, g, S, p.bind fun d g1 _ v ι1 H1 s1 G1 r1 p1 => ?_⟩
  have S1 := S.step s1 G1
  cases hk : tr d with
  | none => rw [hk] at p1; exact p1.elim
  | some k =>
    rw [hk] at p1
    exact ⟨k, tr_rel ok r1 hk, p1.ret0 (g0 := g) S1 rfl⟩
theorem eb_tr (ok : Ok T X) (ha : EW T W X a ma) (he : ∀ whole, isTrue a X.env whole = (do let v ← whole; standAt a.pos; holding [v] (truthy v)) := by intro _; rfl) : EB T W X a (mTr ma) :=
  PT.imp (pt_truth ha he) fun _ _ _ h => tr_imp ok h
abbrev EPw (T : Wd) (W : WX) (X : Cx) (e : Expr) (m : EvB) : Prop := PW X e (tX T W rB m)
theorem PW.imp {X : Cx} {e : Expr} {t t' : TT} (h : PW X e t) (i : ∀ σ H Q, t' σ H Q → t σ H Q) : PW X e t' := ⟨fun wh pins s σ H Q I q => h.run wh pins s σ H Q I (i σ H Q q)⟩
variable {pa pb : EvB} {rest : List Expr}
theorem ep_and1 (ha : EB T W X a pa) : EPw T W X (.BoolOp .And [a] pos) pa := pw_and1 ha
theorem ep_or1 (ha : EB T W X a pa) : EPw T W X (.BoolOp .Or [a] pos) pa := pw_or1 ha
theorem ep_and (ha : EB T W X a pa) (hb : EPw T W X (.BoolOp .And (b :: rest) pos) pb) : EPw T W X (.BoolOp .And (a :: b :: rest) pos) (mAnd pa pb) := PW.imp (pw_and ha hb) fun σ H Q ⟨γ, ρ, g, S, p⟩ => by
  refine ⟨γ, ρ, g, S, p.bind fun d g1 _ v ι1 H1 s1 G1 r1 p1 => ?_⟩
  have S1 := S.step s1 G1
  subst r1
  cases v with
  | true => exact ⟨_, ρ, g1, S1, p1⟩
  | false => exact p1.ret0 (g0 := g) S1 rfl
theorem ep_or (ha : EB T W X a pa) (hb : EPw T W X (.BoolOp .Or (b :: rest) pos) pb) : EPw T W X (.BoolOp .Or (a :: b :: rest) pos) (mOr pa pb) := PW.imp (pw_or ha hb) fun σ H Q ⟨γ, ρ, g, S, p⟩ => by
  refine ⟨γ, ρ, g, S, p.bind fun d g1 _ v ι1 H1 s1 G1 r1 p1 => ?_⟩
  have S1 := S.step s1 G1
  subst r1
  cases v with
  | false => exact ⟨_, ρ, g1, S1, p1⟩
  | true => exact p1.ret0 (g0 := g) S1 rfl
theorem eb_p (h : EPw T W X a pa) : EB T W X a pa := PW.pt h
theorem eb_not (ha : EB T W X a pa) : EB T W X (.UnaryOp .Not a pos) (mNot pa) := PT.imp (pt_not ha) fun σ H Q ⟨γ, ρ, g, S, p⟩ => by
  refine ⟨γ, ρ, g, S, p.bind fun d g1 _ v ι1 H1 s1 G1 r1 p1 => ?_⟩
  have S1 := S.step s1 G1
  subst r1
  exact p1.ret0 (g0 := g) S1 rfl
/-- and, or, not as values -/
theorem ee_one {op} (ha : EE T W X a ma) : EE T W X (.BoolOp op [a] pos) ma := pe_one ha
theorem ee_and (ok : Ok T X) (ha : EE T W X a ma) (hb : EE T W X (.BoolOp .And (b :: rest) pos) mb) : EE T W X (.BoolOp .And (a :: b :: rest) pos) (mAndV ma mb) := PE.imp (pe_andT ha hb) fun σ H Q ⟨γ, ρ, g, S, p⟩ => by
  refine ⟨γ, ρ, g, S, p.bind fun d g1 _ v ι1 H1 s1 G1 r1 p1 => ?_⟩
  have S1 := S.step s1 G1
  cases hk : tr d with
  | none => rw [hk] at p1; exact p1.elim
  | some k =>
    rw [hk] at p1
    have p1 : Post T _ H1 σ W (rD T) Q (if k = true then mb ρ g1 else .ok d g1) := p1
    refine ⟨k, tr_rel ok r1.weak hk, ?_⟩
    cases k with
    | true => exact ⟨_, ρ, g1, S1, p1⟩
    | false => exact p1.ret0 (g0 := g) S1 r1
theorem ee_or (ok : Ok T X) (ha : EE T W X a ma) (hb : EE T W X (.BoolOp .Or (b :: rest) pos) mb) : EE T W X (.BoolOp .Or (a :: b :: rest) pos) (mOrV ma mb) := PE.imp (pe_orT ha hb) fun σ H Q ⟨γ, ρ, g, S, p⟩ => by
  refine ⟨γ, ρ, g, S, p.bind fun d g1 _ v ι1 H1 s1 G1 r1 p1 => ?_⟩
  have S1 := S.step s1 G1
  cases hk : tr d with
  | none => rw [hk] at p1; exact p1.elim
  | some k =>
    rw [hk] at p1
    have p1 : Post T _ H1 σ W (rD T) Q (if k = true then .ok d g1 else mb ρ g1) := p1
    refine ⟨k, tr_rel ok r1.weak hk, ?_⟩
    cases k with
    | false => exact ⟨_, ρ, g1, S1, p1⟩
    | true => exact p1.ret0 (g0 := g) S1 r1
theorem ee_not (ok : Ok T X) (ha : EW T W X a ma) : EE T W X (.UnaryOp .Not a pos) (mNotV ma) := PE.imp (pe_notT ha) fun σ H Q ⟨γ, ρ, g, S, p⟩ => by
  refine ⟨γ, ρ, g, S, p.bind fun d g1 _ v ι1 H1 s1 G1 r1 p1 => ?_⟩
  have S1 := S.step s1 G1
  cases hk : tr d with
  | none => rw [hk] at p1; exact p1.elim
  | some k =>
    rw [hk] at p1
    exact ⟨k, tr_rel ok r1 hk, p1.ret0 (g0 := g) S1 (RelD.ofBl _)⟩
theorem ee_if {t : Expr} (ht : EB T W X t pa) (ha : EE T W X a ma) (hb : EE T W X b mb) : EE T W X (.IfExp t a b pos) (mIf pa ma mb) := PE.imp (pe_ifExp ht ha hb) fun σ H Q ⟨γ, ρ, g, S, p⟩ => by
  refine ⟨γ, ρ, g, S, p.bind fun d g1 _ v ι1 H1 s1 G1 r1 p1 => ?_⟩
  have S1 := S.step s1 G1
  subst r1
  cases v with
  | true => exact ⟨_, ρ, g1, S1, p1⟩
  | false => exact ⟨_, ρ, g1, S1, p1⟩
/-! argument lists, displays -/
variable {es : List Expr} {ms : EvL}
theorem eas_nil : EAs T W X [] mNil := PA.imp pa_nil fun σ H Q ⟨γ, ρ, g, S, p⟩ => p.ret0 (g0 := g) S RelDs.nil
theorem eas_cons (ha : EE T W X a ma) (hr : EAs T W X es ms) (hs : starEach (a :: es) X.env = (false, eval a X.env) :: starEach es X.env := by rfl) : EAs T W X (a :: es) (mCons ma ms) := PA.imp (pa_cons ha hr hs) fun σ H Q ⟨γ, ρ, g, S, p⟩ => by
  refine ⟨γ, ρ, g, S, p.bind fun d g1 _ v ι1 H1 s1 G1 r1 p1 => ?_⟩
  have S1 := S.step s1 G1
  refine ⟨_, ρ, g1, S1, p1.bind fun ds g2 _ vs ι2 H2 s2 G2 r2 p2 => ?_⟩
  have S2 := S1.step s2 G2
  exact p2.ret0 (g0 := g) S2 (.cons (r1.keep s2 (Gho.bi _) (Gho.grows s2)) r2)
theorem ee_tup {k} (h : EAs T W X es ms) : EE T W X (.Tuple es k pos) (mTup ms) := PE.imp (pe_tup h) fun σ H Q ⟨γ, ρ, g, S, p⟩ => by
  refine ⟨γ, ρ, g, S, p.bind fun ds g1 _ vs ι1 H1 s1 G1 r1 p1 => ?_⟩
  have S1 := S.step s1 G1
  cases hf : fits ds.length with
  | false => rw [hf] at p1; exact p1.elim
  | true =>
    rw [hf] at p1
    exact ⟨by rw [r1.length]; exact fits_line hf, fun q hq => Post.ret1 S1 (same_upd hq) p1 (RelD.newTup (fun a h => .inl h) hq r1)⟩
theorem ee_lst (h : EAs T W X es ms) : EE T W X (.List es pos) (mLst ms) := PE.imp (pe_lst h) fun σ H Q ⟨γ, ρ, g, S, p⟩ => by
  refine ⟨γ, ρ, g, S, p.bind fun ds g1 _ vs ι1 H1 s1 G1 r1 p1 => ?_⟩
  have S1 := S.step s1 G1
  cases hf : fits ds.length with
  | false => rw [hf] at p1; exact p1.elim
  | true =>
    rw [hf] at p1
    exact ⟨by rw [r1.length]; exact fits_line hf, fun q hq => Post.ret1 S1 (same_upd hq) p1 (RelD.newLst S1.bart (fun a h => .inl h) hq r1)⟩
end
end Z

namespace Z
open PySem PySem.Spec PyProof.Rows L2
set_option autoImplicit false

mutual
theorem nd_of : ∀ d : PyData, d.plain = true → d.hasDict = false
  | .none, _ => by simp [PyData.hasDict]
  | .bool _, _ => by simp [PyData.hasDict]
  | .int _, _ => by simp [PyData.hasDict]
  | .str _, _ => by simp [PyData.hasDict]
  | .list xs, h => by simp only [PyData.hasDict]; exact nds_of xs (by simpa [PyData.plain] using h)
  | .tuple xs, h => by simp only [PyData.hasDict]; exact nds_of xs (by simpa [PyData.plain] using h)
  | .dict _, h => by simp [PyData.plain] at h
theorem nds_of : ∀ ds : List PyData, PyData.plainAll ds = true → PyData.hasDictAll ds = false
  | [], _ => by simp [PyData.hasDictAll]
  | d :: ds, h => by
    have h' : d.plain = true ∧ PyData.plainAll ds = true := by simpa [PyData.plainAll] using h
    simp [PyData.hasDictAll, nd_of d h'.1, nds_of ds h'.2]
end
section
variable {T : Wd} {W : WX} {X : Cx} {pos p : Pos} {x : Str} {e e2 : Expr} {m m2 : Ev} {id ty : String} {k : D → Option D} {k2 : D → D → Option D}
/-! ### calls of built-ins -/
def r1 (T : Wd) (k : D → Option D) : List V → Hp → VK → Prop := fun xs H Q => ∃ x, xs = [x] ∧ rUn T k x H Q
def r2 (T : Wd) (k : D → D → Option D) : List V → Hp → VK → Prop := fun xs H Q => ∃ x y, xs = [x, y] ∧ rOp T k x y H Q
theorem callR1 {f : Value} (h : Call1 T X f k) : CallR X f (r1 T k) := by
  intro pins s σ H xs us Q I r hq
  obtain ⟨x, rfl, q⟩ := hq
  obtain ⟨u, rfl, rx⟩ := vals1 r
  exact h pins s σ H x u Q I rx q
theorem callR2 {f : Value} (h : Call2 T X f k2) : CallR X f (r2 T k2) := by
  intro pins s σ H xs us Q I r hq
  obtain ⟨x, y, rfl, q⟩ := hq
  obtain ⟨u, w, rfl, rx, ry⟩ := vals2 r
  exact h pins s σ H x y u w Q I rx ry q
theorem ee_call1 (hc : Call1 T X (.builtin id) k) (he : EW T W X e m) (hg : Gl X x) (hm : X.mg x = none) (hv : bootBuiltins x = some (.builtin id)) (hn : x ≠ "__name__" := by decide) (hdb : (x == ("__debug__" : Str)) = false := by decide)
    (hs : starEach [e] X.env = (false, eval e X.env) :: starEach [] X.env := by rfl) : EE T W X (.Call (.Name x p) [e] [] pos) (mUn k m) :=
  PE.imp (pe_callB (callR1 hc) hg hm hv (pa_cons he pa_nil hs) hn hdb hs rfl) fun σ H Q h => by
    obtain ⟨γ, ρ, g, S, q⟩ := un_imp h
    exact ⟨γ, ρ, g, S, by
      revert q
      cases m ρ g with
      | ok d g' => exact fun q v ι' H' s1 G1 r1 => ⟨v, rfl, q v ι' H' s1 G1 r1⟩
      | exc x g' => exact fun q => q
      | bad => exact fun q => q⟩
theorem ee_callT (hc : Call1 T X (.type ty) k) (he : EW T W X e m) (hg : Gl X x) (hm : X.mg x = none) (hv : bootBuiltins x = some (.type ty)) (hn : x ≠ "__name__" := by decide) (hdb : (x == ("__debug__" : Str)) = false := by decide)
    (hs : starEach [e] X.env = (false, eval e X.env) :: starEach [] X.env := by rfl) : EE T W X (.Call (.Name x p) [e] [] pos) (mUn k m) :=
  PE.imp (pe_callTy (callR1 hc) hg hm hv (pa_cons he pa_nil hs) hn hdb hs rfl) fun σ H Q h => by
    obtain ⟨γ, ρ, g, S, q⟩ := un_imp h
    exact ⟨γ, ρ, g, S, by
      revert q
      cases m ρ g with
      | ok d g' => exact fun q v ι' H' s1 G1 r1 => ⟨v, rfl, q v ι' H' s1 G1 r1⟩
      | exc x g' => exact fun q => q
      | bad => exact fun q => q⟩
theorem ee_call2 (hc : Call2 T X (.builtin id) k2) (he : EW T W X e m) (he2 : EW T W X e2 m2) (hg : Gl X x) (hm : X.mg x = none) (hv : bootBuiltins x = some (.builtin id)) (hn : x ≠ "__name__" := by decide) (hdb : (x == ("__debug__" : Str)) = false := by decide)
    (hs : starEach [e, e2] X.env = (false, eval e X.env) :: starEach [e2] X.env := by rfl) (hs2 : starEach [e2] X.env = (false, eval e2 X.env) :: starEach [] X.env := by rfl) (hpl : (backTo pos (starEach [e2] X.env)).any (·.1) = false := by rfl) :
    EE T W X (.Call (.Name x p) [e, e2] [] pos) (mOp k2 m m2) :=
  PE.imp (pe_callB (callR2 hc) hg hm hv (pa_cons he (pa_cons he2 pa_nil hs2) hs) hn hdb hs hpl) fun σ H Q h => by
    obtain ⟨γ, ρ, g, S, q⟩ := op_imp h
    refine ⟨γ, ρ, g, S, ?_⟩
    revert q
    cases m ρ g with
    | exc x g' => exact fun q => q
    | bad => exact fun q => q
    | ok d g' =>
      intro q v ι' H' s1 G1 r1
      obtain ⟨γ2, ρ2, g2, S2, q2⟩ := q v ι' H' s1 G1 r1
      refine ⟨γ2, ρ2, g2, S2, ?_⟩
      revert q2
      cases m2 ρ2 g2 with
      | exc x g' => exact fun q => q
      | bad => exact fun q => q
      | ok d g' => exact fun q v2 ι' H' s1 G1 r1 => ⟨v, v2, rfl, q v2 ι' H' s1 G1 r1⟩
/-! ### len -/
def lenO : D → Option D
  | .lst ds => some (.int ds.length)
  | .tup ds => some (.int ds.length)
  | .str x => if fits x.length then some (.int x.length) else none
  | _ => none
theorem ud_len (ok : Ok T X) : Call1 T X (.builtin "len") lenO := by
  intro pins s σ H x v Q I rx ⟨ι, bar, d, r, hb, hi, rd, hk, q⟩
  have go : ∀ n, LenV X.K x H n → r = .int n → wpAny (model X.prog X.w) X.A (call (.builtin "len") [v]) (EP X pins σ Q) X.xe s := fun n h e =>
    call_len pins s σ H [x] [v] Q I (.cons rx .nil) ⟨x, n, rfl, h, q _ _ (Same.refl H) (by rw [e]; exact RelD.ofInt _)⟩
  unfold lenO at hk
  split at hk
  · cases hk
    obtain ⟨a, xs, rfl, h1, r1⟩ := rd.lst
    exact go _ (.inl ⟨xs, .inl h1, r1.length.symm⟩) rfl
  · cases hk
    obtain ⟨a, xs, rfl, h1, r1⟩ := rd.tup
    rw [← ok.K] at h1
    exact go _ (.inr ⟨xs, h1, r1.length.symm⟩) rfl
  · split at hk
    · rename_i hc
      cases hk
      obtain rfl := rd.str
      exact go _ ⟨fits_line hc, rfl⟩ rfl
    · cases hk
  · cases hk
/-! ### tuple(), list() -/
def tupleO : D → Option D
  | .lst ds => some (.tup ds)
  | .tup ds => some (.tup ds)
  | _ => none
def listO : D → Option D
  | .lst ds => some (.lst ds)
  | .tup ds => some (.lst ds)
  | _ => none
theorem ud_tuple (ok : Ok T X) : Call1 T X (.type "tuple") tupleO := by
  intro pins s σ H x v Q I rx ⟨ι, bar, d, r, hb, hi, rd, hk, q⟩
  unfold tupleO at hk
  split at hk
  · cases hk
    obtain ⟨a, xs, rfl, h1, r1⟩ := rd.lst
    exact call_tuple_of pins s σ H [_] [v] Q I (.cons rx .nil) ⟨a, xs, rfl, .inl ⟨.inl h1, fun l hl => q _ _ (same_upd hl) (RelD.newTup hi hl r1)⟩⟩
  · cases hk
    obtain ⟨a, xs, rfl, h1, r1⟩ := rd.tup
    have h2 := h1
    rw [← ok.K] at h1
    refine call_tuple_of pins s σ H [_] [v] Q I (.cons rx .nil) ⟨a, xs, rfl, .inr ⟨h1, q _ _ (Same.refl H) ?_⟩⟩
    simp only [RelD]
    exact ⟨a, xs, rfl, h2, r1⟩
  · cases hk
theorem ud_list (ok : Ok T X) : Call1 T X (.type "list") listO := by
  intro pins s σ H x v Q I rx ⟨ι, bar, d, r, hb, hi, rd, hk, q⟩
  unfold listO at hk
  split at hk
  · cases hk
    obtain ⟨a, xs, rfl, h1, r1⟩ := rd.lst
    exact call_list_of pins s σ H [_] [v] Q I (.cons rx .nil) ⟨a, xs, rfl, .inl (.inl h1), fun l hl => q _ _ (same_upd hl) (RelD.newLst hb hi hl r1)⟩
  · cases hk
    obtain ⟨a, xs, rfl, h1, r1⟩ := rd.tup
    rw [← ok.K] at h1
    exact call_list_of pins s σ H [_] [v] Q I (.cons rx .nil) ⟨a, xs, rfl, .inr h1, fun l hl => q _ _ (same_upd hl) (RelD.newLst hb hi hl r1)⟩
  · cases hk
/-! ### int(), str(), bool() -/
def intO : D → Option D
  | .int i => some (.int i)
  | .bl b => some (.int (if b then 1 else 0))
  | _ => none
theorem ud_int : Call1 T X (.type "int") intO := by
  intro pins s σ H x v Q I rx ⟨ι, bar, d, r, hb, hi, rd, hk, q⟩
  unfold intO at hk
  split at hk
  · cases hk
    obtain rfl := rd.int
    exact call_int1 pins s σ H [_] [v] Q I (.cons rx .nil) (.inl ⟨_, rfl, q _ _ (Same.refl H) (RelD.ofInt _)⟩)
  · cases hk
    obtain rfl := rd.bl
    exact call_int1 pins s σ H [_] [v] Q I (.cons rx .nil) (.inr ⟨_, rfl, q _ _ (Same.refl H) (RelD.ofInt _)⟩)
  · cases hk
def intFits (i : Int) : Bool := decide (i.natAbs.log2 < 1920)
def strO : D → Option D
  | .int i => if intFits i then some (.str (toString i)) else none
  | .str x => some (.str x)
  | _ => none
theorem ud_str : Call1 T X (.type "str") strO := by
  intro pins s σ H x v Q I rx ⟨ι, bar, d, r, hb, hi, rd, hk, q⟩
  unfold strO at hk
  split at hk
  · split at hk
    · rename_i hc
      cases hk
      obtain rfl := rd.int
      exact call_str_int pins s σ H [_] [v] Q I (.cons rx .nil) ⟨_, rfl, of_decide_eq_true hc, q _ _ (Same.refl H) (RelD.ofStr _)⟩
    · cases hk
  · cases hk
    obtain rfl := rd.str
    exact SkE.call_str_str pins s σ H [_] [v] Q I (.cons rx .nil) ⟨_, rfl, q _ _ (Same.refl H) (RelD.ofStr _)⟩
  · cases hk
/-! ### repr() -/
def reprOk (d : D) : Bool := isD d && sh d && (py d).showable && fits (py d).shown.length
def reprO (d : D) : Option D := match d with
  | .tup ds => if reprOk (.tup ds) then some (.str (py (.tup ds)).shown) else none
  | .lst ds => if reprOk (.lst ds) then some (.str (py (.lst ds)).shown) else none
  | _ => none
theorem ud_repr (ok : Ok T X) (rm : Rm X) : Call1 T X (.builtin "repr") reprO := by
  intro pins s σ H x v Q I rx ⟨ι, bar, d, r, hb, hi, rd, hk, q⟩
  have go : ∀ a, x = .ref a → reprOk d = true → r = .str (py d).shown → wpAny (model X.prog X.w) X.A (call (.builtin "repr") [v]) (EP X pins σ Q) X.xe s := by
    intro a hx hc hr
    subst hx
    simp only [reprOk, Bool.and_eq_true, decide_eq_true_eq] at hc
    obtain ⟨⟨⟨h1, h2⟩, h3⟩, h4⟩ := hc
    obtain ⟨as, rr⟩ := rd.reads ok I rx h1
    cases rx
    have hu := rm.hu
    have hnd : (py d).hasDict = false := by
      have := plain_of d h1
      revert this
      generalize py d = z
      intro hz
      exact nd_of z hz
    exact PySem.repr_of_reads' rr h3 (fun z => by rw [hnd] at z; cases z) rm.hg (by omega) (fun _ _ e => e) (fun h' u tk hk => ⟨.str _, H, I.kept (t' := tk) hk, ⟨u, rfl⟩, q _ _ (Same.refl H) (by rw [hr]; exact RelD.ofStr _)⟩) (fits_line h4)
  unfold reprO at hk
  split at hk
  · split at hk
    · rename_i hc
      cases hk
      obtain ⟨a, xs, e, _⟩ := rd.tup
      exact go a e hc rfl
    · cases hk
  · split at hk
    · rename_i hc
      cases hk
      obtain ⟨a, xs, e, _⟩ := rd.lst
      exact go a e hc rfl
    · cases hk
  · cases hk
end
end Z

namespace Z
open PySem PySem.Spec PyProof.Rows L2
set_option autoImplicit false

mutual
theorem py_inj : ∀ d e : D, isD d = true → isD e = true → py d = py e → d = e
  | .non, e, _, h, q => by cases e <;> simp_all [py, isD]
  | .bl _, e, _, h, q => by cases e <;> simp_all [py, isD]
  | .int _, e, _, h, q => by cases e <;> simp_all [py, isD]
  | .str _, e, _, h, q => by cases e <;> simp_all [py, isD]
  | .tup ds, e, g, h, q => by
    cases e with
    | tup es =>
      simp only [py, PyData.tuple.injEq] at q
      rw [pys_inj ds es (by simpa [isD] using g) (by simpa [isD] using h) q]
    | _ => simp_all [py, isD]
  | .lst ds, e, g, h, q => by
    cases e with
    | lst es =>
      simp only [py, PyData.list.injEq] at q
      rw [pys_inj ds es (by simpa [isD] using g) (by simpa [isD] using h) q]
    | _ => simp_all [py, isD]
  | .set _, _, g, _, _ => by simp [isD] at g
  | .dct _ _, _, g, _, _ => by simp [isD] at g
  | .ref _, _, g, _, _ => by simp [isD] at g
  | .clo _ _, _, g, _, _ => by simp [isD] at g
  | .err _ _, _, g, _, _ => by simp [isD] at g
  | .scr _, _, g, _, _ => by simp [isD] at g
theorem pys_inj : ∀ ds es : List D, isDs ds = true → isDs es = true → pys ds = pys es → ds = es
  | [], es, _, _, q => by cases es <;> simp_all [pys]
  | d :: ds, es, g, h, q => by
    cases es with
    | nil => simp [pys] at q
    | cons e es =>
      simp only [pys, List.cons.injEq] at q
      have g' : isD d = true ∧ isDs ds = true := by simpa [isDs] using g
      have h' : isD e = true ∧ isDs es = true := by simpa [isDs] using h
      rw [py_inj d e g'.1 h'.1 q.1, pys_inj ds es g'.2 h'.2 q.2]
end
theorem pys_map : ∀ ds : List D, pys ds = ds.map py
  | [] => by simp [pys]
  | d :: ds => by simp [pys, pys_map ds]
theorem isDs_all : ∀ {ds : List D}, isDs ds = true ↔ ∀ d ∈ ds, isD d = true
  | [] => by simp [isDs]
  | d :: ds => by simp [isDs, isDs_all (ds := ds)]
/-- a value and its datum, in the heap -/
def VR (T : Wd) (ι : List Addr) (bar : Addr → Prop) (H : Hp) (u : Value) (d : D) : Prop := ∃ v : V, RelV v u ∧ RelD T ι bar H d v
section
variable {T : Wd} {ι : List Addr} {bar : Addr → Prop} {H : Hp}
theorem each_of : ∀ {ds : List D} {vs : List V} {us : List Value}, RelDs T ι bar H ds vs → Vals vs us → PySem.W.EachIs (VR T ι bar H) us ds
  | [], vs, us, h, r => by
    have : vs = [] := by simpa [RelDs] using h
    subst this; cases r
    exact .nil
  | d :: ds, vs, us, h, r => by
    obtain ⟨v, vr, rfl, h1, h2⟩ := h.uncons
    cases r with
    | cons r1 r2 => exact .cons ⟨v, r1, h1⟩ (each_of h2 r2)
theorem of_each : ∀ {ds : List D} {us : List Value}, PySem.W.EachIs (VR T ι bar H) us ds → ∃ vs, Vals vs us ∧ RelDs T ι bar H ds vs
  | [], us, h => by cases h; exact ⟨[], .nil, .nil⟩
  | d :: ds, us, h => by
    cases h with
    | cons h1 h2 =>
      obtain ⟨v, r1, q1⟩ := h1
      obtain ⟨vs, r2, q2⟩ := of_each h2
      exact ⟨v :: vs, .cons r1 r2, .cons q1 q2⟩
end
/-! ### sorted -/
def alikes (ds : List D) : Bool := ds.all fun d => ds.all fun e => PySem.W.alike (py d) (py e)
def tupCons : D → Bool
  | .tup (_ :: _) => true
  | _ => false
def notTup : D → Bool
  | .tup _ => false
  | .non => false
  | _ => true
def sortOk (ds : List D) : Bool := isDs ds && alikes ds && (ds.all tupCons || ds.all notTup) && shs ds && fits ds.length
/-- merge, the steps counted (it reduces) -/
def mgF {α : Type} (le : α → α → Bool) : Nat → List α → List α → List α
  | 0, xs, ys => xs ++ ys
  | n + 1, [], ys => ys
  | n + 1, xs, [] => xs
  | n + 1, x :: xs, y :: ys => if le x y = true then x :: mgF le n xs (y :: ys) else y :: mgF le n (x :: xs) ys
def msF {α : Type} (le : α → α → Bool) : Nat → List α → List α
  | 0, xs => xs
  | n + 1, [] => []
  | n + 1, [a] => [a]
  | n + 1, a :: b :: xs => let z := a :: b :: xs
    mgF le z.length (msF le n (z.take ((z.length + 1) / 2))) (msF le n (z.drop ((z.length + 1) / 2)))
theorem mgF_eq {α : Type} (le : α → α → Bool) : ∀ (n : Nat) (xs ys : List α), xs.length + ys.length ≤ n → mgF le n xs ys = List.merge xs ys le
  | 0, xs, ys, h => by
    have h1 : xs = [] := List.eq_nil_of_length_eq_zero (by omega)
    have h2 : ys = [] := List.eq_nil_of_length_eq_zero (by omega)
    subst h1; subst h2; simp [mgF]
  | n + 1, [], ys, h => by simp [mgF]
  | n + 1, x :: xs, [], h => by simp [mgF]
  | n + 1, x :: xs, y :: ys, h => by
    simp only [List.length_cons] at h
    rw [mgF, List.merge]
    rw [mgF_eq le n xs (y :: ys) (by simp only [List.length_cons]; omega), mgF_eq le n (x :: xs) ys (by simp only [List.length_cons]; omega)]
theorem msF_eq {α : Type} (le : α → α → Bool) : ∀ (n : Nat) (xs : List α), xs.length ≤ n → msF le n xs = xs.mergeSort le
  | 0, xs, h => by
    have h1 : xs = [] := List.eq_nil_of_length_eq_zero (by omega)
    subst h1; simp [msF]
  | n + 1, [], h => by simp [msF]
  | n + 1, [a], h => by simp [msF]
  | n + 1, a :: b :: xs, h => by
    have e : (List.mergeSort (a :: b :: xs) le) = List.merge (((a :: b :: xs).take (((a :: b :: xs).length + 1) / 2)).mergeSort le) (((a :: b :: xs).drop (((a :: b :: xs).length + 1) / 2)).mergeSort le) le := by
      rw [List.mergeSort]
      simp only [List.MergeSort.Internal.splitInTwo, List.splitAt_eq]
    rw [e]
    simp only [List.length_cons] at h
    simp only [msF]
    rw [msF_eq le n _ (by simp only [List.length_take, List.length_cons]; omega), msF_eq le n _ (by simp only [List.length_drop, List.length_cons]; omega)]
    refine mgF_eq le _ _ _ ?_
    simp only [List.length_mergeSort, List.length_take, List.length_drop]
    omega
def sortD (ds : List D) : List D := msF (PySem.W.dataLe false py) ds.length ds
theorem sortD_eq (ds : List D) : sortD ds = ds.mergeSort (PySem.W.dataLe false py) := msF_eq _ _ _ (Nat.le_refl _)
def sortedO : D → Option D
  | .lst ds => if sortOk ds then some (.lst (sortD ds)) else none
  | _ => none
theorem depth_mem : ∀ {ds : List D} {d : D}, d ∈ ds → (py d).depth ≤ PyData.depthAll (pys ds)
  | [], _, h => by cases h
  | e :: ds, d, h => by
    simp only [pys, PyData.depthAll]
    rcases List.mem_cons.mp h with rfl | h
    · exact Nat.le_max_left _ _
    · exact Nat.le_trans (depth_mem h) (Nat.le_max_right _ _)
section
variable {T : Wd} {X : Cx}
theorem sort_core (ok : Ok T X) (rm : Rm X) {pins : List (Addr × Obj)} {σ : L2.St} {H : Hp} {s : Shared} {ι : List Addr} {bar : Addr → Prop} {ds : List D} {vs : List V} {a : Addr} {its : List Value} {Q : VK} (I : Inv X pins σ H s)
    (hb : ∀ a, bar a → H a ≠ none) (hi : ∀ a ∈ ι, bar a) (rs : RelDs T ι bar H ds vs) (rv : Vals vs its) (hc : sortOk ds = true) (q : ∀ z H', Same H H' → RelD T ι bar H' (.lst (sortD ds)) z → Q z H')
    (hrun : ∀ {Q' : Value → Shared → Prop}, (∀ out, out.length = ds.length → PySem.W.EachIs (VR T ι bar H) out (ds.mergeSort (PySem.W.dataLe false py)) → Q' (.ref (s.heap.objs.size + 1)) { s with heap := PyProof.Rows.sortedAll s.heap its (List.toArray out) }) →
      wpAny (model X.prog X.w) X.A (call (.builtin "sorted") [.ref a]) Q' X.xe s) : wpAny (model X.prog X.w) X.A (call (.builtin "sorted") [.ref a]) (L2.EP X pins σ Q) X.xe s := by
  rw [sortD_eq] at q
  refine hrun fun out h1 h2 => ?_
  simp only [sortOk, Bool.and_eq_true, decide_eq_true_eq] at hc
  obtain ⟨⟨⟨⟨g1, g2⟩, g3⟩, g4⟩, g5⟩ := hc
  obtain ⟨ws, k1, k2⟩ := of_each h2
  obtain ⟨ep, he'⟩ := PyProof.Rows.sortedAll_at s.heap its out.toArray
  have hlen : ws.length ≤ sizeLine := by
    rw [k2.length, List.length_mergeSort]
    exact fits_line g5
  exact ⟨.ref _, upd H (s.heap.objs.size + 1) (.lst ws), I.laid (t' := s.toks) (fun _ _ => PyProof.Rows.sortedAll_old) (Nat.le_succ _) ⟨hlen, out, ep, k1, he'⟩, rfl,
    q _ _ (same_upd (I.hok.fresh (Nat.le_succ _))) (RelD.newLst hb hi (I.hok.fresh (Nat.le_succ _)) k2)⟩
theorem sort_prem {ds : List D} (hc : sortOk ds = true) : PySem.W.AllAlike (ds.map py) ∧ PySem.W.Sortable (ds.map py) ∧ ds.length ≤ sizeLine ∧ isDs ds = true ∧ PyData.depthAll (pys ds) ≤ 60 := by
  simp only [sortOk, Bool.and_eq_true, decide_eq_true_eq] at hc
  obtain ⟨⟨⟨⟨g1, g2⟩, g3⟩, g4⟩, g5⟩ := hc
  refine ⟨fun d hd d' hd' => ?_, ?_, fits_line g5, g1, g4⟩
  · obtain ⟨x, hx, rfl⟩ := List.mem_map.mp hd
    obtain ⟨y, hy, rfl⟩ := List.mem_map.mp hd'
    exact List.all_eq_true.mp (List.all_eq_true.mp g2 x hx) y hy
  · rcases Bool.or_eq_true_iff.mp g3 with g | g
    · refine .inl fun d hd => ?_
      obtain ⟨x, hx, rfl⟩ := List.mem_map.mp hd
      have := List.all_eq_true.mp g x hx
      cases x with
      | tup xs =>
        cases xs with
        | nil => simp [tupCons] at this
        | cons z r => exact ⟨py z, pys r, by simp [py, pys]⟩
      | _ => simp [tupCons] at this
    · refine .inr fun d hd => ?_
      obtain ⟨x, hx, rfl⟩ := List.mem_map.mp hd
      have h1 := List.all_eq_true.mp g x hx
      have h2 := isDs_all.mp g1 x hx
      cases x <;> simp_all [notTup, py, isD]
theorem ud_sorted (ok : Ok T X) (rm : Rm X) : Call1 T X (.builtin "sorted") sortedO := by
  intro pins s σ H x v Q I rx ⟨ι, bar, d, r, hb, hi, rd, hk, q⟩
  have hu := rm.hu
  have each : ∀ {ds : List D} {vs : List V} {its : List Value}, RelDs T ι bar H ds vs → Vals vs its → isDs ds = true → PySem.W.EachIs (fun v b => ∃ as, Reads s.heap v (py b) as) its ds := by
    intro ds vs its rs rv g
    obtain ⟨as, hr⟩ := rs.reads ok I rv g
    have h := hr
    rw [pys_map] at h
    exact PySem.W.readsAll_each py h
  unfold sortedO at hk
  split at hk
  · split at hk
    · rename_i ds hc
      cases hk
      obtain ⟨a, vs, rfl, h1, rs⟩ := rd.lst
      cases rx
      obtain ⟨its, rv, pl, hz⟩ := I.list (.inl h1)
      obtain ⟨p1, p2, p3, p4, p5⟩ := sort_prem hc
      exact sort_core ok rm I hb hi rs rv hc q fun {Q'} hq => PySem.W.sorted_data pl.isList (each_of rs rv) (each rs rv p4) p1 p2 p3 (fun b hbm => by have := depth_mem hbm; omega) hq
    · cases hk
  · cases hk
/-! ### all, any, isinstance, min, max -/
def bools : List D → Option (List Bool)
  | [] => some []
  | .bl b :: ds => (bools ds).map (b :: ·)
  | _ => none
def allO : D → Option D
  | .lst ds => (bools ds).map fun bs => .bl (bs.all id)
  | _ => none
def anyO : D → Option D
  | .lst ds => (bools ds).map fun bs => .bl (bs.any id)
  | _ => none
theorem bools_rel {ι : List Addr} {bar : Addr → Prop} {H : Hp} : ∀ {ds : List D} {bs : List Bool} {vs : List V}, RelDs T ι bar H ds vs → bools ds = some bs → vs = bs.map V.bl
  | [], bs, vs, h, e => by
    cases e
    simpa [RelDs] using h
  | .bl b :: ds, bs, vs, h, e => by
    obtain ⟨v, r, rfl, h1, h2⟩ := h.uncons
    simp only [bools, Option.map_eq_some_iff] at e
    obtain ⟨cs, e1, rfl⟩ := e
    have : v = .bl b := by simpa [RelD] using h1
    rw [this, bools_rel h2 e1]; rfl
  | .non :: ds, bs, vs, h, e => by simp [bools] at e
  | .int _ :: ds, bs, vs, h, e => by simp [bools] at e
  | .str _ :: ds, bs, vs, h, e => by simp [bools] at e
  | .tup _ :: ds, bs, vs, h, e => by simp [bools] at e
  | .lst _ :: ds, bs, vs, h, e => by simp [bools] at e
  | .set _ :: ds, bs, vs, h, e => by simp [bools] at e
  | .dct _ _ :: ds, bs, vs, h, e => by simp [bools] at e
  | .ref _ :: ds, bs, vs, h, e => by simp [bools] at e
  | .clo _ _ :: ds, bs, vs, h, e => by simp [bools] at e
  | .err _ _ :: ds, bs, vs, h, e => by simp [bools] at e
  | .scr _ :: ds, bs, vs, h, e => by simp [bools] at e
theorem ud_all (hc : X.calm = true) : Call1 T X (.builtin "all") allO := by
  intro pins s σ H x v Q I rx ⟨ι, bar, d, r, hb, hi, rd, hk, q⟩
  unfold allO at hk
  split at hk
  · obtain ⟨bs, e1, rfl⟩ := Option.map_eq_some_iff.mp hk
    obtain ⟨a, vs, rfl, h1, rs⟩ := rd.lst
    rw [bools_rel rs e1] at h1
    exact cr_all hc pins s σ H [_] [v] Q I (.cons rx .nil) ⟨a, bs, rfl, .inl h1, q _ _ (Same.refl H) (RelD.ofBl _)⟩
  · cases hk
theorem ud_any (hc : X.calm = true) : Call1 T X (.builtin "any") anyO := by
  intro pins s σ H x v Q I rx ⟨ι, bar, d, r, hb, hi, rd, hk, q⟩
  unfold anyO at hk
  split at hk
  · obtain ⟨bs, e1, rfl⟩ := Option.map_eq_some_iff.mp hk
    obtain ⟨a, vs, rfl, h1, rs⟩ := rd.lst
    rw [bools_rel rs e1] at h1
    exact cr_any hc pins s σ H [_] [v] Q I (.cons rx .nil) ⟨a, bs, rfl, .inl h1, q _ _ (Same.refl H) (RelD.ofBl _)⟩
  · cases hk
/-- isinstance(x, T), T a built-in class -/
inductive Ty where
  | int | bool | str | tuple | list
def Ty.is : Ty → D → Option Bool
  | .int, d => if isD d then some (match d with | .int _ => true | .bl _ => true | _ => false) else none
  | .bool, d => if isD d then some (match d with | .bl _ => true | _ => false) else none
  | .str, d => if isD d then some (match d with | .str _ => true | _ => false) else none
  | .tuple, d => if isD d then some (match d with | .tup _ => true | _ => false) else none
  | .list, d => if isD d then some (match d with | .lst _ => true | _ => false) else none
def Ty.name : Ty → String
  | .int => "int" | .bool => "bool" | .str => "str" | .tuple => "tuple" | .list => "list"
def isiO (t : Ty) (d : D) : Option D := (t.is d).map .bl
theorem ud_isi (ok : Ok T X) (t : Ty) : UnD T X (fun v => call (.builtin "isinstance") [v, .type t.name]) (isiO t) := by
  intro pins s σ H x v Q I rx ⟨ι, bar, d, r, hb, hi, rd, hk, q⟩
  obtain ⟨b, e1, rfl⟩ := Option.map_eq_some_iff.mp hk
  have g : isD d = true := by
    cases t <;> simp only [Ty.is] at e1 <;> split at e1 <;> first | assumption | cases e1
  obtain ⟨as, rr⟩ := rd.reads ok I rx g
  have fin : ∀ {c : Bool} {tk : Nat}, c = b → L2.EP X pins σ Q (.bool c) { s with toks := tk } := fun {c tk} e => ⟨.bl b, H, I.tok tk, by rw [e]; rfl, q _ _ (Same.refl H) (RelD.ofBl b)⟩
  cases t with
  | int => refine PySem.W.isinstance_int_data rr fun tk _ => fin ?_; cases d <;> simp_all [Ty.is, py, PyData.isInt, isD]
  | bool => refine PySem.W.isinstance_bool_data rr fun tk _ => fin ?_; cases d <;> simp_all [Ty.is, py, PyData.isBool, isD]
  | str => refine PySem.W.isinstance_str_data rr fun tk _ => fin ?_; cases d <;> simp_all [Ty.is, py, PyData.isStr, isD]
  | tuple => refine PySem.W.isinstance_tuple_data rr fun tk _ => fin ?_; cases d <;> simp_all [Ty.is, py, PyData.isTuple, isD]
  | list => refine PySem.W.isinstance_list_data rr fun tk _ => fin ?_; cases d <;> simp_all [Ty.is, py, PyData.isList, isD]
variable {W : WX} {pos p p2 : Pos} {e : Expr} {m : Ev}
theorem ee_isi (ok : Ok T X) (t : Ty) (he : EW T W X e m) (hg : Gl X "isinstance") (hm : X.mg "isinstance" = none) {y : Str} (hgy : Gl X y) (hmy : X.mg y = none) (hvy : bootBuiltins y = some (.type t.name))
    (hs : starEach [e, .Name y p2] X.env = (false, eval e X.env) :: starEach [.Name y p2] X.env := by rfl) (hny : y ≠ "__name__" := by decide) (hdy : (y == ("__debug__" : Str)) = false := by decide) (hpl : (backTo pos (starEach [.Name y p2] X.env)).any (·.1) = false := by rfl)
    (hs2 : starEach [.Name y p2] X.env = (false, eval (.Name y p2) X.env) :: starEach [] X.env := by rfl) :
    EE T W X (.Call (.Name "isinstance" p) [e, .Name y p2] [] pos) (mUn (isiO t) m) := by
  have hc : CallR X (.builtin "isinstance") (fun xs H Q => ∃ x, xs = [x, .ty t.name] ∧ rUn T (isiO t) x H Q) := by
    intro pins s σ H xs us Q I r hq
    obtain ⟨x, rfl, q⟩ := hq
    obtain ⟨u, w, rfl, rx, ry⟩ := vals2 r
    obtain rfl : w = .type t.name := ry
    exact ud_isi ok t pins s σ H x u Q I rx q
  refine PE.imp (pe_callB hc hg hm (by decide +kernel) (pa_cons he (pa_cons (pe_bltn (v := .ty t.name) hgy hmy hvy rfl hny hdy) pa_nil hs2) hs) (by decide) (by decide) hs hpl) fun σ H Q h => ?_
  obtain ⟨γ, ρ, g, S, q⟩ := un_imp h
  refine ⟨γ, ρ, g, S, ?_⟩
  revert q
  cases m ρ g with
  | exc x g' => exact fun q => q
  | bad => exact fun q => q
  | ok d g' => exact fun q v ι' H' s1 G1 r1 => ⟨v, rfl, q v ι' H' s1 G1 r1⟩
/-- min, max of a list of data -/
def leastD (d : D) (ds : List D) : D := ds.foldl (fun a y => if PySem.W.dataLt (py y) (py a) then y else a) d
def mostD (d : D) (ds : List D) : D := ds.foldl (fun a y => if PySem.W.dataLt (py a) (py y) then y else a) d
def mmOk (ds : List D) : Bool := isDs ds && alikes ds && ds.all (fun d => !isNon d) && shs ds
def minO : D → Option D
  | .lst (d :: ds) => if mmOk (d :: ds) then some (leastD d ds) else none
  | _ => none
def maxO : D → Option D
  | .lst (d :: ds) => if mmOk (d :: ds) then some (mostD d ds) else none
  | _ => none
theorem least_py : ∀ (ds : List D) (d : D), py (leastD d ds) = PySem.W.minD (py d) (pys ds)
  | [], d => by simp [leastD, PySem.W.minD, pys]
  | e :: ds, d => by
    have h := least_py ds (if PySem.W.dataLt (py e) (py d) then e else d)
    unfold leastD PySem.W.minD at h ⊢
    simp only [List.foldl_cons, pys]
    rw [h]
    split <;> rfl
theorem most_py : ∀ (ds : List D) (d : D), py (mostD d ds) = PySem.W.maxD (py d) (pys ds)
  | [], d => by simp [mostD, PySem.W.maxD, pys]
  | e :: ds, d => by
    have h := most_py ds (if PySem.W.dataLt (py d) (py e) then e else d)
    unfold mostD PySem.W.maxD at h ⊢
    simp only [List.foldl_cons, pys]
    rw [h]
    split <;> rfl
theorem fold_isD (f : D → D → Bool) : ∀ (ds : List D) (d : D), isD d = true → isDs ds = true → isD (ds.foldl (fun a y => if f a y then y else a) d) = true
  | [], d, h, _ => h
  | e :: ds, d, h, g => by
    have g' : isD e = true ∧ isDs ds = true := by simpa [isDs] using g
    rw [List.foldl_cons]
    refine fold_isD f ds _ ?_ g'.2
    split
    · exact g'.1
    · exact h
theorem mm_core (ok : Ok T X) {pins : List (Addr × Obj)} {σ : L2.St} {H : Hp} {s : Shared} {ι : List Addr} {bar : Addr → Prop} {ds : List D} {d : D} {vs : List V} {its : List Value} {Q : VK} (I : Inv X pins σ H s)
    (rs : RelDs T ι bar H ds vs) (rv : Vals vs its) (g : isDs ds = true) (gd : isD d = true) (q : ∀ z H', Same H H' → RelD T ι bar H' d z → Q z H')
    {i : Nat} {v : Value} {h' : Heap} {tk : Nat} {bs : List Addr} (hv : its.toArray[i]? = some v) (rd : Reads h' v (py d) bs) (hk : ∀ b o, s.heap.get? b = some o → h'.get? b = some o) : L2.EP X pins σ Q v { s with heap := h', toks := tk } := by
  have I2 : Inv X pins σ H { s with heap := h', toks := tk } := I.kept hk
  have hv' : its[i]? = some v := by simpa using hv
  obtain ⟨hi, _⟩ := List.getElem?_eq_some_iff.mp hv'
  have l1 := rv.length
  have l2 := rs.length
  have hd : ds[i]? = some ds[i] := List.getElem?_eq_getElem (by omega)
  obtain ⟨z, e1, r1⟩ := rs.get hd
  obtain ⟨u, e2, r2⟩ := Vals.get rv e1
  rw [hv'] at e2
  cases e2
  have gi : isD ds[i] = true := isDs_all.mp g _ (List.getElem_mem _)
  obtain ⟨as, rr⟩ := r1.reads ok I2 r2 gi
  obtain ⟨e3, _⟩ := Reads.unique rr _ _ rd
  have e4 := py_inj _ _ gi gd e3
  rw [e4] at r1
  exact ⟨z, H, I2, r2, q _ _ (Same.refl H) r1⟩
theorem mm_prem {ds : List D} (h : mmOk ds = true) : isDs ds = true ∧ PySem.W.AlikeAll (pys ds) ∧ PyData.depthAll (pys ds) ≤ 60 := by
  simp only [mmOk, Bool.and_eq_true, decide_eq_true_eq] at h
  obtain ⟨⟨⟨g1, g2⟩, g3⟩, g4⟩ := h
  refine ⟨g1, ⟨fun x hx y hy => ?_, fun x hx => ?_⟩, g4⟩
  · rw [pys_map] at hx hy
    obtain ⟨a, ha, rfl⟩ := List.mem_map.mp hx
    obtain ⟨b, hb, rfl⟩ := List.mem_map.mp hy
    exact List.all_eq_true.mp (List.all_eq_true.mp g2 a ha) b hb
  · rw [pys_map] at hx
    obtain ⟨a, ha, rfl⟩ := List.mem_map.mp hx
    exact nonNone (List.all_eq_true.mp g3 a ha) (isDs_all.mp g1 a ha)
theorem ud_min (ok : Ok T X) (rm : Rm X) (hc : X.calm = true) : Call1 T X (.builtin "min") minO := by
  intro pins s σ H x v Q I rx ⟨ι, bar, d, r, hb, hi, rd, hk, q⟩
  have hu := rm.hu
  unfold minO at hk
  split at hk
  · rename_i d ds
    split at hk
    · rename_i hm
      cases hk
      obtain ⟨a, vs, rfl, h1, rs⟩ := rd.lst
      cases rx
      obtain ⟨its, rv, pl, hz⟩ := I.list (.inl h1)
      obtain ⟨p1, p2, p3⟩ := mm_prem hm
      obtain ⟨as, hr⟩ := rs.reads ok I rv p1
      have g' : isD d = true ∧ isDs ds = true := by simpa [isDs] using p1
      rw [pys] at hr p2
      rw [pys] at p3
      refine PySem.W.min_list_data (I.ok.hd hc) pl.isList (show ReadsAll s.heap its.toArray.toList _ as by simpa using hr) p2 (by omega) fun i v h' tk bs e1 e2 e3 => ?_
      rw [← least_py] at e2
      exact mm_core ok I rs rv p1 (fold_isD _ ds d g'.1 g'.2) q e1 e2 e3
    · cases hk
  · cases hk
theorem ud_max (ok : Ok T X) (rm : Rm X) (hc : X.calm = true) : Call1 T X (.builtin "max") maxO := by
  intro pins s σ H x v Q I rx ⟨ι, bar, d, r, hb, hi, rd, hk, q⟩
  have hu := rm.hu
  unfold maxO at hk
  split at hk
  · rename_i d ds
    split at hk
    · rename_i hm
      cases hk
      obtain ⟨a, vs, rfl, h1, rs⟩ := rd.lst
      cases rx
      obtain ⟨its, rv, pl, hz⟩ := I.list (.inl h1)
      obtain ⟨p1, p2, p3⟩ := mm_prem hm
      obtain ⟨as, hr⟩ := rs.reads ok I rv p1
      have g' : isD d = true ∧ isDs ds = true := by simpa [isDs] using p1
      rw [pys] at hr p2
      rw [pys] at p3
      refine PySem.W.max_list_data (I.ok.hd hc) pl.isList (show ReadsAll s.heap its.toArray.toList _ as by simpa using hr) p2 (by omega) fun i v h' tk bs e1 e2 e3 => ?_
      rw [← most_py] at e2
      exact mm_core ok I rs rv p1 (fold_isD (fun a y => PySem.W.dataLt (py a) (py y)) ds d g'.1 g'.2) q e1 e2 e3
    · cases hk
  · cases hk
def min2O (d e : D) : Option D := match d, e with
  | .int i, .int j => some (.int (if j < i then j else i))
  | _, _ => none
def max2O (d e : D) : Option D := match d, e with
  | .int i, .int j => some (.int (if j > i then j else i))
  | _, _ => none
theorem od_min2 (hc : X.calm = true) : Call2 T X (.builtin "min") min2O := by
  intro pins s σ H x y v u Q I rx ry ⟨ι, bar, d, e, r, hb, hi, rd, re, hk, q⟩
  unfold min2O at hk
  split at hk
  · cases hk
    obtain rfl := rd.int
    obtain rfl := re.int
    exact call_min2 hc pins s σ H [_, _] [v, u] Q I (.cons rx (.cons ry .nil)) ⟨_, _, rfl, q _ _ (Same.refl H) (RelD.ofInt _)⟩
  · cases hk
theorem od_max2 (hc : X.calm = true) : Call2 T X (.builtin "max") max2O := by
  intro pins s σ H x y v u Q I rx ry ⟨ι, bar, d, e, r, hb, hi, rd, re, hk, q⟩
  unfold max2O at hk
  split at hk
  · cases hk
    obtain rfl := rd.int
    obtain rfl := re.int
    exact call_max2 hc pins s σ H [_, _] [v, u] Q I (.cons rx (.cons ry .nil)) ⟨_, _, rfl, q _ _ (Same.refl H) (RelD.ofInt _)⟩
  · cases hk
end
end Z

namespace Z
open PySem PySem.Spec PyProof.Rows L2
set_option autoImplicit false

/-! ### statements -/
inductive SR where
  | nx (ρ : Env) (g : G)
  | rt (d : D) (g : G)
  | bk (ρ : Env) (g : G)
  | ct (ρ : Env) (g : G)
  | exc (x : Xc) (ρ : Env) (g : G)
  | bad
abbrev Sm := Env → G → SR
/-- the def's entry: the cells, the heap, what its callers own -/
structure Ent where
  ι : List Addr
  H : Hp
  av : Addr → Prop
  kd : List D
  kv : List V
structure StS (T : Wd) (E0 : Ent) (γ : Gho) (H : Hp) (ρ : Env) (σ : L2.St) (g : G) : Prop where
  st : StR T γ H ρ σ g
  ent : Stp E0.ι γ.ι E0.H H
  fav : γ.av = E0.av
  own0 : ∀ i a, γ.oa i = some a → E0.H a = none
  kept : RelDs T γ.ι γ.bar H E0.kd E0.kv
def SPost (T : Wd) (E0 : Ent) (W : WX) (D' : Ends) : SR → Prop
  | .nx ρ g => ∀ (γ : Gho) (σ : L2.St) (H : Hp), StS T E0 γ H ρ σ g → D'.nx σ H
  | .bk ρ g => ∀ (γ : Gho) (σ : L2.St) (H : Hp), StS T E0 γ H ρ σ g → D'.bk σ H
  | .ct ρ g => ∀ (γ : Gho) (σ : L2.St) (H : Hp), StS T E0 γ H ρ σ g → D'.ct σ H
  | .rt d g => ∀ (v : V) (γ : Gho) (H : Hp), γ.av = E0.av → (∀ i, γ.oa i = none) → Stp E0.ι γ.ι E0.H H → GR T γ.ι γ.bar H g → RelD T γ.ι γ.bar H d v → D'.rt v H
  | .exc x ρ g => ∀ (γ : Gho) (σ : L2.St) (H : Hp) (cls : Value) (dx : Option Addr), StS T E0 γ H ρ σ g → ExcR T γ.ι γ.bar H x cls dx → W cls dx σ H
  | .bad => False
def tS (T : Wd) (W : WX) (m : Sm) : TS := fun D' σ H => ∃ E0 γ ρ g, StS T E0 γ H ρ σ g ∧ SPost T E0 W D' (m ρ g)
abbrev SS (T : Wd) (W : WX) (X : Cx) (st : Stmt) (m : Sm) : Prop := PS X st (tS T W m)
abbrev SB (T : Wd) (W : WX) (X : Cx) (st : List Stmt) (m : Sm) : Prop := PSs X st (tS T W m)

/-! ### what they say -/
def sNx : Sm := fun ρ g => .nx ρ g
def sSeq (a b : Sm) : Sm := fun ρ g => match a ρ g with
  | .nx ρ' g' => b ρ' g'
  | r => r
def sRet (m : Ev) : Sm := fun ρ g => match m ρ g with
  | .ok d g' => .rt d g'
  | .exc x g' => .exc x ρ g'
  | .bad => .bad
def sRetN : Sm := fun _ g => .rt .non g
def sBk : Sm := fun ρ g => .bk ρ g
def sCt : Sm := fun ρ g => .ct ρ g
def sDrop (m : Ev) : Sm := fun ρ g => match m ρ g with
  | .ok _ g' => .nx ρ g'
  | .exc x g' => .exc x ρ g'
  | .bad => .bad
def sIf (c : EvB) (a b : Sm) : Sm := fun ρ g => match c ρ g with
  | .ok k g' => if k = true then a ρ g' else b ρ g'
  | .exc x g' => .exc x ρ g'
  | .bad => .bad
def sSet (i : Nat) (m : Ev) : Sm := fun ρ g => match m ρ g with
  | .ok d g' => .nx (ρ.set i (.val d)) g'
  | .exc x g' => .exc x ρ g'
  | .bad => .bad
def sOwn (i : Nat) (m : Ev) : Sm := fun ρ g => match m ρ g with
  | .ok d g' => .nx (ρ.set i (.own d)) g'
  | .exc x g' => .exc x ρ g'
  | .bad => .bad
/-- a name that owns gives up -/
def frz (ρ : Env) (i : Nat) : Env := match ρ[i]? with
  | some (.own d) => ρ.set i (.val d)
  | _ => ρ
def sFrz (i : Nat) (m : Sm) : Sm := fun ρ g => m (frz ρ i) g

/-! ### the frame changes -/
def Gho.drop (γ : Gho) (i : Nat) : Gho := { γ with oa := fun j => if j = i then none else γ.oa j }
theorem Gho.drop_bar {γ : Gho} {i : Nat} {a : Addr} (h : (γ.drop i).bar a) : γ.bar a := by
  rcases h with h | ⟨j, h⟩ | h
  · exact .inl h
  · have h : (if j = i then none else γ.oa j) = some a := h
    split at h
    · cases h
    · exact .inr (.inl ⟨j, h⟩)
  · exact .inr (.inr h)
theorem Gho.drop_oa {γ : Gho} {i j : Nat} {a : Addr} (h : (γ.drop i).oa j = some a) : j ≠ i ∧ γ.oa j = some a := by
  have h : (if j = i then none else γ.oa j) = some a := h
  split at h
  · cases h
  · rename_i n; exact ⟨n, h⟩
section
variable {T : Wd} {γ : Gho} {H : Hp} {ρ : Env} {σ : L2.St} {g : G} {E0 : Ent}
/-- slot i gets a value -/
theorem StR.setVal (R : StR T γ H ρ σ g) (i : Nat) {d : D} {v : V} (r : RelD T γ.ι γ.bar H d v) : StR T (γ.drop i) H (ρ.set i (.val d)) (σ.set i (some v)) g where
  len := by rw [List.length_set, List.length_set]; exact R.len
  vals := fun j e h => by
    by_cases hj : i = j
    · subst hj
      have hl : i < ρ.length := by
        have := (List.getElem?_eq_some_iff.mp h).1
        simpa using this
      rw [List.getElem?_set_self hl] at h
      cases h
      exact ⟨v, List.getElem?_set_self (by rw [R.len]; exact hl), r.fewer fun a h => Gho.drop_bar h⟩
    · rw [List.getElem?_set_ne hj] at h
      obtain ⟨u, e1, r1⟩ := R.vals j e h
      exact ⟨u, by rw [List.getElem?_set_ne hj]; exact e1, r1.fewer fun a h => Gho.drop_bar h⟩
  owns := fun j e h => by
    by_cases hj : i = j
    · subst hj
      have hl : i < ρ.length := by
        have := (List.getElem?_eq_some_iff.mp h).1
        simpa using this
      rw [List.getElem?_set_self hl] at h
      cases h
    · rw [List.getElem?_set_ne hj] at h
      obtain ⟨a, e1, e2, r1, m1⟩ := R.owns j e h
      exact ⟨a, by show (if j = i then none else γ.oa j) = some a; rw [if_neg (Ne.symm hj)]; exact e1, by rw [List.getElem?_set_ne hj]; exact e2, r1.fewer fun a h => Gho.drop_bar h, m1⟩
  oad := fun j a h => by
    obtain ⟨n, h⟩ := Gho.drop_oa h
    obtain ⟨e, q⟩ := R.oad j a h
    exact ⟨e, by rw [List.getElem?_set_ne (Ne.symm n)]; exact q⟩
  oinj := fun j k a h1 h2 => R.oinj j k a (Gho.drop_oa h1).2 (Gho.drop_oa h2).2
  oi := fun j a h => R.oi j a (Gho.drop_oa h).2
  avt := R.avt
  cells := R.cells.fewer fun a h => Gho.drop_bar h
  mks := fun j k h => by
    obtain ⟨n, h⟩ := mk_of_set (by simp) h
    obtain ⟨m, e1, e2, r⟩ := R.mks j k h
    exact ⟨m, e1, by rw [List.getElem?_set_ne n]; exact e2, r.fewer fun a h => Gho.drop_bar h⟩
theorem StS.setVal (S : StS T E0 γ H ρ σ g) (i : Nat) {d : D} {v : V} (r : RelD T γ.ι γ.bar H d v) : StS T E0 (γ.drop i) H (ρ.set i (.val d)) (σ.set i (some v)) g :=
  ⟨S.st.setVal i r, S.ent, S.fav, fun j a h => S.own0 j a (Gho.drop_oa h).2, S.kept.fewer fun a h => Gho.drop_bar h⟩
/-- slot i gives up what it owns -/
theorem StS.freeze (S : StS T E0 γ H ρ σ g) (i : Nat) : ∃ γ', StS T E0 γ' H (frz ρ i) σ g := by
  unfold frz
  split
  · rename_i d e
    obtain ⟨a, e1, e2, r, _⟩ := S.st.owns i d e
    refine ⟨γ.drop i, ?_⟩
    have nb : ¬ (γ.drop i).bar a := by
      rintro (h | ⟨j, h⟩ | h)
      · exact (S.st.oi i a e1).1 h
      · obtain ⟨n, h⟩ := Gho.drop_oa h
        exact n (S.st.oinj j i a h e1)
      · exact (S.st.oi i a e1).2 h
    have hl : i < ρ.length := (List.getElem?_eq_some_iff.mp e).1
    have hs : σ = σ.set i (some (.ref a)) := by
      apply List.ext_getElem?
      intro j
      by_cases hj : i = j
      · subst hj
        rw [List.getElem?_set_self (by rw [S.st.len]; exact hl), e2]
      · rw [List.getElem?_set_ne hj]
    have R := S.st
    refine ⟨⟨by rw [List.length_set]; exact R.len, fun j x h => ?_, fun j x h => ?_, fun j b h => ?_, fun j k b h1 h2 => R.oinj j k b (Gho.drop_oa h1).2 (Gho.drop_oa h2).2, fun j b h => R.oi j b (Gho.drop_oa h).2, R.avt, R.cells.fewer fun a h => Gho.drop_bar h, fun j k h => by
        obtain ⟨n, h⟩ := mk_of_set (by simp) h
        obtain ⟨m, e1, e2, r⟩ := R.mks j k h
        exact ⟨m, e1, e2, r.fewer fun a h => Gho.drop_bar h⟩⟩,
      S.ent, S.fav, fun j b h => S.own0 j b (Gho.drop_oa h).2, S.kept.fewer fun a h => Gho.drop_bar h⟩
    · by_cases hj : i = j
      · subst hj
        rw [List.getElem?_set_self hl] at h
        cases h
        exact ⟨_, e2, (r.fewer fun a h => Gho.drop_bar h).val nb⟩
      · rw [List.getElem?_set_ne hj] at h
        obtain ⟨u, e1, r1⟩ := R.vals j x h
        exact ⟨u, e1, r1.fewer fun a h => Gho.drop_bar h⟩
    · by_cases hj : i = j
      · subst hj
        rw [List.getElem?_set_self hl] at h
        cases h
      · rw [List.getElem?_set_ne hj] at h
        obtain ⟨b, q1, q2, r1, m1⟩ := R.owns j x h
        exact ⟨b, by show (if j = i then none else γ.oa j) = some b; rw [if_neg (Ne.symm hj)]; exact q1, q2, r1.fewer fun a h => Gho.drop_bar h, m1⟩
    · obtain ⟨n, h⟩ := Gho.drop_oa h
      obtain ⟨x, q⟩ := R.oad j b h
      exact ⟨x, by rw [List.getElem?_set_ne (Ne.symm n)]; exact q⟩
  · exact ⟨γ, S⟩
theorem StS.step {ι' : List Addr} {H' : Hp} {g' : G} (S : StS T E0 γ H ρ σ g) (s : Stp γ.ι ι' H H') (G' : GR T ι' (γ.to ι').bar H' g') : StS T E0 (γ.to ι') H' ρ σ g' :=
  ⟨S.st.step s G', S.ent.trans s, S.fav, S.own0, S.kept.keep s γ.bi (Gho.grows s)⟩
end

/-! ### rules -/
section
variable {T : Wd} {W : WX} {X : Cx} {st : Stmt} {rest : List Stmt} {a b : Sm} {e : Expr} {m : Ev} {pos : Pos}
theorem sb_nil : SB T W X [] sNx := PSs.imp pss_nil fun D' σ H ⟨E0, γ, ρ, g, S, p⟩ => p γ σ H S
theorem seq_imp {D' : Ends} {σ : L2.St} {H : Hp} (h : tS T W (sSeq a b) D' σ H) : tS T W a { D' with nx := tS T W b D' } σ H := by
  obtain ⟨E0, γ, ρ, g, S, p⟩ := h
  refine ⟨E0, γ, ρ, g, S, ?_⟩
  unfold sSeq at p
  revert p
  cases a ρ g with
  | nx ρ' g' => exact fun p γ' σ' H' S' => ⟨E0, γ', ρ', g', S', p⟩
  | rt d g' => exact fun p => p
  | bk ρ' g' => exact fun p => p
  | ct ρ' g' => exact fun p => p
  | exc x ρ' g' => exact fun p => p
  | bad => exact fun p => p
theorem sb_cons (h1 : SS T W X st a) (h2 : SB T W X rest b) : SB T W X (st :: rest) (sSeq a b) := PSs.imp (pss_cons h1 h2) fun _ _ _ h => seq_imp h
theorem sb_one (h1 : SS T W X st a) : SB T W X [st] a := pss_one h1
theorem ss_pass : SS T W X (.Pass pos) sNx := PS.imp ps_pass fun D' σ H ⟨E0, γ, ρ, g, S, p⟩ => p γ σ H S
theorem ss_break : SS T W X (.Break pos) sBk := PS.imp ps_break fun D' σ H ⟨E0, γ, ρ, g, S, p⟩ => p γ σ H S
theorem ss_continue : SS T W X (.Continue pos) sCt := PS.imp ps_continue fun D' σ H ⟨E0, γ, ρ, g, S, p⟩ => p γ σ H S
theorem ss_retN : SS T W X (.Return none pos) sRetN := PS.imp ps_retN fun D' σ H ⟨E0, γ, ρ, g, S, p⟩ => by
  refine p .non { γ with oa := fun _ => none } H S.fav (fun _ => rfl) S.ent (S.st.cells.fewer ?_) RelD.ofNon
  rintro a (h | ⟨i, h⟩ | h)
  · exact .inl h
  · cases h
  · exact .inr (.inr h)
theorem Gho.bare_bar {γ : Gho} {a : Addr} (h : ({ γ with oa := fun _ => none } : Gho).bar a) : γ.bar a := by
  rcases h with h | ⟨i, h⟩ | h
  · exact .inl h
  · cases h
  · exact .inr (.inr h)
theorem ss_ret (he : EE T W X e m) : SS T W X (.Return (some e) pos) (sRet m) := PS.imp (ps_ret he) fun D' σ H ⟨E0, γ, ρ, g, S, p⟩ => by
  refine ⟨γ, ρ, g, S.st, ?_⟩
  unfold sRet at p
  revert p
  cases m ρ g with
  | ok d g' =>
    intro p v ι' H' s1 G1 r1
    exact p v { (γ.to ι') with oa := fun _ => none } H' S.fav (fun _ => rfl) (S.ent.trans s1) (G1.fewer fun a h => Gho.bare_bar h) (r1.fewer fun a h => Gho.bare_bar h)
  | exc x g' => exact fun p cls dx ι' H' s1 G1 r1 => p (γ.to ι') σ H' cls dx (S.step s1 G1) r1
  | bad => exact fun p => p
theorem ss_expr (he : EW T W X e m) (hs : swapsWith e none pos.line X.env = pure false := by rfl) : SS T W X (.Expr e pos) (sDrop m) := PS.imp (ps_expr he hs) fun D' σ H ⟨E0, γ, ρ, g, S, p⟩ => by
  refine ⟨γ, ρ, g, S.st, ?_⟩
  unfold sDrop at p
  revert p
  cases m ρ g with
  | ok d g' => exact fun p v ι' H' s1 G1 r1 => p (γ.to ι') σ H' (S.step s1 G1)
  | exc x g' => exact fun p cls dx ι' H' s1 G1 r1 => p (γ.to ι') σ H' cls dx (S.step s1 G1) r1
  | bad => exact fun p => p
theorem ss_if {c : Expr} {mc : EvB} {as bs : List Stmt} (hc : EB T W X c mc) (ha : SB T W X as a) (hb : SB T W X bs b) : SS T W X (.If c as bs pos) (sIf mc a b) := PS.imp (ps_if hc ha hb) fun D' σ H ⟨E0, γ, ρ, g, S, p⟩ => by
  refine ⟨γ, ρ, g, S.st, ?_⟩
  unfold sIf at p
  revert p
  cases mc ρ g with
  | ok k g' =>
    intro p v ι' H' s1 G1 r1
    subst r1
    have S1 := S.step s1 G1
    cases v with
    | true => exact ⟨E0, _, ρ, g', S1, p⟩
    | false => exact ⟨E0, _, ρ, g', S1, p⟩
  | exc x g' => exact fun p cls dx ι' H' s1 G1 r1 => p (γ.to ι') σ H' cls dx (S.step s1 G1) r1
  | bad => exact fun p => p
theorem ss_frz (i : Nat) (h : SS T W X st a) : SS T W X st (sFrz i a) := PS.imp h fun D' σ H ⟨E0, γ, ρ, g, S, p⟩ => by
  obtain ⟨γ', S'⟩ := S.freeze i
  exact ⟨E0, γ', frz ρ i, g, S', p⟩
/-- name = value -/
theorem set_imp {i : Nat} {D' : Ends} {σ : L2.St} {H : Hp} (h : tS T W (sSet i m) D' σ H) : tAsg (tX T W (rD T) m) (gName i) D' σ H := by
  obtain ⟨E0, γ, ρ, g, S, p⟩ := h
  refine ⟨γ, ρ, g, S.st, ?_⟩
  unfold sSet at p
  revert p
  cases m ρ g with
  | ok d g' => exact fun p v ι' H' s1 G1 r1 => p _ _ H' ((S.step s1 G1).setVal i r1)
  | exc x g' => exact fun p cls dx ι' H' s1 G1 r1 => p (γ.to ι') σ H' cls dx (S.step s1 G1) r1
  | bad => exact fun p => p
theorem ss_set (i : Nat) {x : Str} {pos' : Pos} (hN : X.N.Nodup) (he : EE T W X e m) (hi : X.N[i]? = some x := by rfl) (hx : Loc X.env.scope x := by first | exact .inl rfl | exact .inr rfl) (hs : swapsWith e (some (.Name x pos')) pos.line X.env = pure false := by rfl)
    (hf : X.fn x = true ∨ X.env.scope.names.lookup x = some .local := by first | exact .inl rfl | exact .inr rfl | assumption) : SS T W X (.Assign [.Name x pos'] e pos) (sSet i m) := PS.imp (ps_set hN hi hx he hs hf) fun _ _ _ h => set_imp h
end
end Z

namespace Z
open PySem PySem.Spec PyProof.Rows L2
set_option autoImplicit false

/-! ### targets -/
structure Less (γ' γ : Gho) : Prop where
  ι : γ'.ι = γ.ι
  av : γ'.av = γ.av
  oa : ∀ i a, γ'.oa i = some a → γ.oa i = some a
theorem Less.refl {γ : Gho} : Less γ γ := ⟨rfl, rfl, fun _ _ h => h⟩
theorem Less.trans {γ1 γ2 γ3 : Gho} (a : Less γ1 γ2) (b : Less γ2 γ3) : Less γ1 γ3 := ⟨a.ι.trans b.ι, a.av.trans b.av, fun i x h => b.oa i x (a.oa i x h)⟩
theorem Less.bar {γ' γ : Gho} (l : Less γ' γ) : ∀ a, γ'.bar a → γ.bar a := fun a h => by
  rcases h with h | ⟨i, h⟩ | h
  · exact .inl (l.ι ▸ h)
  · exact .inr (.inl ⟨i, l.oa i a h⟩)
  · exact .inr (.inr (l.av ▸ h))
theorem Less.drop {γ : Gho} {i : Nat} : Less (γ.drop i) γ := ⟨rfl, rfl, fun _ _ h => (Gho.drop_oa h).2⟩
theorem Less.rel {T : Wd} {H : Hp} {γ' γ : Gho} (l : Less γ' γ) {d : D} {v : V} (r : RelD T γ.ι γ.bar H d v) : RelD T γ'.ι γ'.bar H d v := by
  rw [l.ι]; exact r.fewer l.bar
theorem Less.rels {T : Wd} {H : Hp} {γ' γ : Gho} (l : Less γ' γ) {d : List D} {v : List V} (r : RelDs T γ.ι γ.bar H d v) : RelDs T γ'.ι γ'.bar H d v := by
  rw [l.ι]; exact r.fewer l.bar
structure Only (sl : List Nat) (γ γ' : Gho) (σ σ' : L2.St) : Prop where
  len : σ'.length = σ.length
  at_ : ∀ j, j ∉ sl → σ'[j]? = σ[j]?
  oa : ∀ j a, j ∉ sl → γ.oa j = some a → γ'.oa j = some a
abbrev Tg := D → Env → Option Env
abbrev Tgs := List D → Env → Option Env
def tG (T : Wd) (sl : List Nat) (m : Tg) : TG := fun v σ H Q => ∃ γ ρ g d ρ', StR T γ H ρ σ g ∧ RelD T γ.ι γ.bar H d v ∧ m d ρ = some ρ' ∧
  ∀ γ' σ' H', Same H H' → StR T γ' H' ρ' σ' g → Less γ' γ → Only sl γ γ' σ σ' → Q σ' H'
def tGs (T : Wd) (sl : List Nat) (m : Tgs) : TGs := fun v σ H Q => ∃ γ ρ g d ρ', StR T γ H ρ σ g ∧ RelDs T γ.ι γ.bar H d v ∧ m d ρ = some ρ' ∧
  ∀ γ' σ' H', Same H H' → StR T γ' H' ρ' σ' g → Less γ' γ → Only sl γ γ' σ σ' → Q σ' H'
abbrev GT (T : Wd) (X : Cx) (e : Expr) (sl : List Nat) (m : Tg) : Prop := PG X e (tG T sl m)
abbrev GTs (T : Wd) (X : Cx) (e : List Expr) (sl : List Nat) (m : Tgs) : Prop := PGs X e (tGs T sl m)
def gN (i : Nat) : Tg := fun d ρ => some (ρ.set i (.val d))
def gNl : Tgs := fun ds ρ => match ds with
  | [] => some ρ
  | _ :: _ => none
def gCn (t : Tg) (u : Tgs) : Tgs := fun ds ρ => match ds with
  | [] => none
  | d :: ds => match t d ρ with
    | some ρ' => u ds ρ'
    | none => none
def gTp (n : Nat) (u : Tgs) : Tg := fun d ρ => match d with
  | .tup ds => if ds.length = n then u ds ρ else none
  | .lst ds => if ds.length = n then u ds ρ else none
  | _ => none
theorem PG.imp {X : Cx} {e : Expr} {t t' : TG} (h : PG X e t) (i : ∀ v σ H Q, t' v σ H Q → t v σ H Q) : PG X e t' := ⟨fun pins s σ H v u Q I r q => h.run pins s σ H v u Q I r (i v σ H Q q)⟩
theorem PGs.imp {X : Cx} {e : List Expr} {t t' : TGs} (h : PGs X e t) (i : ∀ v σ H Q, t' v σ H Q → t v σ H Q) : PGs X e t' := ⟨fun pins s σ H v u Q I r q => h.run pins s σ H v u Q I r (i v σ H Q q)⟩
section
variable {T : Wd} {X : Cx} {e : Expr} {es : List Expr} {pos : Pos} {t : Tg} {u : Tgs} {sl sl' : List Nat}
theorem gt_name (i : Nat) {x : Str} (hN : X.N.Nodup) (hi : X.N[i]? = some x := by rfl) (hx : Loc X.env.scope x := by first | exact .inl rfl | exact .inr rfl)
    (hf : X.fn x = true ∨ X.env.scope.names.lookup x = some .local := by first | exact .inl rfl | exact .inr rfl | assumption) : GT T X (.Name x pos) [i] (gN i) := PG.imp (pg_name hN hi hx hf) fun v σ H Q ⟨γ, ρ, g, d, ρ', R, r, e, q⟩ => by
  cases e
  exact q _ _ H (Same.refl H) (R.setVal i r) Less.drop ⟨by simp, fun j hj => List.getElem?_set_ne (fun z => hj (by simp [z])), fun j a hj h => by show (if j = i then none else γ.oa j) = _; rw [if_neg fun z => hj (by simp [z])]; exact h⟩
theorem gts_nil : GTs T X [] [] gNl := PGs.imp pgs_nil fun v σ H Q ⟨γ, ρ, g, d, ρ', R, r, e, q⟩ => by
  cases d with
  | nil =>
    cases e
    have : v = [] := by simpa [RelDs] using r
    exact ⟨this, q _ _ H (Same.refl H) R .refl ⟨rfl, fun _ _ => rfl, fun _ _ _ h => h⟩⟩
  | cons _ _ => cases e
theorem gts_cons (h1 : GT T X e sl t) (h2 : GTs T X es sl' u) (hs : (assignEach (e :: es) X.env).map (·.2) = assign e X.env :: (assignEach es X.env).map (·.2) := by rfl) : GTs T X (e :: es) (sl ++ sl') (gCn t u) := PGs.imp (pgs_cons h1 h2 hs) fun v σ H Q ⟨γ, ρ, g, d, ρ', R, r, e, q⟩ => by
  cases d with
  | nil => cases e
  | cons d ds =>
    obtain ⟨x, xs, rfl, r1, r2⟩ := r.uncons
    simp only [gCn] at e
    split at e
    · rename_i ρ1 e1
      refine ⟨x, xs, rfl, γ, ρ, g, d, ρ1, R, r1, e1, fun γ1 σ1 H1 m1 R1 l1 k1 => ?_⟩
      refine ⟨γ1, ρ1, g, ds, ρ', R1, l1.rels (r2.keep (.same m1) γ.bi fun a h => .inl h), e, fun γ2 σ2 H2 m2 R2 l2 k2 => ?_⟩
      refine q _ _ H2 (fun a o h => m2 a o (m1 a o h)) R2 (l2.trans l1) ⟨k2.len.trans k1.len, fun j hj => ?_, fun j a hj h => ?_⟩
      · rw [k2.at_ j fun z => hj (List.mem_append_right _ z), k1.at_ j fun z => hj (List.mem_append_left _ z)]
      · exact k2.oa j a (fun z => hj (List.mem_append_right _ z)) (k1.oa j a (fun z => hj (List.mem_append_left _ z)) h)
    · cases e
theorem gt_tup {k n : Nat} (hc : X.calm = true) (hK : X.K = T.K) (h : GTs T X es sl u) (hn : (assignEach es X.env).length = n := by rfl) (hst : (assignEach es X.env).findIdx? (·.1) = none := by rfl) : GT T X (.Tuple es k pos) sl (gTp n u) := by
  refine ⟨fun pins s σ H v w Q I rv q => ?_⟩
  obtain ⟨γ, ρ, g, d, ρ', R, r, e, q⟩ := q
  unfold gTp at e
  split at e
  · rename_i ds
    split at e
    · rename_i hl
      simp only [RelD] at r
      obtain ⟨a, vs, rfl, sq, rs⟩ := r
      refine (pg_tup hc h hn hst).run pins s σ H _ w Q I rv ⟨a, vs, rfl, hK ▸ sq, by rw [rs.length, hl], γ, ρ, g, ds, ρ', R, rs, e, q⟩
    · cases e
  · rename_i ds
    split at e
    · rename_i hl
      simp only [RelD] at r
      obtain ⟨a, vs, rfl, sq, _, rs⟩ := r
      refine (pg_unl hc h hn hst).run pins s σ H _ w Q I rv ⟨a, vs, rfl, .inl sq, by rw [rs.length, hl], γ, ρ, g, ds, ρ', R, rs, e, q⟩
    · cases e
  · cases e
end

/-! ### what is walked -/
abbrev Kp := List Addr → (Addr → Prop) → Hp → Prop
structure ItOk (T : Wd) (J : It) (ds : List D) (K : Kp) : Prop where
  stop : ∀ ι bar H i, K ι bar H → ds.length ≤ i → J.stop i H
  go : ∀ ι bar H i d, K ι bar H → ds[i]? = some d → J.go i H
  yld : ∀ ι bar H i d x H', (∀ a ∈ ι, bar a) → K ι bar H → ds[i]? = some d → J.yld i H x H' → Same H H' ∧ RelD T ι bar H' d x
def Kept (T : Wd) (K : Kp) : Prop := ∃ kd kv, ∀ ι bar H, RelDs T ι bar H kd kv ↔ K ι bar H
def Stays (K : Kp) : Prop := ∀ ι ι' bar bar' H H', Stp ι ι' H H' → (∀ a ∈ ι, bar a) → Grows H bar bar' → K ι bar H → K ι' bar' H'
theorem Kept.stays {T : Wd} {K : Kp} (h : Kept T K) : Stays K := fun ι ι' bar bar' H H' s hi hb k => by
  obtain ⟨kd, kv, e⟩ := h
  exact (e _ _ _).mp (((e _ _ _).mpr k).keep s hi hb)
abbrev EvI := Env → G → Res (List D)
def PostI (T : Wd) (γ : Gho) (H : Hp) (σ : L2.St) (W : WX) (C : Kp → Prop) (R : It → Hp → Prop) : Res (List D) → Prop
  | .ok ds g' => ∀ J K ι' H', C K → ItOk T J ds K → Stp γ.ι ι' H H' → GR T ι' (γ.to ι').bar H' g' → K ι' (γ.to ι').bar H' → R J H'
  | .exc x g' => ∀ cls dx ι' H', Stp γ.ι ι' H H' → GR T ι' (γ.to ι').bar H' g' → ExcR T ι' (γ.to ι').bar H' x cls dx → W cls dx σ H'
  | .bad => False
def tI (T : Wd) (W : WX) (C : Kp → Prop) (m : EvI) : TI := fun σ H R => ∃ γ ρ g, StR T γ H ρ σ g ∧ PostI T γ H σ W C R (m ρ g)
abbrev EI (T : Wd) (W : WX) (X : Cx) (tg e : Expr) (m : EvI) : Prop := PI X tg e (tI T W (Kept T) m)
abbrev EIw (T : Wd) (W : WX) (X : Cx) (tg e : Expr) (m : EvI) : Prop := PI X tg e (tI T W Stays m)
theorem PI.imp {X : Cx} {tg e : Expr} {t t' : TI} (h : PI X tg e t) (i : ∀ σ H R, t' σ H R → t σ H R) : PI X tg e t' := ⟨fun pins s σ H R I q => h.run pins s σ H R I (i σ H R q)⟩
theorem EI.weak {T : Wd} {W : WX} {X : Cx} {tg e : Expr} {m : EvI} (h : EI T W X tg e m) : EIw T W X tg e m := PI.imp h fun σ H R ⟨γ, ρ, g, S, p⟩ => ⟨γ, ρ, g, S, by
  revert p
  cases m ρ g with
  | ok ds g' => exact fun p J K ι' H' c => p J K ι' H' c.stays
  | exc x g' => exact fun p => p
  | bad => exact fun p => p⟩
/-- the items of a value -/
def itemsD : D → Option (List D)
  | .tup ds => some ds
  | .lst ds => some ds
  | .str x => some (x.cps.toList.map fun c => .str ⟨#[c]⟩)
  | _ => none
def iV (m : Ev) : EvI := fun ρ g => match m ρ g with
  | .ok d g' => match itemsD d with
    | some ds => .ok ds g'
    | none => .bad
  | .exc x g' => .exc x g'
  | .bad => .bad
section
variable {T : Wd} {K : PySem.W.Frag} {a : Addr}
theorem it_tup (T : Wd) (a : Addr) (ds : List D) : ItOk T (Itt T.K a) ds (fun ι bar H => RelDs T ι bar H [.tup ds] [.ref a]) := by
  have key : ∀ ι bar H, RelDs T ι bar H [.tup ds] [.ref a] → ∃ vs, SqT T.K H a vs ∧ RelDs T ι bar H ds vs := fun ι bar H h => by
    obtain ⟨v, r, e, h1, _⟩ := h.uncons
    cases e
    simp only [RelD] at h1
    obtain ⟨b, vs, e, q, rs⟩ := h1
    cases e
    exact ⟨vs, q, rs⟩
  refine ⟨fun ι bar H i k hl => ?_, fun ι bar H i d k e => ?_, fun ι bar H i d x H' hi k e y => ?_⟩
  · obtain ⟨vs, q, rs⟩ := key _ _ _ k
    exact ⟨vs, q, by rw [rs.length]; exact hl⟩
  · obtain ⟨vs, q, rs⟩ := key _ _ _ k
    obtain ⟨v, e1, _⟩ := rs.get e
    exact ⟨vs, v, q, e1⟩
  · obtain ⟨vs, q, rs⟩ := key _ _ _ k
    obtain ⟨v, e1, r1⟩ := rs.get e
    obtain ⟨rfl, y⟩ := y
    have := y vs q
    rw [e1] at this; cases this
    exact ⟨fun _ _ h => h, r1⟩
theorem it_lst (T : Wd) (a : Addr) (ds : List D) {Q : Kp} (key : ∀ ι bar H, Q ι bar H → ∃ vs, Rd H a (.lst vs) ∧ RelDs T ι bar H ds vs) : ItOk T (Itl T.K a) ds Q := by
  refine ⟨fun ι bar H i k hl => ?_, fun ι bar H i d k e => ?_, fun ι bar H i d x H' hi k e y => ?_⟩
  · obtain ⟨vs, q, rs⟩ := key _ _ _ k
    exact ⟨vs, .inl q, by rw [rs.length]; exact hl⟩
  · obtain ⟨vs, q, rs⟩ := key _ _ _ k
    obtain ⟨v, e1, _⟩ := rs.get e
    exact ⟨vs, v, .inl q, e1⟩
  · obtain ⟨vs, q, rs⟩ := key _ _ _ k
    obtain ⟨v, e1, r1⟩ := rs.get e
    obtain ⟨rfl, y⟩ := y
    have := y vs (.inl q)
    rw [e1] at this; cases this
    exact ⟨fun _ _ h => h, r1⟩
theorem it_str (T : Wd) (x : Str) : ItOk T (L2.Its x) (x.cps.toList.map fun c => .str ⟨#[c]⟩) (fun ι bar H => RelDs T ι bar H [] []) := by
  refine ⟨fun ι bar H i k hl => ?_, fun ι bar H i d k e => ?_, fun ι bar H i d v H' hi k e y => ?_⟩
  · simpa [L2.Its] using hl
  · have := (List.getElem?_eq_some_iff.mp e).1
    simpa [L2.Its] using this
  · obtain ⟨rfl, c, e1, rfl⟩ := y
    refine ⟨fun _ _ h => h, ?_⟩
    rw [List.getElem?_map, Array.getElem?_toList, e1] at e
    cases e
    simp [RelD]
end
theorem lst_key {T : Wd} {a : Addr} {ds : List D} : ∀ ι bar H, RelDs T ι bar H [.lst ds] [.ref a] → ∃ vs, Rd H a (.lst vs) ∧ RelDs T ι bar H ds vs := fun ι bar H h => by
  obtain ⟨v, r, e, h1, _⟩ := h.uncons
  cases e
  simp only [RelD] at h1
  obtain ⟨b, vs, e, q, _, rs⟩ := h1
  cases e
  exact ⟨vs, q, rs⟩
section
variable {T : Wd} {W : WX} {X : Cx} {tg e : Expr} {m : Ev}
/-- over a value -/
theorem ei_v (ok : Ok T X) (he : EE T W X e m) : EI T W X tg e (iV m) := by
  refine ⟨fun pins s σ H R I q => ?_⟩
  obtain ⟨γ, ρ, g, S, p⟩ := q
  unfold iV at p
  cases hm : m ρ g with
  | bad => rw [hm] at p; exact p.elim
  | exc x g' =>
    rw [hm] at p
    refine (pi_tup he).run pins s σ H R I ⟨γ, ρ, g, S, ?_⟩
    rw [hm]
    exact p
  | ok d g' =>
    rw [hm] at p
    cases d with
    | tup ds =>
      refine (pi_tup he).run pins s σ H R I ⟨γ, ρ, g, S, ?_⟩
      rw [hm]
      intro v ι' H' s1 G1 r1
      obtain ⟨a, vs, rfl, sq, rs⟩ : ∃ a vs, v = .ref a ∧ SqT T.K H' a vs ∧ RelDs T ι' (γ.to ι').bar H' ds vs := by simpa only [RelD] using r1
      refine ⟨a, rfl, ⟨vs, ok.K ▸ sq⟩, ?_⟩
      rw [ok.K]
      exact p _ _ _ _ ⟨[.tup ds], [.ref a], fun _ _ _ => Iff.rfl⟩ (it_tup T a ds) s1 G1 (.cons r1 .nil)
    | lst ds =>
      refine (pi_list he).run pins s σ H R I ⟨γ, ρ, g, S, ?_⟩
      rw [hm]
      intro v ι' H' s1 G1 r1
      obtain ⟨a, vs, rfl, sq, nb, rs⟩ : ∃ a vs, v = .ref a ∧ Rd H' a (.lst vs) ∧ ¬ (γ.to ι').bar a ∧ RelDs T ι' (γ.to ι').bar H' ds vs := by simpa only [RelD] using r1
      refine ⟨a, rfl, ⟨vs, .inl sq⟩, ?_⟩
      rw [ok.K]
      exact p _ _ _ _ ⟨[.lst ds], [.ref a], fun _ _ _ => Iff.rfl⟩ (it_lst T a ds lst_key) s1 G1 (.cons r1 .nil)
    | str x =>
      refine (pi_str he).run pins s σ H R I ⟨γ, ρ, g, S, ?_⟩
      rw [hm]
      intro v ι' H' s1 G1 r1
      have r2 : v = .str x := by simpa only [RelD] using r1
      refine ⟨x, r2, ?_⟩
      exact p _ _ _ _ ⟨[], [], fun _ _ _ => Iff.rfl⟩ (it_str T x) s1 G1 .nil
    | _ => exact p.elim
/-- over a value that is only looked at: a list of one's own -/
theorem ei_w (ok : Ok T X) (he : EW T W X e m) : EIw T W X tg e (iV m) := by
  refine ⟨fun pins s σ H R I q => ?_⟩
  obtain ⟨γ, ρ, g, S, p⟩ := q
  unfold iV at p
  cases hm : m ρ g with
  | bad => rw [hm] at p; exact p.elim
  | exc x g' =>
    rw [hm] at p
    refine (pi_tup he).run pins s σ H R I ⟨γ, ρ, g, S, ?_⟩
    rw [hm]
    exact p
  | ok d g' =>
    rw [hm] at p
    cases d with
    | tup ds =>
      refine (pi_tup he).run pins s σ H R I ⟨γ, ρ, g, S, ?_⟩
      rw [hm]
      intro v ι' H' s1 G1 r1
      rcases r1 with r1 | ⟨_, _, _, r1⟩
      · obtain ⟨a, vs, rfl, sq, rs⟩ : ∃ a vs, v = .ref a ∧ SqT T.K H' a vs ∧ RelDs T ι' (γ.to ι').bar H' ds vs := by simpa only [RelD] using r1
        refine ⟨a, rfl, ⟨vs, ok.K ▸ sq⟩, ?_⟩
        rw [ok.K]
        exact p _ _ _ _ (Kept.stays (T := T) ⟨[.tup ds], [.ref a], fun _ _ _ => Iff.rfl⟩) (it_tup T a ds) s1 G1 (.cons r1 .nil)
      · exact r1.elim
    | lst ds =>
      refine (pi_list he).run pins s σ H R I ⟨γ, ρ, g, S, ?_⟩
      rw [hm]
      intro v ι' H' s1 G1 r1
      rcases r1 with r1 | ⟨a, rfl, na, r1⟩
      · obtain ⟨a, vs, rfl, sq, nb, rs⟩ : ∃ a vs, v = .ref a ∧ Rd H' a (.lst vs) ∧ ¬ (γ.to ι').bar a ∧ RelDs T ι' (γ.to ι').bar H' ds vs := by simpa only [RelD] using r1
        refine ⟨a, rfl, ⟨vs, .inl sq⟩, ?_⟩
        rw [ok.K]
        exact p _ _ _ _ (Kept.stays (T := T) ⟨[.lst ds], [.ref a], fun _ _ _ => Iff.rfl⟩) (it_lst T a ds lst_key) s1 G1 (.cons r1 .nil)
      · obtain ⟨vs, sq, rs⟩ := r1
        refine ⟨a, rfl, ⟨vs, .inl sq⟩, ?_⟩
        rw [ok.K]
        refine p _ (fun ι bar H => a ∉ ι ∧ RelC T ι bar H (.lst ds) a) _ _ ?_ (it_lst T a ds fun ι bar H k => k.2) s1 G1 ⟨na, vs, sq, rs⟩
        intro ι ι' bar bar' H H' s hi hb k
        refine ⟨fun z => ?_, k.2.keep s hi hb k.1⟩
        obtain ⟨m, e1, f⟩ := s.pre
        rw [e1, List.mem_append] at z
        rcases z with z | z
        · exact k.1 z
        · exact k.2.tracked (f a z)
    | str x =>
      refine (pi_str he).run pins s σ H R I ⟨γ, ρ, g, S, ?_⟩
      rw [hm]
      intro v ι' H' s1 G1 r1
      rcases r1 with r1 | ⟨_, _, _, r1⟩
      · have r2 : v = .str x := by simpa only [RelD] using r1
        refine ⟨x, r2, ?_⟩
        exact p _ _ _ _ (Kept.stays (T := T) ⟨[], [], fun _ _ _ => Iff.rfl⟩) (it_str T x) s1 G1 .nil
      · exact r1.elim
    | _ => exact p.elim
end
/-! ### range -/
def rngD (lo : Int) (n : Nat) : List D := (List.range n).map fun (i : Nat) => .int (lo + (i : Int))
def iR1 (m : EvL) : EvI := fun ρ g => match m ρ g with
  | .ok [.int j] g' => if -(2 ^ 62) ≤ j ∧ j < 2 ^ 62 then .ok (rngD 0 j.toNat) g' else .bad
  | .exc x g' => .exc x g'
  | _ => .bad
def iR2 (m : EvL) : EvI := fun ρ g => match m ρ g with
  | .ok [.int i, .int j] g' => if -(2 ^ 62) ≤ i ∧ i < 2 ^ 62 ∧ -(2 ^ 62) ≤ j ∧ j < 2 ^ 62 then .ok (rngD i (j - i).toNat) g' else .bad
  | .exc x g' => .exc x g'
  | _ => .bad
theorem it_rng (T : Wd) (lo : Int) (n : Nat) : ItOk T (L2.Itr lo n) (rngD lo n) (fun ι bar H => RelDs T ι bar H [] []) := by
  refine ⟨fun ι bar H i k hl => ?_, fun ι bar H i d k e => ?_, fun ι bar H i d v H' hi k e y => ?_⟩
  · simpa [L2.Itr, rngD] using hl
  · have := (List.getElem?_eq_some_iff.mp e).1
    simpa [L2.Itr, rngD] using this
  · obtain ⟨rfl, rfl⟩ := y
    refine ⟨fun _ _ h => h, ?_⟩
    unfold rngD at e
    rw [List.getElem?_map] at e
    cases q : (List.range n)[i]? with
    | none => rw [q] at e; cases e
    | some j =>
      rw [q] at e
      obtain ⟨hl, q2⟩ := List.getElem?_eq_some_iff.mp q
      rw [List.getElem_range] at q2
      subst q2
      cases e
      simp [RelD]
theorem RelDs.one {T : Wd} {ι : List Addr} {bar : Addr → Prop} {H : Hp} {d : D} {vs : List V} (h : RelDs T ι bar H [d] vs) : ∃ v, vs = [v] ∧ RelD T ι bar H d v := by
  obtain ⟨v, r, rfl, h1, h2⟩ := h.uncons
  have : r = [] := by simpa [RelDs] using h2
  subst this
  exact ⟨v, rfl, h1⟩
section
variable {T : Wd} {W : WX} {X : Cx} {tg a b : Expr} {m : EvL} {p pos : Pos}
theorem ei_range1 (hg : Gl X "range") (hm : X.mg "range" = none) (ha : EAs T W X [a] m) (hs : starEach [a] X.env = [(false, eval a X.env)] := by rfl) : EI T W X tg (.Call (.Name "range" p) [a] [] pos) (iR1 m) := PI.imp (pi_range1 hg hm ha hs) fun σ H R ⟨γ, ρ, g, S, q⟩ => by
  refine ⟨γ, ρ, g, S, ?_⟩
  unfold iR1 at q
  revert q
  split
  · rename_i j g' e
    rw [e]
    split
    · rename_i hb
      intro q v ι' H' s1 G1 r1
      obtain ⟨x, rfl, r2⟩ := RelDs.one r1
      have r3 : x = .int j := by simpa only [RelD] using r2
      exact ⟨j, by rw [r3], hb.1, hb.2, q _ _ _ _ ⟨[], [], fun _ _ _ => Iff.rfl⟩ (it_rng T 0 j.toNat) s1 G1 .nil⟩
    · exact fun q => q.elim
  · rename_i x g' e
    rw [e]
    exact fun q => q
  · exact fun q => q.elim
theorem ei_range2 (hg : Gl X "range") (hm : X.mg "range" = none) (ha : EAs T W X [a, b] m) (hs : starEach [a, b] X.env = [(false, eval a X.env), (false, eval b X.env)] := by rfl) (hs2 : starEach [b] X.env = [(false, eval b X.env)] := by rfl) : EI T W X tg (.Call (.Name "range" p) [a, b] [] pos) (iR2 m) := PI.imp (pi_range2 hg hm ha hs hs2) fun σ H R ⟨γ, ρ, g, S, q⟩ => by
  refine ⟨γ, ρ, g, S, ?_⟩
  unfold iR2 at q
  revert q
  split
  · rename_i i j g' e
    rw [e]
    split
    · rename_i hb
      intro q v ι' H' s1 G1 r1
      obtain ⟨x, r, rfl, r2, r3⟩ := r1.uncons
      obtain ⟨y, rfl, r4⟩ := RelDs.one r3
      have r2 : x = .int i := by simpa only [RelD] using r2
      have r3 : y = .int j := by simpa only [RelD] using r4
      exact ⟨i, j, by rw [r2, r3], hb, q _ _ _ _ ⟨[], [], fun _ _ _ => Iff.rfl⟩ (it_rng T i (j - i).toNat) s1 G1 .nil⟩
    · exact fun q => q.elim
  · rename_i x g' e
    rw [e]
    exact fun q => q
  · exact fun q => q.elim
end
/-! ### for -/
def forL (t : Tg) (b : Sm) : List D → Env → G → SR
  | [], ρ, g => .nx ρ g
  | d :: ds, ρ, g => match t d ρ with
    | none => .bad
    | some ρ1 => match b ρ1 g with
      | .nx ρ2 g2 => forL t b ds ρ2 g2
      | .ct ρ2 g2 => forL t b ds ρ2 g2
      | .bk ρ2 g2 => .nx ρ2 g2
      | r => r
def sFor (mi : EvI) (t : Tg) (b : Sm) : Sm := fun ρ g => match mi ρ g with
  | .ok ds g' => forL t b ds ρ g'
  | .exc x g' => .exc x ρ g'
  | .bad => .bad
def Ent.more (E : Ent) (kd : List D) (kv : List V) : Ent := { E with kd := kd ++ E.kd, kv := kv ++ E.kv }
theorem StS.more {T : Wd} {E0 : Ent} {γ : Gho} {H : Hp} {ρ : Env} {σ : L2.St} {g : G} {kd : List D} {kv : List V} (S : StS T E0 γ H ρ σ g) (k : RelDs T γ.ι γ.bar H kd kv) : StS T (E0.more kd kv) γ H ρ σ g :=
  ⟨S.st, S.ent, S.fav, S.own0, k.append S.kept⟩
theorem RelDs.split {T : Wd} {ι : List Addr} {bar : Addr → Prop} {H : Hp} : ∀ {kd kd' : List D} {kv kv' : List V}, kd.length = kv.length → RelDs T ι bar H (kd ++ kd') (kv ++ kv') → RelDs T ι bar H kd kv ∧ RelDs T ι bar H kd' kv'
  | [], kd', [], kv', _, h => ⟨.nil, h⟩
  | [], _, _ :: _, _, e, _ => by simp at e
  | _ :: _, _, [], _, e, _ => by simp at e
  | d :: kd, kd', v :: kv, kv', e, h => by
    obtain ⟨x, r, e1, h1, h2⟩ := RelDs.uncons h
    cases e1
    obtain ⟨a, b⟩ := RelDs.split (by simpa using e) h2
    exact ⟨.cons h1 a, b⟩
theorem StS.less {T : Wd} {E0 : Ent} {γ : Gho} {H : Hp} {ρ : Env} {σ : L2.St} {g : G} {kd : List D} {kv : List V} (hl : kd.length = kv.length) (S : StS T (E0.more kd kv) γ H ρ σ g) : StS T E0 γ H ρ σ g ∧ RelDs T γ.ι γ.bar H kd kv :=
  let k := RelDs.split hl S.kept
  ⟨⟨S.st, S.ent, S.fav, S.own0, k.2⟩, k.1⟩
theorem SPost.more {T : Wd} {E0 : Ent} {W : WX} {D' : Ends} {kd : List D} {kv : List V} (hl : kd.length = kv.length) : ∀ {r : SR}, SPost T E0 W D' r → SPost T (E0.more kd kv) W D' r
  | .nx _ _, p => fun γ σ H S => p γ σ H (S.less hl).1
  | .bk _ _, p => fun γ σ H S => p γ σ H (S.less hl).1
  | .ct _ _, p => fun γ σ H S => p γ σ H (S.less hl).1
  | .rt _ _, p => p
  | .exc _ _ _, p => fun γ σ H c dx S => p γ σ H c dx (S.less hl).1
  | .bad, p => p
theorem StS.lesser {T : Wd} {E0 : Ent} {γ γ' : Gho} {H : Hp} {ρ ρ' : Env} {σ σ' : L2.St} {g : G} (S : StS T E0 γ H ρ σ g) (l : Less γ' γ) (R : StR T γ' H ρ' σ' g) : StS T E0 γ' H ρ' σ' g :=
  ⟨R, l.ι ▸ S.ent, l.av.trans S.fav, fun i a h => S.own0 i a (l.oa i a h), l.rels S.kept⟩
section
variable {T : Wd} {W : WX} {X : Cx} {tg iter : Expr} {body : List Stmt} {mi : EvI} {t : Tg} {sl : List Nat} {b : Sm} {pos : Pos}
theorem ss_for (hp : PassesOwn (model X.prog X.w) X.A X.env X.xe) (hc : X.calm = true) (hi : EI T W X tg iter mi) (hg : GT T X tg sl t) (hb : SB T W X body b) (hs : ∀ x, foldedSetIterable iter X.env x = pure x := by intro _; rfl) :
    SS T W X (.For tg iter body [] pos) (sFor mi t b) := PS.imp (ps_for hp hc hi hg hb hs) fun D' σ H ⟨E0, γ, ρ, g, S, p⟩ => by
  refine ⟨γ, ρ, g, S.st, ?_⟩
  unfold sFor at p
  revert p
  cases mi ρ g with
  | bad => exact fun p => p
  | exc x g' => exact fun p cls dx ι' H' s1 G1 r1 => p (γ.to ι') σ H' cls dx (S.step s1 G1) r1
  | ok ds g' =>
    intro p J K ι' H1 hK ok s1 G1 k1
    obtain ⟨kd, kv, hK⟩ := hK
    have S1 := S.step s1 G1
    have k1 := (hK _ _ _).mpr k1
    have hl : kd.length = kv.length := k1.length.symm
    refine ⟨fun i m σ H => m = ds.length - i ∧ i ≤ ds.length ∧ ∃ γ ρ g, StS T (E0.more kd kv) γ H ρ σ g ∧ SPost T E0 W D' (forL t b (ds.drop i) ρ g), ⟨_, rfl, Nat.zero_le _, _, _, _, S1.more k1, by simpa using p⟩, ?_⟩
    rintro i m σ2 H2 ⟨rfl, hle, γ2, ρ2, g2, S2, p2⟩
    obtain ⟨S2', k2⟩ := S2.less hl
    have k2' := (hK _ _ _).mp k2
    by_cases hi : ds.length ≤ i
    · left
      rw [List.drop_eq_nil_of_le hi] at p2
      exact ⟨ok.stop _ _ _ _ k2' hi, p2 _ _ _ S2'⟩
    · right
      have hi : i < ds.length := by omega
      have e : ds[i]? = some ds[i] := List.getElem?_eq_getElem hi
      rw [List.drop_eq_getElem_cons hi] at p2
      refine ⟨ok.go _ _ _ _ _ k2' e, fun σ3 H3 => ∃ γ ρ g, StS T (E0.more kd kv) γ H3 ρ σ3 g ∧ SPost T E0 W D' (forL t b (ds.drop (i + 1)) ρ g), fun σ3 H3 h3 => ⟨_, by omega, rfl, hi, h3⟩, fun x H3 y => ?_⟩
      obtain ⟨sm, rx⟩ := ok.yld _ _ _ _ _ _ _ (fun _ h => .inl h) k2' e y
      have S3 : StS T (E0.more kd kv) γ2 H3 ρ2 σ2 g2 := S2.step (.same sm) (S2.st.cells.keep sm γ2.bi (Gho.grows (.same sm)))
      unfold forL at p2
      revert p2
      cases ht : t ds[i] ρ2 with
      | none => exact fun p => p.elim
      | some ρ3 =>
        intro p2
        refine ⟨γ2, ρ2, g2, ds[i], ρ3, S3.st, rx, ht, fun γ4 σ4 H4 sm4 R4 l4 _ => ?_⟩
        have S4 := (S3.step (.same sm4) (S3.st.cells.keep sm4 γ2.bi (Gho.grows (.same sm4)))).lesser l4 R4
        refine ⟨E0.more kd kv, γ4, ρ3, g2, S4, ?_⟩
        dsimp only at p2
        revert p2
        cases b ρ3 g2 with
        | nx ρ5 g5 => exact fun p γ5 σ5 H5 S5 => ⟨γ5, ρ5, g5, S5, p⟩
        | ct ρ5 g5 => exact fun p γ5 σ5 H5 S5 => ⟨γ5, ρ5, g5, S5, p⟩
        | bk ρ5 g5 => exact fun p γ5 σ5 H5 S5 => p γ5 σ5 H5 (S5.less hl).1
        | rt d g5 => exact fun p => p
        | exc x ρ5 g5 => exact fun p γ5 σ5 H5 c dx S5 => p γ5 σ5 H5 c dx (S5.less hl).1
        | bad => exact fun p => p
end
/-! ### while -/
def whL (c : EvB) (b : Sm) : Nat → Env → G → SR
  | 0, _, _ => .bad
  | n + 1, ρ, g => match c ρ g with
    | .ok k g1 => if k = true then (match b ρ g1 with
      | .nx ρ2 g2 => whL c b n ρ2 g2
      | .ct ρ2 g2 => whL c b n ρ2 g2
      | .bk ρ2 g2 => .nx ρ2 g2
      | r => r) else .nx ρ g1
    | .exc x g1 => .exc x ρ g1
    | .bad => .bad
theorem ss_while {T : Wd} {W : WX} {X : Cx} {c : Expr} {body : List Stmt} {mc : EvB} {b : Sm} {pos : Pos} (n : Nat) (hp : PassesOwn (model X.prog X.w) X.A X.env X.xe) (hc : EB T W X c mc) (hb : SB T W X body b) : SS T W X (.While c body [] pos) (whL mc b n) := PS.imp (ps_while hp hc hb) fun D' σ H ⟨E0, γ, ρ, g, S, p⟩ => by
  refine ⟨fun m σ H => ∃ γ ρ g, StS T E0 γ H ρ σ g ∧ SPost T E0 W D' (whL mc b m ρ g), ⟨n, γ, ρ, g, S, p⟩, ?_⟩
  rintro m σ H ⟨γ, ρ, g, S, p⟩
  refine ⟨γ, ρ, g, S.st, ?_⟩
  cases m with
  | zero => exact p.elim
  | succ m =>
    unfold whL at p
    revert p
    cases mc ρ g with
    | bad => exact fun p => p
    | exc x g' => exact fun p cls dx ι' H' s1 G1 r1 => p (γ.to ι') σ H' cls dx (S.step s1 G1) r1
    | ok k g' =>
      intro p v ι' H' s1 G1 r1
      subst r1
      have S1 := S.step s1 G1
      cases v with
      | false => exact p _ _ _ S1
      | true =>
        refine ⟨fun σ H => ∃ γ ρ g, StS T E0 γ H ρ σ g ∧ SPost T E0 W D' (whL mc b m ρ g), fun σ' H' h => ⟨m, Nat.lt_succ_self m, h⟩, E0, _, ρ, g', S1, ?_⟩
        revert p
        show SPost T E0 W D' (match b ρ g' with
      | .nx ρ2 g2 => whL mc b m ρ2 g2
      | .ct ρ2 g2 => whL mc b m ρ2 g2
      | .bk ρ2 g2 => .nx ρ2 g2
      | r => r) → _
        cases b ρ g' with
        | nx ρ5 g5 => exact fun p γ5 σ5 H5 S5 => ⟨γ5, ρ5, g5, S5, p⟩
        | ct ρ5 g5 => exact fun p γ5 σ5 H5 S5 => ⟨γ5, ρ5, g5, S5, p⟩
        | bk ρ5 g5 => exact fun p γ5 σ5 H5 S5 => p γ5 σ5 H5 S5
        | rt d g5 => exact fun p => p
        | exc x ρ5 g5 => exact fun p => p
        | bad => exact fun p => p
end Z

namespace Z
open PySem PySem.Spec PyProof.Rows L2
set_option autoImplicit false

/-! ### a heap without one thing -/
def era (H : Hp) (p : Addr) : Hp := fun a => if a = p then none else H a
theorem era_self {H : Hp} {p : Addr} : era H p p = none := if_pos rfl
theorem era_ne {H : Hp} {p a : Addr} (h : a ≠ p) : era H p a = H a := if_neg h
theorem era_some {H : Hp} {p a : Addr} {o : HO} (h : era H p a = some o) : a ≠ p ∧ H a = some o := by
  unfold era at h; split at h
  · cases h
  · rename_i n; exact ⟨n, h⟩
theorem era_same {H : Hp} {p : Addr} : Same (era H p) H := fun a o h => (era_some h).2
theorem era_upd {H : Hp} {p : Addr} {o : HO} (h : H p = some o) : upd (era H p) p o = H := by
  funext a
  unfold upd era
  by_cases e : a = p
  · rw [if_pos e, e, h]
  · rw [if_neg e, if_neg e]
theorem upd_era {H : Hp} {p : Addr} {o : HO} (h : H p = none) : era (upd H p o) p = H := by
  funext a
  by_cases e : a = p
  · subst e; rw [era_self, h]
  · rw [era_ne e, upd_ne e]
def Soft (o : HO) : Prop := ¬ Imm o
theorem Stp.era {ι ι' : List Addr} {H H' : Hp} {p : Addr} (s : Stp ι ι' H H') : Stp ι ι' (era H p) (era H' p) := by
  refine ⟨fun a o h n => ?_, fun a o h i => ?_, fun a o h => ?_, ?_⟩
  · obtain ⟨n1, h⟩ := era_some h
    rw [era_ne n1]; exact s.ext a o h n
  · obtain ⟨n1, h⟩ := era_some h
    rw [era_ne n1]; exact s.imm a o h i
  · obtain ⟨n1, h⟩ := era_some h
    rw [era_ne n1]; exact s.live a o h
  · obtain ⟨m, e, f⟩ := s.pre
    refine ⟨m, e, fun a ha => ?_⟩
    by_cases z : a = p
    · rw [z]; exact era_self
    · rw [era_ne z]; exact f a ha
section
variable {T : Wd} {ι : List Addr} {bar : Addr → Prop} {H : Hp} {p : Addr} {o : HO}
theorem sq_era (hp : H p = some o) (so : Soft o) {a : Addr} {xs : List V} (h : SqT T.K H a xs) : SqT T.K (era H p) a xs := by
  rcases h with (h | ⟨q, h⟩) | h
  · refine .inl (.inl ?_)
    rw [era_ne fun z => ?_]; exact h
    subst z; rw [h] at hp; cases hp; exact so trivial
  · refine .inl (.inr ⟨q, ?_⟩)
    rw [era_ne fun z => ?_]; exact h
    subst z; rw [h] at hp; cases hp; exact so trivial
  · exact .inr h
theorem rd_era {a : Addr} {u : HO} (n : a ≠ p) (h : Rd H a u) : Rd (era H p) a u := by
  rcases h with h | ⟨q, h⟩
  · exact .inl (by rw [era_ne n]; exact h)
  · exact .inr ⟨q, by rw [era_ne n]; exact h⟩
mutual
theorem RelD.era (hb : bar p) (hp : H p = some o) (so : Soft o) : ∀ {d : D} {v : V}, RelD T ι bar H d v → RelD T ι bar (era H p) d v
  | .non, v, h => by simpa [RelD] using h
  | .bl _, v, h => by simpa [RelD] using h
  | .int _, v, h => by simpa [RelD] using h
  | .str _, v, h => by simpa [RelD] using h
  | .tup ds, v, h => by
    simp only [RelD] at h ⊢
    obtain ⟨a, vs, e, q, r⟩ := h
    exact ⟨a, vs, e, sq_era hp so q, RelDs.era hb hp so r⟩
  | .lst ds, v, h => by
    simp only [RelD] at h ⊢
    obtain ⟨a, vs, e, q, n, r⟩ := h
    exact ⟨a, vs, e, rd_era (fun z => n (z ▸ hb)) q, n, RelDs.era hb hp so r⟩
  | .set ds, v, h => by
    simp only [RelD] at h ⊢
    obtain ⟨a, us, e, n, r, q⟩ := h
    have na : a ≠ p := fun z => n (z ▸ hb)
    refine ⟨a, us, e, n, RelDs.era hb hp so r, ?_⟩
    rw [era_ne na]; exact q
  | .dct ks vs, v, h => by
    simp only [RelD] at h ⊢
    obtain ⟨a, us, ws, e, n, r1, r2, l, q⟩ := h
    have na : a ≠ p := fun z => n (z ▸ hb)
    refine ⟨a, us, ws, e, n, RelDs.era hb hp so r1, RelDs.era hb hp so r2, l, ?_⟩
    rw [era_ne na]; exact q
  | .ref n, v, h => by simpa [RelD] using h
  | .clo _ _, v, h => by simp [RelD] at h
  | .err _ _, v, h => by simp [RelD] at h
  | .scr ns, v, h => by
    simp only [RelD] at h ⊢
    obtain ⟨a, e, q⟩ := h
    refine ⟨a, e, ?_⟩
    rcases q with ⟨u, q⟩ | q
    · refine .inl ⟨u, ?_⟩
      rw [era_ne fun z => ?_]; exact q
      subst z; rw [q] at hp; cases hp; exact so trivial
    · exact .inr q
theorem RelDs.era (hb : bar p) (hp : H p = some o) (so : Soft o) : ∀ {ds : List D} {vs : List V}, RelDs T ι bar H ds vs → RelDs T ι bar (era H p) ds vs
  | [], vs, h => by simpa [RelDs] using h
  | d :: ds, vs, h => by
    simp only [RelDs] at h ⊢
    obtain ⟨v, r, e, h1, h2⟩ := h
    exact ⟨v, r, e, RelD.era hb hp so h1, RelDs.era hb hp so h2⟩
end
theorem RelC.era (hb : bar p) (hp : H p = some o) (so : Soft o) {d : D} {a : Addr} (na : a ≠ p) (h : RelC T ι bar H d a) : RelC T ι bar (Z.era H p) d a := by
  cases d with
  | lst ds => obtain ⟨vs, q, r⟩ := h; exact ⟨vs, rd_era na q, r.era hb hp so⟩
  | set ds => obtain ⟨us, r, q⟩ := h; exact ⟨us, r.era hb hp so, by rw [era_ne na]; exact q⟩
  | dct ks vs => obtain ⟨us, ws, r1, r2, l, q⟩ := h; exact ⟨us, ws, r1.era hb hp so, r2.era hb hp so, l, by rw [era_ne na]; exact q⟩
  | _ => exact h
theorem MkR.era (hb : bar p) (hp : H p = some o) (so : Soft o) : ∀ {m : Mk}, MkR T ι bar H m → MkR T ι bar (Z.era H p) m
  | .ex _ dx c ds, ⟨ws, r, l, e, n⟩ => ⟨ws, r.era hb hp so, l, by rw [era_ne (p := p) (fun z => n (by rw [z]; exact hb))]; exact e, n⟩
  | .fn _ c u ds vs, ⟨e, n, r⟩ => ⟨by rw [era_ne (p := p) (fun z => n (by rw [z]; exact hb))]; exact e, n, r.era hb hp so⟩
theorem GR.era (hb : bar p) (hp : H p = some o) (so : Soft o) (np : p ∉ ι) {g : G} (h : GR T ι bar H g) : GR T ι bar (Z.era H p) g := by
  refine ⟨h.len, h.nd, fun n c e => ?_⟩
  obtain ⟨a, e1, r⟩ := h.at_ n c e
  refine ⟨a, e1, ?_⟩
  have na : a ≠ p := fun z => np (z ▸ List.mem_of_getElem? e1)
  cases c with
  | dk ks vs =>
    obtain ⟨ws, r, l, q⟩ := r
    exact ⟨ws, r.era hb hp so, l, by rw [era_ne na]; exact q⟩
  | tb q =>
    obtain ⟨eP, ps, e, t, f⟩ := r
    refine ⟨eP, ps, by rw [era_ne na]; exact e, t, fun pos cv hc => ?_⟩
    obtain ⟨c, e1, e2, n⟩ := f pos cv hc
    exact ⟨c, e1, by rw [era_ne (p := p) (fun z => n (by rw [z]; exact hb))]; exact e2, n⟩
end
/-! ### barred besides -/
def Gho.add (γ : Gho) (p : Addr) : Gho := { γ with av := fun a => γ.av a ∨ a = p }
theorem Gho.add_bar {γ : Gho} {p a : Addr} : (γ.add p).bar a ↔ γ.bar a ∨ a = p := by
  constructor
  · rintro (h | ⟨i, h⟩ | h | h)
    · exact .inl (.inl h)
    · exact .inl (.inr (.inl ⟨i, h⟩))
    · exact .inl (.inr (.inr h))
    · exact .inr h
  · rintro ((h | ⟨i, h⟩ | h) | h)
    · exact .inl h
    · exact .inr (.inl ⟨i, h⟩)
    · exact .inr (.inr (.inl h))
    · exact .inr (.inr (.inr h))
theorem Gho.add_self (γ : Gho) {p : Addr} : (γ.add p).bar p := Gho.add_bar.mpr (.inr rfl)
section
variable {T : Wd} {γ : Gho} {H : Hp} {ρ : Env} {σ : L2.St} {g : G} {p : Addr} {o : HO}
theorem same_lay (h : H p = none) : Same H (upd H p o) := fun a u e => by rw [upd_ne (ne_of_none e h)]; exact e
theorem grows_add (h : H p = none) : Grows H γ.bar (γ.add p).bar := fun a q => by
  rcases Gho.add_bar.mp q with q | q
  · exact .inl q
  · exact .inr (q ▸ h)
theorem StR.lay (R : StR T γ H ρ σ g) (hp : H p = none) : StR T (γ.add p) (upd H p o) ρ σ g where
  len := R.len
  vals := fun i d e => let ⟨v, e1, r⟩ := R.vals i d e; ⟨v, e1, r.keep (.same (same_lay hp)) γ.bi (grows_add hp)⟩
  owns := fun i d e => by
    obtain ⟨a, e1, e2, r, m⟩ := R.owns i d e
    refine ⟨a, e1, e2, r.keep (.same (same_lay hp)) γ.bi (grows_add hp) (R.oi i a e1).1, ?_⟩
    have n : a ≠ p := fun z => R.owned e1 (by rw [z]; exact hp)
    rw [upd_ne n]; exact m
  oad := R.oad
  oinj := R.oinj
  oi := fun i a e => ⟨(R.oi i a e).1, by
    rintro (z | z)
    · exact (R.oi i a e).2 z
    · exact R.owned e (by rw [z]; exact hp)⟩
  avt := fun a h => by
    rcases h with h | h
    · cases q : H a with
      | none => exact absurd q (R.avt a h)
      | some u => rw [same_lay hp a u q]; simp
    · rw [h, upd_same]; simp
  cells := R.cells.keep (same_lay hp) γ.bi (grows_add hp)
  mks := fun i k e => let ⟨m, e1, e2, r⟩ := R.mks i k e; ⟨m, e1, e2, r.keep (.same (same_lay hp)) γ.bi (grows_add hp)⟩
theorem StR.era (R : StR T (γ.add p) H ρ σ g) (hp : H p = some o) (so : Soft o) (np : p ∉ γ.ι) (na : ¬ γ.av p) : StR T γ (Z.era H p) ρ σ g := by
  have hb : (γ.add p).bar p := Gho.add_bar.mpr (.inr rfl)
  have fw : ∀ a, γ.bar a → (γ.add p).bar a := fun a h => Gho.add_bar.mpr (.inl h)
  refine ⟨R.len, fun i d e => ?_, fun i d e => ?_, R.oad, R.oinj, fun i a e => ⟨(R.oi i a e).1, fun z => (R.oi i a e).2 (.inl z)⟩, fun a h => ?_, (R.cells.era hb hp so np).fewer fw, fun i k e => let ⟨m, e1, e2, r⟩ := R.mks i k e; ⟨m, e1, e2, (r.era hb hp so).fewer fw⟩⟩
  · obtain ⟨v, e1, r⟩ := R.vals i d e
    exact ⟨v, e1, (r.era hb hp so).fewer fw⟩
  · obtain ⟨a, e1, e2, r, m⟩ := R.owns i d e
    have n : a ≠ p := fun z => (R.oi i a e1).2 (.inr z)
    exact ⟨a, e1, e2, (r.era hb hp so n).fewer fw, by rw [era_ne n]; exact m⟩
  · have n : a ≠ p := fun z => na (z ▸ h)
    rw [era_ne n]; exact R.avt a (.inl h)
end
/-! ### names that a block takes -/
def Gho.hide (γ : Gho) (i : Nat) : Gho := { ι := γ.ι, oa := fun j => if j = i then none else γ.oa j, av := fun a => γ.av a ∨ γ.oa i = some a }
theorem Gho.hide_bar {γ : Gho} {i : Nat} {a : Addr} : (γ.hide i).bar a ↔ γ.bar a := by
  constructor
  · rintro (h | ⟨j, h⟩ | h | h)
    · exact .inl h
    · exact .inr (.inl ⟨j, (Gho.drop_oa (γ := γ) (i := i) h).2⟩)
    · exact .inr (.inr h)
    · exact .inr (.inl ⟨i, h⟩)
  · rintro (h | ⟨j, h⟩ | h)
    · exact .inl h
    · by_cases z : j = i
      · subst z; exact .inr (.inr (.inr h))
      · exact .inr (.inl ⟨j, by show (if j = i then none else γ.oa j) = _; rw [if_neg z]; exact h⟩)
    · exact .inr (.inr (.inl h))
def wipeE (ρ : Env) : List Nat → Env
  | [] => ρ
  | v :: vs => (wipeE ρ vs).set v .no
def Gho.hides (γ : Gho) : List Nat → Gho
  | [] => γ
  | v :: vs => (γ.hides vs).hide v
theorem Gho.hides_bar {γ : Gho} {a : Addr} : ∀ {vs : List Nat}, (γ.hides vs).bar a ↔ γ.bar a
  | [] => Iff.rfl
  | _ :: vs => Gho.hide_bar.trans (hides_bar (vs := vs))
theorem Gho.hides_ι {γ : Gho} : ∀ {vs : List Nat}, (γ.hides vs).ι = γ.ι
  | [] => rfl
  | _ :: vs => hides_ι (vs := vs)
theorem Gho.hides_av {γ : Gho} : ∀ {vs : List Nat} {a : Addr}, (γ.hides vs).av a → γ.av a ∨ ∃ i, γ.oa i = some a
  | [], a, h => .inl h
  | v :: vs, a, h => by
    rcases h with h | h
    · exact hides_av (vs := vs) h
    · have key : ∀ {vs : List Nat} {i : Nat}, (γ.hides vs).oa i = some a → γ.oa i = some a := by
        intro vs
        induction vs with
        | nil => exact fun h => h
        | cons w ws ih => exact fun {i} h => ih (Gho.drop_oa (γ := γ.hides ws) (i := w) h).2
      exact .inr ⟨v, key h⟩
theorem Gho.hides_to {γ : Gho} {ι' : List Addr} : ∀ {vs : List Nat}, (γ.to ι').hides vs = (γ.hides vs).to ι'
  | [] => rfl
  | v :: vs => by
    show ((γ.to ι').hides vs).hide v = ((γ.hides vs).hide v).to ι'
    rw [hides_to (vs := vs)]; rfl
section
variable {T : Wd} {γ : Gho} {H : Hp} {ρ : Env} {σ : L2.St} {g : G}
theorem StR.hide (R : StR T γ H ρ σ g) (i : Nat) : StR T (γ.hide i) H (ρ.set i .no) (σ.set i none) g := by
  have fw : ∀ a, (γ.hide i).bar a → γ.bar a := fun a => Gho.hide_bar.mp
  have get : ∀ {j : Nat} {s : Sl}, s ≠ .no → (ρ.set i .no)[j]? = some s → j ≠ i ∧ ρ[j]? = some s := by
    intro j s n h
    by_cases z : i = j
    · subst z
      have hl : i < ρ.length := by simpa using (List.getElem?_eq_some_iff.mp h).1
      rw [List.getElem?_set_self hl] at h
      cases h; exact absurd rfl n
    · rw [List.getElem?_set_ne z] at h; exact ⟨Ne.symm z, h⟩
  refine ⟨by simp [R.len], fun j d e => ?_, fun j d e => ?_, fun j a h => ?_, fun j k a h1 h2 => R.oinj j k a (Gho.drop_oa (γ := γ) (i := i) h1).2 (Gho.drop_oa (γ := γ) (i := i) h2).2, fun j a h => ?_, fun a h => ?_, R.cells.fewer fw, fun j k h => by
    obtain ⟨n, h⟩ := mk_of_set (by simp) h
    obtain ⟨m, e1, e2, r⟩ := R.mks j k h
    exact ⟨m, e1, by rw [List.getElem?_set_ne n]; exact e2, r.fewer fw⟩⟩
  · obtain ⟨n, e⟩ := get (by simp) e
    obtain ⟨v, e1, r⟩ := R.vals j d e
    exact ⟨v, by rw [List.getElem?_set_ne (Ne.symm n)]; exact e1, r.fewer fw⟩
  · obtain ⟨n, e⟩ := get (by simp) e
    obtain ⟨a, e1, e2, r, m⟩ := R.owns j d e
    exact ⟨a, by show (if j = i then none else γ.oa j) = _; rw [if_neg n]; exact e1, by rw [List.getElem?_set_ne (Ne.symm n)]; exact e2, r.fewer fw, m⟩
  · obtain ⟨n, h⟩ := Gho.drop_oa (γ := γ) (i := i) h
    obtain ⟨d, e⟩ := R.oad j a h
    exact ⟨d, by rw [List.getElem?_set_ne (Ne.symm n)]; exact e⟩
  · obtain ⟨n, h⟩ := Gho.drop_oa (γ := γ) (i := i) h
    refine ⟨(R.oi j a h).1, ?_⟩
    rintro (z | z)
    · exact (R.oi j a h).2 z
    · exact n (R.oinj j i a h z)
  · rcases h with h | h
    · exact R.avt a h
    · exact R.owned h
theorem StR.hides (R : StR T γ H ρ σ g) : ∀ vs : List Nat, StR T (γ.hides vs) H (wipeE ρ vs) (wipe σ vs) g
  | [] => R
  | v :: vs => (R.hides vs).hide v
theorem wipe_only {sl vs : List Nat} {σ' : L2.St} (o : σ'.length = σ.length) (oj : ∀ j, j ∉ sl → σ'[j]? = σ[j]?) (hs : ∀ i ∈ sl, i ∈ vs) : wipe σ' vs = wipe σ vs := by
  have key : ∀ (vs : List Nat) (τ : L2.St) (j : Nat), (wipe τ vs)[j]? = if j ∈ vs ∧ j < τ.length then some none else τ[j]? := by
    intro vs
    induction vs with
    | nil => intro τ j; simp [wipe]
    | cons w ws ih =>
      intro τ j
      show ((wipe τ ws).set w none)[j]? = _
      rw [List.getElem?_set, ih, wipe_length]
      by_cases e : w = j
      · subst e
        by_cases l : w < τ.length
        · simp [l]
        · simp [l]
      · have e' : ¬ j = w := fun z => e z.symm
        simp [e, e']
  apply List.ext_getElem?
  intro j
  rw [key, key, o]
  by_cases h : j ∈ vs
  · by_cases l : j < σ.length
    · simp [h, l]
    · simp [h, l]
      omega
  · simp [h]
    exact oj j fun z => h (hs j z)
theorem wipe_wipe {vs : List Nat} : wipe (wipe σ vs) vs = wipe σ vs := by
  exact wipe_only (sl := vs) (wipe_length _ _) (fun j hj => wipe_out hj) fun i h => h
end
/-! ### a comprehension's turns -/
abbrev ElM := Env → G → Res (List D)
def gaL (t : Tg) (ms : ElM) (ρ : Env) : List D → G → Res (List D)
  | [], g => .ok [] g
  | d :: ds, g => match t d ρ with
    | none => .bad
    | some ρ1 => match ms ρ1 g with
      | .ok ys g1 => match gaL t ms ρ ds g1 with
        | .ok zs g2 => .ok (ys ++ zs) g2
        | _ => .bad
      | _ => .bad
/-- what the new thing is, by what was put in; how much room it has -/
structure Acc (T : Wd) where
  A : List Addr → (Addr → Prop) → Hp → List D → HO → Prop
  soft : ∀ ι bar H ds o, A ι bar H ds o → Soft o
  keep : ∀ ι ι' bar bar' H H' ds o, Stp ι ι' H H' → (∀ a ∈ ι, bar a) → Grows H bar bar' → A ι bar H ds o → A ι' bar' H' ds o
  era : ∀ ι bar H ds o p u, bar p → H p = some u → Soft u → A ι bar H ds o → A ι bar (Z.era H p) ds o
  fewer : ∀ ι bar bar' H ds o, (∀ a, bar' a → bar a) → A ι bar H ds o → A ι bar' H ds o
  room : List D → Prop
  less : ∀ ds es, room (ds ++ es) → room ds
abbrev Stage := L2.St → Hp → (Hp → Prop) → Prop
/-- the stage of one turn does what ms says -/
def Stg (T : Wd) (C : Acc T) (P : Addr) (ms : ElM) (st : Stage) : Prop :=
  ∀ (γ : Gho) (ρ : Env) (σ : L2.St) (H : Hp) (g : G) (ds : List D) (o : HO) (Nx : Hp → Prop), StR T γ H ρ σ g → H P = none → P ∉ γ.ι → ¬ γ.av P → C.A γ.ι (γ.add P).bar H ds o →
    (match ms ρ g with
    | .ok ys g' => C.room (ds ++ ys) ∧ ∀ ι' H' o', Stp γ.ι ι' H H' → GR T ι' (γ.to ι').bar H' g' → H' P = none → P ∉ ι' → C.A ι' ((γ.to ι').add P).bar H' (ds ++ ys) o' → Nx (upd H' P o')
    | _ => False) → st σ (upd H P o) Nx
theorem Gho.add_to {γ : Gho} {p : Addr} {ι' : List Addr} : (γ.add p).to ι' = (γ.to ι').add p := rfl
theorem Stp.not {ι ι' : List Addr} {H H' : Hp} {p : Addr} (s : Stp ι ι' H H') (h : H p ≠ none) (n : p ∉ ι) : p ∉ ι' := fun z => by
  obtain ⟨m, e, f⟩ := s.pre
  rw [e, List.mem_append] at z
  rcases z with z | z
  · exact n z
  · exact h (f p z)
/-- the turns -/
theorem turns {T : Wd} {C : Acc T} {ms : ElM} {st : Stage} {J : It} {K : Kp} {t : Tg} {sl vs : List Nat} {dd : List D} {γ : Gho} {ρ : Env} {σ : L2.St} {H0 : Hp} {g : G} {P : Addr} {a0 : List D} {o0 : HO} {Qd : Hp → Prop} {g0 : TG}
    (hK : Stays K) (ok : ItOk T J dd K) (hg : ∀ v σ H Q, tG T sl t v σ H Q → g0 v σ H Q) (hs : ∀ i ∈ sl, i ∈ vs) (hst : Stg T C P ms st) (R : StR T γ H0 ρ σ g) (hσ : wipe σ vs = σ) (hv : ∀ i ∈ vs, γ.oa i = none) (hP : H0 P = none) (hPι : P ∉ γ.ι) (k0 : K γ.ι γ.bar H0)
    (A0 : C.A γ.ι (γ.add P).bar H0 a0 o0)
    (p : match gaL t ms ρ dd g with
      | .ok ys g' => C.room (a0 ++ ys) ∧ ∀ ι' H' o', Stp γ.ι ι' H0 H' → GR T ι' (γ.to ι').bar H' g' → H' P = none → P ∉ ι' → C.A ι' ((γ.to ι').add P).bar H' (a0 ++ ys) o' → Qd (upd H' P o')
      | _ => False) :
    ∃ W : Nat → Nat → Hp → Prop, (∃ m, W 0 m (upd H0 P o0)) ∧ ∀ i m H, W i m H →
      (J.stop i H ∧ Qd H) ∨ (J.go i H ∧ ∃ Nx : Hp → Prop, (∀ H', Nx H' → ∃ m', m' < m ∧ W (i + 1) m' H') ∧ ∀ x H', J.yld i H x H' → g0 x σ H' fun σ2 H2 => wipe σ2 vs = σ ∧ st σ2 H2 Nx) := by
  have bg : ∀ (ι' : List Addr) (H : Hp), Stp γ.ι ι' H0 H → Grows H0 γ.bar (γ.to ι').bar := fun ι' H s => Gho.grows s
  refine ⟨fun i m H => m = dd.length - i ∧ i ≤ dd.length ∧ ∃ ι1 H1 g1 ds o, H = upd H1 P o ∧ Stp γ.ι ι1 H0 H1 ∧ GR T ι1 (γ.to ι1).bar H1 g1 ∧ H1 P = none ∧ P ∉ ι1 ∧ K ι1 (γ.to ι1).bar H1 ∧ C.A ι1 ((γ.to ι1).add P).bar H1 ds o ∧
    (match gaL t ms ρ (dd.drop i) g1 with
      | .ok ys g' => C.room (ds ++ ys) ∧ ∀ ι' H' o', Stp γ.ι ι' H0 H' → GR T ι' (γ.to ι').bar H' g' → H' P = none → P ∉ ι' → C.A ι' ((γ.to ι').add P).bar H' (ds ++ ys) o' → Qd (upd H' P o')
      | _ => False), ⟨_, rfl, Nat.zero_le _, γ.ι, H0, g, a0, o0, rfl, .refl, R.cells, hP, hPι, k0, A0, by simpa using p⟩, ?_⟩
  rintro i m H ⟨rfl, hle, ι1, H1, g1, ds, o, rfl, s1, G1, n1, np1, k1, A1, p1⟩
  have R1 : StR T (γ.to ι1) H1 ρ σ g1 := R.step s1 G1
  have kk : K ι1 ((γ.to ι1).add P).bar (upd H1 P o) := hK _ _ _ _ _ _ (.same (same_lay n1)) (γ.to ι1).bi (grows_add n1) k1
  by_cases hi : dd.length ≤ i
  · left
    rw [List.drop_eq_nil_of_le hi] at p1
    simp only [gaL, List.append_nil] at p1
    exact ⟨ok.stop _ _ _ _ kk hi, p1.2 _ _ _ s1 G1 n1 np1 A1⟩
  · right
    have hi : i < dd.length := by omega
    have e : dd[i]? = some dd[i] := List.getElem?_eq_getElem hi
    rw [List.drop_eq_getElem_cons hi] at p1
    refine ⟨ok.go _ _ _ _ _ kk e, fun H' => ∃ ι1 H1 g1 ds o, H' = upd H1 P o ∧ Stp γ.ι ι1 H0 H1 ∧ GR T ι1 (γ.to ι1).bar H1 g1 ∧ H1 P = none ∧ P ∉ ι1 ∧ K ι1 (γ.to ι1).bar H1 ∧ C.A ι1 ((γ.to ι1).add P).bar H1 ds o ∧
    (match gaL t ms ρ (dd.drop (i + 1)) g1 with
      | .ok ys g' => C.room (ds ++ ys) ∧ ∀ ι' H' o', Stp γ.ι ι' H0 H' → GR T ι' (γ.to ι').bar H' g' → H' P = none → P ∉ ι' → C.A ι' ((γ.to ι').add P).bar H' (ds ++ ys) o' → Qd (upd H' P o')
      | _ => False), fun H' h => ⟨_, by omega, rfl, hi, h⟩, fun x H' y => ?_⟩
    obtain ⟨sm, rx⟩ := ok.yld _ _ _ _ _ _ _ (fun _ h => .inl h) kk e y
    have so : Soft o := C.soft _ _ _ _ _ A1
    have hP' : H' P = some o := sm P o upd_same
    have sE : Same H1 (era H' P) := fun a u h => by
      rw [era_ne (ne_of_none h n1)]
      exact sm a u (same_lay n1 a u h)
    have s2 : Stp ι1 ι1 H1 (era H' P) := .same sE
    have bgr : Grows H1 (γ.to ι1).bar (γ.to ι1).bar := fun a h => .inl h
    have G2 : GR T ι1 (γ.to ι1).bar (era H' P) g1 := G1.keep sE (γ.to ι1).bi bgr
    have R2 : StR T (γ.to ι1) (era H' P) ρ σ g1 := R1.step s2 G2
    have R3 : StR T ((γ.to ι1).add P) H' ρ σ g1 := by
      have := R2.lay (p := P) (o := o) era_self
      rw [era_upd hP'] at this
      exact this
    refine hg _ _ _ _ ?_
    unfold gaL at p1
    revert p1
    cases ht : t dd[i] ρ with
    | none => exact fun p1 => p1.elim
    | some ρ1 =>
      intro p1
      refine ⟨_, ρ, g1, dd[i], ρ1, R3, rx, ht, fun γ4 σ4 H'' sm2 R4 l4 ol => ⟨(wipe_only ol.len ol.at_ hs).trans hσ, ?_⟩⟩
      have hP' : H'' P = some o := sm2 P o hP'
      have sE : Same H1 (era H'' P) := fun a u h => by
        rw [era_ne (ne_of_none h n1)]
        exact sm2 a u (sm a u (same_lay n1 a u h))
      have s2 : Stp ι1 ι1 H1 (era H'' P) := .same sE
      -- the stage
      obtain ⟨ι4, oa4, av4⟩ := γ4
      obtain ⟨l1, l2, l3⟩ := l4
      cases l1
      cases l2
      have e4 : oa4 = γ.oa := by
        funext i
        by_cases hi : i ∈ vs
        · rw [hv i hi]
          cases q : oa4 i with
          | none => rfl
          | some a => exact absurd ((l3 i a q).symm.trans (hv i hi)) (by simp)
        · have k := fun a => ol.oa i a fun z => hi (hs i z)
          cases q : γ.oa i with
          | none =>
            cases q2 : oa4 i with
            | none => rfl
            | some a => rw [← q]; exact (l3 i a q2).symm
          | some a => exact k a q
      subst e4
      have nav : ¬ γ.av P := fun z => by
        have := R1.avt P z
        exact this n1
      have R5 : StR T (γ.to ι1) (era H'' P) ρ1 σ4 g1 := StR.era (γ := γ.to ι1) (o := o) R4 hP' so np1 nav
      have A2 : C.A ι1 ((γ.to ι1).add P).bar (era H'' P) ds o := C.keep _ _ _ _ _ _ _ _ s2 (fun a h => Gho.add_bar.mpr (.inl ((γ.to ι1).bi a h))) (fun a h => .inl h) A1
      rw [← era_upd hP']
      refine hst _ _ _ _ _ ds o _ R5 era_self np1 nav A2 ?_
      dsimp only at p1
      revert p1
      cases hm : ms ρ1 g1 with
      | bad => exact fun p => p
      | exc x g' => exact fun p => p
      | ok ys g4 =>
        dsimp only
        intro p1
        have s02 : Stp γ.ι ι1 H0 (era H'' P) := s1.trans s2
        have nx : ∀ ι5 H5 o5, Stp ι1 ι5 (era H'' P) H5 → GR T ι5 (γ.to ι5).bar H5 g4 → H5 P = none → P ∉ ι5 → C.A ι5 ((γ.to ι5).add P).bar H5 (ds ++ ys) o5 → K ι5 (γ.to ι5).bar H5 := fun ι5 H5 o5 s5 G5 n5 np5 A5 =>
          hK _ _ _ _ _ _ (s2.trans s5) (γ.to ι1).bi (fun a h => by
            have := Gho.grows (γ := γ.to ι1) (s2.trans s5) a h
            exact this) k1
        revert p1
        cases hr : gaL t ms ρ (dd.drop (i + 1)) g4 with
        | bad => exact fun p => p.elim
        | exc x g' => exact fun p => p.elim
        | ok zs g5 =>
          dsimp only
          intro p1
          rw [← List.append_assoc] at p1
          refine ⟨C.less _ _ p1.1, fun ι5 H5 o5 s5 G5 n5 np5 A5 => ⟨ι5, H5, g4, ds ++ ys, o5, rfl, s02.trans s5, G5, n5, np5, nx _ _ _ s5 G5 n5 np5 A5, A5, ?_⟩⟩
          rw [hr]
          exact p1
end Z

namespace Z
open PySem PySem.Spec PyProof.Rows L2
set_option autoImplicit false

/-! ### a new container of one's own -/
def PostF (T : Wd) (γ : Gho) (H : Hp) (σ : L2.St) (W : WX) (Q : V → Hp → Prop) : Res D → Prop
  | .ok d g' => ∀ a ι' H', Stp γ.ι ι' H H' → H a = none → a ∉ ι' → ¬ (γ.to ι').bar a → GR T ι' ((γ.to ι').add a).bar H' g' → RelC T ι' ((γ.to ι').add a).bar H' d a → Mut (H' a) → Q (.ref a) H'
  | .exc x g' => ∀ cls dx ι' H', Stp γ.ι ι' H H' → GR T ι' (γ.to ι').bar H' g' → ExcR T ι' (γ.to ι').bar H' x cls dx → W cls dx σ H'
  | .bad => False
def tF (T : Wd) (W : WX) (m : Ev) : TE := fun σ H Q => ∃ γ ρ g, StR T γ H ρ σ g ∧ PostF T γ H σ W Q (m ρ g)
abbrev EF (T : Wd) (W : WX) (X : Cx) (e : Expr) (m : Ev) : Prop := PE X e (tF T W m)
theorem add_fw {γ : Gho} {a : Addr} : ∀ b, γ.bar b → (γ.add a).bar b := fun b h => Gho.add_bar.mpr (.inl h)
theorem EF.val {T : Wd} {W : WX} {X : Cx} {e : Expr} {m : Ev} (h : EF T W X e m) : EE T W X e m :=
  PE.imp h fun σ H Q ⟨γ, ρ, g, R, p⟩ => ⟨γ, ρ, g, R, by
    revert p
    cases m ρ g with
    | ok d g' => exact fun p a ι' H' s1 n0 na nb G1 r1 mu => p (.ref a) ι' H' s1 (G1.fewer add_fw) ((r1.fewer add_fw).val nb)
    | exc x g' => exact fun p => p
    | bad => exact fun p => p⟩
/-- slot i owns -/
def Gho.take (γ : Gho) (i : Nat) (a : Addr) : Gho := { γ with oa := fun j => if j = i then some a else γ.oa j }
theorem Gho.take_oa {γ : Gho} {i j : Nat} {a b : Addr} (h : (γ.take i a).oa j = some b) : (j = i ∧ b = a) ∨ (j ≠ i ∧ γ.oa j = some b) := by
  have h : (if j = i then some a else γ.oa j) = some b := h
  split at h
  · rename_i e; cases h; exact .inl ⟨e, rfl⟩
  · rename_i e; exact .inr ⟨e, h⟩
theorem Gho.take_bar {γ : Gho} {i : Nat} {a b : Addr} (h : (γ.take i a).bar b) : (γ.add a).bar b := by
  rw [Gho.add_bar]
  rcases h with h | ⟨j, h⟩ | h
  · exact .inl (.inl h)
  · rcases Gho.take_oa h with ⟨_, h⟩ | ⟨_, h⟩
    · exact .inr h
    · exact .inl (.inr (.inl ⟨j, h⟩))
  · exact .inl (.inr (.inr h))
section
variable {T : Wd} {γ : Gho} {H : Hp} {ρ : Env} {σ : L2.St} {g : G} {E0 : Ent}
/-- the slots' values so far, with a barred besides: a is new since H0 -/
theorem StR.setOwn {H0 : Hp} {d : D} {a : Addr} (R0 : StR T γ H0 ρ σ g) {ι' : List Addr} {g' : G} (s : Stp γ.ι ι' H0 H) (G' : GR T ι' ((γ.to ι').add a).bar H g') (i : Nat) (hi : i < ρ.length) (n0 : H0 a = none) (nb : ¬ (γ.to ι').bar a) (na : a ∉ ι') (r : RelC T ι' ((γ.to ι').add a).bar H d a) (mu : Mut (H a)) :
    StR T ((γ.to ι').take i a) H (ρ.set i (.own d)) (σ.set i (some (.ref a))) g' := by
  have R := R0.step s (G'.fewer add_fw)
  have fw : ∀ b, ((γ.to ι').take i a).bar b → ((γ.to ι').add a).bar b := fun b h => Gho.take_bar h
  have bg : Grows H0 γ.bar ((γ.to ι').take i a).bar := fun b h => by
    rcases Gho.add_bar.mp (fw b h) with h | h
    · exact Gho.grows s b h
    · exact .inr (h ▸ n0)
  refine ⟨by rw [List.length_set, List.length_set]; exact R.len, fun j x h => ?_, fun j x h => ?_, fun j b h => ?_, fun j k b h1 h2 => ?_, fun j b h => ?_, R.avt, G'.fewer fw, fun j k h => by
    obtain ⟨n, h⟩ := mk_of_set (by simp) h
    obtain ⟨m, e1, e2, r⟩ := R0.mks j k h
    exact ⟨m, e1, by rw [List.getElem?_set_ne n]; exact e2, r.keep s γ.bi bg⟩⟩
  · by_cases hj : i = j
    · subst hj
      rw [List.getElem?_set_self hi] at h; cases h
    · rw [List.getElem?_set_ne hj] at h
      obtain ⟨v, e1, r1⟩ := R0.vals j x h
      exact ⟨v, by rw [List.getElem?_set_ne hj]; exact e1, r1.keep s γ.bi bg⟩
  · by_cases hj : i = j
    · subst hj
      rw [List.getElem?_set_self hi] at h; cases h
      exact ⟨a, if_pos rfl, List.getElem?_set_self (by rw [R.len]; exact hi), r.fewer fw, mu⟩
    · rw [List.getElem?_set_ne hj] at h
      obtain ⟨b, e1, e2, r1, m1⟩ := R0.owns j x h
      obtain ⟨b2, e3, _, _, m2⟩ := R.owns j x h
      have : b2 = b := by
        have e3 : γ.oa j = some b2 := e3
        rw [e1] at e3; cases e3; rfl
      subst this
      exact ⟨b2, by show (if j = i then some a else γ.oa j) = _; rw [if_neg (Ne.symm hj)]; exact e1, by rw [List.getElem?_set_ne hj]; exact e2, r1.keep s γ.bi bg (R0.oi j b2 e1).1, m2⟩
  · rcases Gho.take_oa h with ⟨rfl, rfl⟩ | ⟨n, h⟩
    · exact ⟨d, List.getElem?_set_self hi⟩
    · obtain ⟨x, e⟩ := R.oad j b h
      exact ⟨x, by rw [List.getElem?_set_ne (Ne.symm n)]; exact e⟩
  · rcases Gho.take_oa h1 with ⟨e1, e1'⟩ | ⟨m1, h1⟩
    · rcases Gho.take_oa h2 with ⟨e2, _⟩ | ⟨m2, h2⟩
      · rw [e1, e2]
      · exact absurd (.inr (.inl ⟨k, e1' ▸ h2⟩)) nb
    · rcases Gho.take_oa h2 with ⟨e2, e2'⟩ | ⟨m2, h2⟩
      · exact absurd (.inr (.inl ⟨j, e2' ▸ h1⟩)) nb
      · exact R.oinj j k b h1 h2
  · rcases Gho.take_oa h with ⟨e1, e1'⟩ | ⟨n, h⟩
    · rw [e1']; exact ⟨na, fun z => nb (.inr (.inr z))⟩
    · exact R.oi j b h
theorem StS.setOwn {H0 : Hp} {d : D} {a : Addr} (S : StS T E0 γ H0 ρ σ g) {ι' : List Addr} {g' : G} (s : Stp γ.ι ι' H0 H) (G' : GR T ι' ((γ.to ι').add a).bar H g') (i : Nat) (hi : i < ρ.length) (n0 : H0 a = none) (nb : ¬ (γ.to ι').bar a) (na : a ∉ ι') (r : RelC T ι' ((γ.to ι').add a).bar H d a) (mu : Mut (H a)) :
    StS T E0 ((γ.to ι').take i a) H (ρ.set i (.own d)) (σ.set i (some (.ref a))) g' := by
  refine ⟨S.st.setOwn s G' i hi n0 nb na r mu, S.ent.trans s, S.fav, fun j b h => ?_, S.kept.keep s γ.bi fun b h => ?_⟩
  · rcases Gho.take_oa h with ⟨_, e⟩ | ⟨_, h⟩
    · rw [e]; exact S.ent.back n0
    · exact S.own0 j b h
  · rcases Gho.add_bar.mp (Gho.take_bar h) with h | h
    · exact Gho.grows s b h
    · exact .inr (h ▸ n0)
end
/-- the statement name = a new container -/
def sOw (i : Nat) (m : Ev) : Sm := fun ρ g => match m ρ g with
  | .ok d g' => if i < ρ.length then .nx (ρ.set i (.own d)) g' else .bad
  | .exc x g' => .exc x ρ g'
  | .bad => .bad
theorem own_imp {T : Wd} {W : WX} {m : Ev} {i : Nat} {D' : Ends} {σ : L2.St} {H : Hp} (h : tS T W (sOw i m) D' σ H) : tAsg (tF T W m) (gName i) D' σ H := by
  obtain ⟨E0, γ, ρ, g, S, p⟩ := h
  refine ⟨γ, ρ, g, S.st, ?_⟩
  unfold sOw at p
  revert p
  cases m ρ g with
  | ok d g' =>
    dsimp only
    split
    · rename_i hi
      exact fun p a ι' H' s1 n0 na nb G1 r1 mu => p _ _ H' (S.setOwn s1 G1 i hi n0 nb na r1 mu)
    · exact fun p => p.elim
  | exc x g' => exact fun p cls dx ι' H' s1 G1 r1 => p (γ.to ι') σ H' cls dx (S.step s1 G1) r1
  | bad => exact fun p => p
section
variable {T : Wd} {W : WX} {X : Cx} {e : Expr} {m : Ev} {pos : Pos}
theorem ss_own (i : Nat) {x : Str} {pos' : Pos} (hN : X.N.Nodup) (he : EF T W X e m) (hi : X.N[i]? = some x := by rfl) (hx : Loc X.env.scope x := by first | exact .inl rfl | exact .inr rfl) (hs : swapsWith e (some (.Name x pos')) pos.line X.env = pure false := by rfl)
    (hf : X.fn x = true ∨ X.env.scope.names.lookup x = some .local := by first | exact .inl rfl | exact .inr rfl | assumption) : SS T W X (.Assign [.Name x pos'] e pos) (sOw i m) := PS.imp (ps_set hN hi hx he hs hf) fun _ _ _ h => own_imp h
end
/-! ### list comprehensions -/
def accL (T : Wd) : Acc T where
  A := fun ι bar H ds o => ∃ vs, o = .lst vs ∧ RelDs T ι bar H ds vs
  soft := fun ι bar H ds o ⟨vs, e, _⟩ i => by subst e; exact i
  keep := fun ι ι' bar bar' H H' ds o s hi hb ⟨vs, e, r⟩ => ⟨vs, e, r.keep s hi hb⟩
  era := fun ι bar H ds o p u hb hp so ⟨vs, e, r⟩ => ⟨vs, e, r.era hb hp so⟩
  fewer := fun ι bar bar' H ds o hb ⟨vs, e, r⟩ => ⟨vs, e, r.fewer hb⟩
  room := fun ds => fits ds.length = true
  less := fun ds es h => by
    unfold fits at *
    rw [List.length_append] at h
    simp only [decide_eq_true_eq] at *
    omega
abbrev W0 : WX := fun _ _ _ _ => False
def el1 (mt : EvB) (me : Ev) : ElM := fun ρ g => match mt ρ g with
  | .ok k g1 => if k = true then (match me ρ g1 with
    | .ok y g2 => .ok [y] g2
    | _ => .bad) else .ok [] g1
  | _ => .bad
def mYes : EvB := fun _ g => .ok true g
def el2 (mt : EvB) (mi : EvI) (vs : List Nat) (t : Tg) (ms : ElM) : ElM := fun ρ g => match mt ρ g with
  | .ok k g1 => if k = true then (match mi ρ g1 with
    | .ok ds g2 => gaL t ms (wipeE ρ vs) ds g2
    | _ => .bad) else .ok [] g1
  | _ => .bad
def mLc (mi : EvI) (vs : List Nat) (t : Tg) (ms : ElM) : Ev := fun ρ g => match mi ρ g with
  | .ok ds g1 => match gaL t ms (wipeE ρ vs) ds g1 with
    | .ok ys g2 => if fits ys.length = true then .ok (.lst ys) g2 else .bad
    | _ => .bad
  | .exc x g1 => .exc x g1
  | .bad => .bad
abbrev stg1 (T : Wd) (P : Addr) (mt : EvB) (me : Ev) : Stage := fun σ H Nx => tX T W0 rB mt σ H fun b H3 =>
    if b = true then tX T W0 (rD T) me σ H3 fun y H4 => ∃ acc, H4 P = some (.lst acc) ∧ acc.length < sizeLine ∧ Nx (upd H4 P (.lst (acc ++ [y]))) else Nx H3
theorem stg_one {T : Wd} {P : Addr} {mt : EvB} {me : Ev} : Stg T (accL T) P (el1 mt me) (stg1 T P mt me) := by
  intro γ ρ σ H g ds o Nx R nP nι nv A p
  obtain ⟨vs, rfl, r⟩ := A
  have R1 := R.lay (o := .lst vs) nP
  refine ⟨_, ρ, g, R1, ?_⟩
  unfold el1 at p
  revert p
  cases mt ρ g with
  | bad => exact fun p => p
  | exc x g1 => exact fun p => p.elim
  | ok k g1 =>
    intro p b ι' H' s1 G1 e1
    subst e1
    have hP' : H' P = some (.lst vs) := s1.ext P _ upd_same nι
    have so : Soft (.lst vs) := fun i => i
    have nι' : P ∉ ι' := s1.not (by rw [upd_same]; simp) nι
    cases b with
    | false =>
      simp only [Bool.false_eq_true, if_false, List.append_nil] at p ⊢
      have s2 : Stp γ.ι ι' H (era H' P) := by
        have := s1.era (p := P)
        rw [upd_era nP] at this
        exact this
      rw [← era_upd hP']
      refine p.2 ι' _ (.lst vs) s2 ((G1.era (γ.to ι').add_self hP' so nι').fewer add_fw) era_self nι' ⟨vs, rfl, r.keep s2 (fun a h => add_fw a (γ.bi a h)) fun a h => ?_⟩
      rcases Gho.add_bar.mp h with h | h
      · rcases Gho.grows s2 a h with q | q
        · exact .inl (add_fw a q)
        · exact .inr q
      · exact .inl (Gho.add_bar.mpr (.inr h))
    | true =>
      simp only [if_true] at p ⊢
      refine ⟨_, ρ, g1, R1.step s1 G1, ?_⟩
      revert p
      cases me ρ g1 with
      | bad => exact fun p => p
      | exc x g2 => exact fun p => p.elim
      | ok y g2 =>
        intro p v ι2 H2 s2 G2 r2
        have hP2 : H2 P = some (.lst vs) := s2.ext P _ hP' nι'
        have n2 : P ∉ ι2 := s2.not (by rw [hP']; simp) nι'
        have s12 := s1.trans s2
        have s3 : Stp γ.ι ι2 H (era H2 P) := by
          have := s12.era (p := P)
          rw [upd_era nP] at this
          exact this
        dsimp only at p
        refine ⟨vs, hP2, ?_, ?_⟩
        · have := p.1
          have h2 := r.length
          simp only [accL, fits, List.length_append, decide_eq_true_eq, List.length_cons, List.length_nil] at this
          rw [sizeLine_eq]
          omega
        · have : upd H2 P (.lst (vs ++ [v])) = upd (era H2 P) P (.lst (vs ++ [v])) := by
            funext a
            by_cases e : a = P
            · subst e; rw [upd_same, upd_same]
            · rw [upd_ne e, upd_ne e, era_ne e]
          rw [this]
          refine p.2 ι2 _ _ s3 ((G2.era (γ.to ι2).add_self hP2 so n2).fewer add_fw) era_self n2 ⟨_, rfl, RelDs.append (r.keep s3 (fun a h => add_fw a (γ.bi a h)) fun a h => ?_) (.cons (r2.era (γ.to ι2).add_self hP2 so) .nil)⟩
          rcases Gho.add_bar.mp h with h | h
          · rcases Gho.grows s3 a h with q | q
            · exact .inl (add_fw a q)
            · exact .inr q
          · exact .inl (Gho.add_bar.mpr (.inr h))
end Z

namespace Z
open PySem PySem.Spec PyProof.Rows L2
set_option autoImplicit false

abbrev stg2 (T : Wd) (P : Addr) (mt : EvB) (wi : TI) (vs1 : List Nat) (g1 : TG) (st1 : Stage) : Stage := fun σ2 H2 Nx => tX T W0 rB mt σ2 H2 fun b H3 =>
    if b = true then wi σ2 H3 fun J1 H4 => ∃ W1 : Nat → Nat → Hp → Prop, (∃ m, W1 0 m H4) ∧ ∀ j k H, W1 j k H →
      (J1.stop j H ∧ Nx H) ∨ (J1.go j H ∧ ∃ Nx1 : Hp → Prop, (∀ H', Nx1 H' → ∃ k', k' < k ∧ W1 (j + 1) k' H') ∧ ∀ x H', J1.yld j H x H' → g1 x (wipe σ2 vs1) H' fun σ3 H5 => wipe σ3 vs1 = wipe σ2 vs1 ∧ st1 σ3 H5 Nx1)
    else Nx H3
theorem hides_oa {γ : Gho} : ∀ {vs : List Nat} {i : Nat}, i ∈ vs → (γ.hides vs).oa i = none
  | v :: vs, i, h => by
    show (if i = v then none else (γ.hides vs).oa i) = none
    by_cases e : i = v
    · rw [if_pos e]
    · rw [if_neg e]
      rcases List.mem_cons.mp h with h | h
      · exact absurd h e
      · exact hides_oa h
theorem hides_bi {γ : Gho} {vs : List Nat} {ι' : List Addr} {a : Addr} : ((γ.hides vs).to ι').bar a ↔ (γ.to ι').bar a := by
  rw [← Gho.hides_to]; exact Gho.hides_bar
theorem to_hides {γ : Gho} {vs : List Nat} : (γ.hides vs).to γ.ι = γ.hides vs := by
  have : (γ.hides vs).ι = γ.ι := Gho.hides_ι
  show ({ γ.hides vs with ι := γ.ι } : Gho) = γ.hides vs
  rw [← this]
theorem hides_nav {T : Wd} {γ : Gho} {H : Hp} {ρ : Env} {σ : L2.St} {g : G} (R : StR T γ H ρ σ g) {vs : List Nat} {P : Addr} (h : H P = none) : ¬ (γ.hides vs).av P := fun z => by
  rcases Gho.hides_av z with z | ⟨i, z⟩
  · exact R.avt P z h
  · exact R.owned z h
theorem stg_two {T : Wd} {C : Acc T} {P : Addr} {mt : EvB} {mi : EvI} {vs1 sl : List Nat} {t : Tg} {ms : ElM} {st1 : Stage} (hs : ∀ i ∈ sl, i ∈ vs1) (h1 : Stg T C P ms st1) : Stg T C P (el2 mt mi vs1 t ms) (stg2 T P mt (tI T W0 (Kept T) mi) vs1 (tG T sl t) st1) := by
  intro γ ρ σ H g ds o Nx R nP nι nv A p
  have so : Soft o := C.soft _ _ _ _ _ A
  have R1 := R.lay (o := o) nP
  refine ⟨_, ρ, g, R1, ?_⟩
  unfold el2 at p
  revert p
  cases mt ρ g with
  | bad => exact fun p => p
  | exc x g1 => exact fun p => p.elim
  | ok k g1 =>
    intro p b ι' H' s1 G1 e1
    subst e1
    have hP' : H' P = some o := s1.ext P _ upd_same nι
    have nι' : P ∉ ι' := s1.not (by rw [upd_same]; simp) nι
    have s2 : Stp γ.ι ι' H (era H' P) := by
      have := s1.era (p := P)
      rw [upd_era nP] at this
      exact this
    have G2 : GR T ι' (γ.to ι').bar (era H' P) g1 := (G1.era (γ.to ι').add_self hP' so nι').fewer add_fw
    have growA : ∀ {ι2 : List Addr} {H2 : Hp}, Stp γ.ι ι2 H H2 → Grows H (γ.add P).bar ((γ.to ι2).add P).bar := fun s a h => by
      rcases Gho.add_bar.mp h with h | h
      · rcases Gho.grows s a h with q | q
        · exact .inl (add_fw a q)
        · exact .inr q
      · exact .inl (Gho.add_bar.mpr (.inr h))
    cases b with
    | false =>
      simp only [Bool.false_eq_true, if_false, List.append_nil] at p ⊢
      rw [← era_upd hP']
      exact p.2 ι' _ o s2 G2 era_self nι' (C.keep _ _ _ _ _ _ _ _ s2 (fun a h => add_fw a (γ.bi a h)) (growA s2) A)
    | true =>
      simp only [if_true] at p ⊢
      refine ⟨_, ρ, g1, R1.step s1 G1, ?_⟩
      revert p
      cases mi ρ g1 with
      | bad => exact fun p => p
      | exc x g2 => exact fun p => p.elim
      | ok dd g2 =>
        intro p J K ι2 H2 hK ok s3 G3 k3
        dsimp only at p
        have hP2 : H2 P = some o := s3.ext P _ hP' nι'
        have n2 : P ∉ ι2 := s3.not (by rw [hP']; simp) nι'
        have s13 := s1.trans s3
        have s4 : Stp γ.ι ι2 H (era H2 P) := by
          have := s13.era (p := P)
          rw [upd_era nP] at this
          exact this
        have G4 : GR T ι2 (γ.to ι2).bar (era H2 P) g2 := (G3.era (γ.to ι2).add_self hP2 so n2).fewer add_fw
        have R4 : StR T (γ.to ι2) (era H2 P) ρ σ g2 := R.step s4 G4
        obtain ⟨kd, kv, hK'⟩ := hK
        have k4 : K ι2 (γ.to ι2).bar (era H2 P) := (hK' _ _ _).mp ((((hK' _ _ _).mpr k3).era (γ.to ι2).add_self hP2 so).fewer add_fw)
        have k5 : K ((γ.to ι2).hides vs1).ι ((γ.to ι2).hides vs1).bar (era H2 P) := by
          rw [Gho.hides_ι]
          exact (hK' _ _ _).mp (((hK' _ _ _).mpr k4).fewer fun a h => Gho.hides_bar.mp h)
        have A4 : C.A ((γ.to ι2).hides vs1).ι (((γ.to ι2).hides vs1).add P).bar (era H2 P) ds o := by
          rw [Gho.hides_ι]
          refine C.fewer _ _ _ _ _ _ (fun a h => ?_) (C.keep _ _ _ _ _ _ _ _ s4 (fun a h => add_fw a (γ.bi a h)) (growA s4) A)
          rcases Gho.add_bar.mp h with h | h
          · exact add_fw a (Gho.hides_bar.mp h)
          · exact Gho.add_bar.mpr (.inr h)
        have W := turns (C := C) (st := st1) (g0 := tG T sl t) (vs := vs1) (Qd := Nx) (P := P) (sl := sl) (t := t) (ms := ms) (dd := dd) (J := J) (Kept.stays ⟨kd, kv, hK'⟩) ok (fun _ _ _ _ h => h) hs h1 (R4.hides vs1) wipe_wipe (fun i h => hides_oa h) era_self (by rw [Gho.hides_ι]; exact n2) k5 A4 (by
          revert p
          cases gaL t ms (wipeE ρ vs1) dd g2 with
          | bad => exact fun p => p
          | exc x g' => exact fun p => p
          | ok ys g' =>
            refine fun p => ⟨p.1, fun ι5 H5 o5 s5 G5 n5 np5 A5 => ?_⟩
            rw [Gho.hides_ι] at s5
            refine p.2 ι5 H5 o5 (s4.trans s5) (G5.fewer fun a h => hides_bi.mpr h) n5 np5 (C.fewer _ _ _ _ _ _ (fun a h => ?_) A5)
            rcases Gho.add_bar.mp h with h | h
            · exact add_fw a (hides_bi.mpr h)
            · exact Gho.add_bar.mpr (.inr h))
        rw [era_upd hP2] at W
        exact W
/-- a comprehension's making, from the reading of its value -/
theorem lc_test {T : Wd} {W : WX} {mi : EvI} {vs sl : List Nat} {t : Tg} {ms : ElM} {st : Addr → Stage} (hs : ∀ i ∈ sl, i ∈ vs) (h1 : ∀ P, Stg T (accL T) P ms (st P)) {σ : L2.St} {H : Hp} {Q : VK} (h : tF T W (mLc mi vs t ms) σ H Q) :
    tI T W Stays mi σ H fun J H1 => ∀ P, H1 P = none → ∃ W : Nat → Nat → Hp → Prop, (∃ m, W 0 m (upd H1 P (.lst []))) ∧ ∀ i m H, W i m H →
      (J.stop i H ∧ Q (.ref P) H) ∨ (J.go i H ∧ ∃ Nx : Hp → Prop, (∀ H', Nx H' → ∃ m', m' < m ∧ W (i + 1) m' H') ∧ ∀ x H', J.yld i H x H' → tG T sl t x (wipe σ vs) H' fun σ2 H2 => wipe σ2 vs = wipe σ vs ∧ st P σ2 H2 Nx) := by
  obtain ⟨γ, ρ, g, R, p⟩ := h
  refine ⟨γ, ρ, g, R, ?_⟩
  unfold mLc at p
  revert p
  cases mi ρ g with
  | bad => exact fun p => p
  | exc x g1 => exact fun p => p
  | ok dd g1 =>
    intro p J K ι1 H1 hK ok s1 G1 k1 P nP
    dsimp only at p
    have R1 := R.step s1 G1
    have nι : P ∉ ι1 := fun z => G1.tracked P z nP
    have W := turns (C := accL T) (st := st P) (g0 := tG T sl t) (vs := vs) (Qd := fun H => Q (.ref P) H) (P := P) (sl := sl) (t := t) (ms := ms) (dd := dd) (J := J) (a0 := []) (o0 := .lst []) hK ok (fun _ _ _ _ h => h) hs (h1 P) (R1.hides vs) wipe_wipe (fun i h => hides_oa h) nP (by rw [Gho.hides_ι]; exact nι) (by
        rw [Gho.hides_ι]
        exact hK _ _ _ _ _ _ .refl (γ.to ι1).bi (fun a h => .inl (Gho.hides_bar.mp h)) k1) ⟨[], rfl, .nil⟩ (by
      revert p
      cases gaL t ms (wipeE ρ vs) dd g1 with
      | bad => exact fun p => p
      | exc x g' => exact fun p => p.elim
      | ok ys g' =>
        dsimp only
        split
        · rename_i hf
          refine fun p => ⟨by simpa [accL] using hf, fun ι5 H5 o5 s5 G5 n5 np5 A5 => ?_⟩
          rw [Gho.hides_ι] at s5
          obtain ⟨us, rfl, r5⟩ := A5
          have r6 : RelDs T ι5 ((γ.to ι5).add P).bar H5 ys us := r5.fewer fun a h => by
            rcases Gho.add_bar.mp h with h | h
            · exact add_fw a (hides_bi.mpr h)
            · exact Gho.add_bar.mpr (.inr h)
          have G6 : GR T ι5 (γ.to ι5).bar H5 g' := G5.fewer fun a h => hides_bi.mpr h
          have n0 : H P = none := s1.back nP
          have gr : Grows H5 (γ.to ι5).bar ((γ.to ι5).add P).bar := grows_add n5
          refine p P ι5 _ ((s1.trans s5).trans (.same (same_lay n5))) n0 np5 (fun z => ?_) (G6.keep (same_lay n5) (γ.to ι5).bi gr) ⟨us, .inl upd_same, r6.keep (.same (same_lay n5)) (fun a h => add_fw a ((γ.to ι5).bi a h)) fun a h => .inl h⟩ (by rw [upd_same]; trivial)
          exact (R.step (s1.trans s5) G6).bart P z n5
        · exact fun p => p.elim)
    exact W
section
variable {T : Wd} {W : WX} {X : Cx} {elt tg iter tg1 iter1 : Expr} {ifs ifs1 : List Expr} {scope : Scope} {own : List (Str × Nat)} {pos : Pos} {mi mi1 : EvI} {t t1 : Tg} {mt mt1 : EvB} {me : Ev} {sl sl1 : List Nat}
theorem ef_lc (hc : X.calm = true) (hN : X.N.Nodup) (hi : EIw T W X tg iter mi) (own : List (Str × Nat)) (bo : blkC X.N X.env.scope scope own = true)
    (hg : ∀ (s : Shared) (H : Hp) (C : Addr) (cl : List (Str × Addr)) (fp : List Addr), GT T (X.blk s H scope (compEnvC scope cl C X.env) fp) tg sl t)
    (ht : ∀ (s : Shared) (H : Hp) (C : Addr) (cl : List (Str × Addr)) (fp : List Addr), PTs (X.blk s H scope (compEnvC scope cl C X.env) fp) ifs (tX T W0 rB mt))
    (he : ∀ (s : Shared) (H : Hp) (C : Addr) (cl : List (Str × Addr)) (fp : List Addr), EE T W0 (X.blk s H scope (compEnvC scope cl C X.env) fp) elt me)
    (hs : (sl.all fun i => decide (i ∈ own.map (·.2))) = true := by rfl) (hf : ∀ x, foldedSetIterable iter X.env x = pure x := by intro _; rfl) :
    EF T W X (.ListComp elt [⟨tg, iter, ifs, 0⟩] scope pos) (mLc mi (own.map (·.2)) t (el1 mt me)) :=
  PE.imp (pe_lc hc hN hi (blkOk_by bo) hg ht he hf) fun σ H Q h => lc_test (st := fun P => stg1 T P mt me) (fun i h => of_decide_eq_true (List.all_eq_true.mp hs i h)) (fun P => stg_one) h
theorem ss_lc (i : Nat) {y : Str} {py spos : Pos} (hc : X.calm = true) (hN : X.N.Nodup) (hi : EIw T W X tg iter mi) (own : List (Str × Nat)) (bo : blkC X.N X.env.scope scope own = true)
    (hg : ∀ (s : Shared) (H : Hp) (C : Addr) (cl : List (Str × Addr)) (fp : List Addr), GT T (X.blk s H scope (compEnvC scope cl C X.env) fp) tg sl t)
    (ht : ∀ (s : Shared) (H : Hp) (C : Addr) (cl : List (Str × Addr)) (fp : List Addr), PTs (X.blk s H scope (compEnvC scope cl C X.env) fp) ifs (tX T W0 rB mt))
    (he : ∀ (s : Shared) (H : Hp) (C : Addr) (cl : List (Str × Addr)) (fp : List Addr), EE T W0 (X.blk s H scope (compEnvC scope cl C X.env) fp) elt me)
    (hy : X.N[i]? = some y := by rfl) (hyl : X.env.scope.names.lookup y = some .local := by rfl) (hk : X.env.scope.kind = .function := by rfl) (hl : (py.line == pos.line) = true := by rfl)
    (ha : (scope.names.any fun (n, k) => n == y && (k == .local || k == .cell)) = false := by rfl)
    (hs : (sl.all fun i => decide (i ∈ own.map (·.2))) = true := by rfl) (hf : ∀ x, foldedSetIterable iter X.env x = pure x := by intro _; rfl) :
    SS T W X (.Assign [.Name y py] (.ListComp elt [⟨tg, iter, ifs, 0⟩] scope pos) spos) (sOw i (mLc mi (own.map (·.2)) t (el1 mt me))) :=
  PS.imp (ps_setLc hc hN hy hyl (sw_true hk hyl hl ha) hi (blkOk_by bo) hg ht he hf) fun D' σ H h => by
    have h := own_imp h
    exact lc_test (st := fun P => stg1 T P mt me) (fun i h => of_decide_eq_true (List.all_eq_true.mp hs i h)) (fun P => stg_one) h
theorem ef_lc2 (hc : X.calm = true) (hN : X.N.Nodup) (hi : EIw T W X tg iter mi) (own : List (Str × Nat)) (vs1 : List Nat) (bo : blkC X.N X.env.scope scope own = true)
    (hg : ∀ (s : Shared) (H : Hp) (C : Addr) (cl : List (Str × Addr)) (fp : List Addr), GT T (X.blk s H scope (compEnvC scope cl C X.env) fp) tg sl t)
    (ht : ∀ (s : Shared) (H : Hp) (C : Addr) (cl : List (Str × Addr)) (fp : List Addr), PTs (X.blk s H scope (compEnvC scope cl C X.env) fp) ifs (tX T W0 rB mt))
    (hi1 : ∀ (s : Shared) (H : Hp) (C : Addr) (cl : List (Str × Addr)) (fp : List Addr), EI T W0 (X.blk s H scope (compEnvC scope cl C X.env) fp) tg1 iter1 mi1)
    (hg1 : ∀ (s : Shared) (H : Hp) (C : Addr) (cl : List (Str × Addr)) (fp : List Addr), GT T (X.blk s H scope (compEnvC scope cl C X.env) fp) tg1 sl1 t1)
    (ht1 : ∀ (s : Shared) (H : Hp) (C : Addr) (cl : List (Str × Addr)) (fp : List Addr), PTs (X.blk s H scope (compEnvC scope cl C X.env) fp) ifs1 (tX T W0 rB mt1))
    (he : ∀ (s : Shared) (H : Hp) (C : Addr) (cl : List (Str × Addr)) (fp : List Addr), EE T W0 (X.blk s H scope (compEnvC scope cl C X.env) fp) elt me)
    (hv : (vs1.all fun i => decide (i ∈ own.map (·.2))) = true := by rfl)
    (hs : (sl.all fun i => decide (i ∈ own.map (·.2))) = true := by rfl) (hs1 : (sl1.all fun i => decide (i ∈ vs1)) = true := by rfl) (hf : ∀ x, foldedSetIterable iter X.env x = pure x := by intro _; rfl) (hf1 : ∀ env x, foldedSetIterable iter1 env x = pure x := by intro _ _; rfl) :
    EF T W X (.ListComp elt [⟨tg, iter, ifs, 0⟩, ⟨tg1, iter1, ifs1, 0⟩] scope pos) (mLc mi (own.map (·.2)) t (el2 mt mi1 vs1 t1 (el1 mt1 me))) :=
  PE.imp (pe_lc2 hc hN hi (blkOk_by bo) (fun i h => of_decide_eq_true (List.all_eq_true.mp hv i h)) hg ht hi1 hg1 ht1 he hf hf1) fun σ H Q h => by
    exact lc_test (st := fun P => stg2 T P mt (tI T W0 (Kept T) mi1) vs1 (tG T sl1 t1) (stg1 T P mt1 me)) (fun i h => of_decide_eq_true (List.all_eq_true.mp hs i h)) (fun P => stg_two (fun i h => of_decide_eq_true (List.all_eq_true.mp hs1 i h)) stg_one) h
theorem ss_lc2 (i : Nat) {y : Str} {py spos : Pos} (hc : X.calm = true) (hN : X.N.Nodup) (hi : EIw T W X tg iter mi) (own : List (Str × Nat)) (vs1 : List Nat) (bo : blkC X.N X.env.scope scope own = true)
    (hg : ∀ (s : Shared) (H : Hp) (C : Addr) (cl : List (Str × Addr)) (fp : List Addr), GT T (X.blk s H scope (compEnvC scope cl C X.env) fp) tg sl t)
    (ht : ∀ (s : Shared) (H : Hp) (C : Addr) (cl : List (Str × Addr)) (fp : List Addr), PTs (X.blk s H scope (compEnvC scope cl C X.env) fp) ifs (tX T W0 rB mt))
    (hi1 : ∀ (s : Shared) (H : Hp) (C : Addr) (cl : List (Str × Addr)) (fp : List Addr), EI T W0 (X.blk s H scope (compEnvC scope cl C X.env) fp) tg1 iter1 mi1)
    (hg1 : ∀ (s : Shared) (H : Hp) (C : Addr) (cl : List (Str × Addr)) (fp : List Addr), GT T (X.blk s H scope (compEnvC scope cl C X.env) fp) tg1 sl1 t1)
    (ht1 : ∀ (s : Shared) (H : Hp) (C : Addr) (cl : List (Str × Addr)) (fp : List Addr), PTs (X.blk s H scope (compEnvC scope cl C X.env) fp) ifs1 (tX T W0 rB mt1))
    (he : ∀ (s : Shared) (H : Hp) (C : Addr) (cl : List (Str × Addr)) (fp : List Addr), EE T W0 (X.blk s H scope (compEnvC scope cl C X.env) fp) elt me)
    (hy : X.N[i]? = some y := by rfl) (hyl : X.env.scope.names.lookup y = some .local := by rfl) (hk : X.env.scope.kind = .function := by rfl) (hl : (py.line == pos.line) = true := by rfl)
    (ha : (scope.names.any fun (n, k) => n == y && (k == .local || k == .cell)) = false := by rfl)
    (hv : (vs1.all fun i => decide (i ∈ own.map (·.2))) = true := by rfl)
    (hs : (sl.all fun i => decide (i ∈ own.map (·.2))) = true := by rfl) (hs1 : (sl1.all fun i => decide (i ∈ vs1)) = true := by rfl) (hf : ∀ x, foldedSetIterable iter X.env x = pure x := by intro _; rfl) (hf1 : ∀ env x, foldedSetIterable iter1 env x = pure x := by intro _ _; rfl) :
    SS T W X (.Assign [.Name y py] (.ListComp elt [⟨tg, iter, ifs, 0⟩, ⟨tg1, iter1, ifs1, 0⟩] scope pos) spos) (sOw i (mLc mi (own.map (·.2)) t (el2 mt mi1 vs1 t1 (el1 mt1 me)))) :=
  PS.imp (ps_setLc2 hc hN hy hyl (sw_true hk hyl hl ha) hi (blkOk_by bo) (fun i h => of_decide_eq_true (List.all_eq_true.mp hv i h)) hg ht hi1 hg1 ht1 he hf hf1) fun D' σ H h => by
    have h := own_imp h
    exact lc_test (st := fun P => stg2 T P mt (tI T W0 (Kept T) mi1) vs1 (tG T sl1 t1) (stg1 T P mt1 me)) (fun i h => of_decide_eq_true (List.all_eq_true.mp hs i h)) (fun P => stg_two (fun i h => of_decide_eq_true (List.all_eq_true.mp hs1 i h)) stg_one) h
theorem ets_nil : PTs X [] (tX T W0 rB mYes) := ⟨fun pins s σ H Q I ⟨γ, ρ, g, R, p⟩ => pts_nil.run pins s σ H Q I (p true γ.ι H .refl R.cells rfl)⟩
theorem PTs.imp {X : Cx} {e : List Expr} {t t' : TT} (h : PTs X e t) (i : ∀ σ H Q, t' σ H Q → t σ H Q) : PTs X e t' := ⟨fun pins s σ H Q I q => h.run pins s σ H Q I (i σ H Q q)⟩
end
end Z

namespace Z
open PySem PySem.Spec PyProof.Rows L2
set_option autoImplicit false

/-! ### new lists -/
section
variable {T : Wd} {W : WX} {γ : Gho} {H H1 : Hp} {σ : L2.St} {ρ : Env} {g g1 : G} {Q : VK} {ι1 : List Addr}
theorem PostF.after (s : Stp γ.ι ι1 H H1) : ∀ {r : Res D}, PostF T γ H σ W Q r → PostF T (γ.to ι1) H1 σ W Q r
  | .ok d g', h => fun a ι' H' s1 n0 na nb G1 r1 mu => h a ι' H' (s.trans s1) (s.back n0) na nb G1 r1 mu
  | .exc x g', h => fun cls dx ι' H' s1 G1 r1 => h cls dx ι' H' (s.trans s1) G1 r1
  | .bad, h => h
theorem PostF.bind {α β : Type} {R1 : Rel α β} {Q1 : β → Hp → Prop} {r : Res α} {k : α → G → Res D} (h : PostF T γ H σ W Q (r.bind k))
    (hk : ∀ d g1, r = .ok d g1 → ∀ v ι1 H1, Stp γ.ι ι1 H H1 → GR T ι1 (γ.to ι1).bar H1 g1 → R1 ι1 (γ.to ι1).bar H1 d v → PostF T (γ.to ι1) H1 σ W Q (k d g1) → Q1 v H1) : Post T γ H σ W R1 Q1 r := by
  cases r with
  | ok d g1 => exact fun v ι1 H1 s G1 r1 => hk d g1 rfl v ι1 H1 s G1 r1 (PostF.after s h)
  | exc x g1 => exact h
  | bad => exact h
theorem PostF.new {ds : List D} {us : List V} {a : Addr} (p : PostF T γ H σ W Q (.ok (.lst ds) g)) (S : StR T γ H ρ σ g) (hp : H a = none) (r : RelDs T γ.ι γ.bar H ds us) : Q (.ref a) (upd H a (.lst us)) := by
  have nb : ¬ γ.bar a := fun z => S.bart a z hp
  exact p a γ.ι _ (.same (same_lay hp)) hp (fun z => nb (.inl z)) nb (S.cells.keep (same_lay hp) γ.bi (grows_add hp)) ⟨us, .inl upd_same, r.keep (.same (same_lay hp)) γ.bi (grows_add hp)⟩ (by rw [upd_same]; trivial)
end
section
variable {T : Wd} {W : WX} {X : Cx} {es : List Expr} {e a b : Expr} {ms : EvL} {m ma mb : Ev} {pos : Pos}
theorem ef_lst (h : EAs T W X es ms) : EF T W X (.List es pos) (mLst ms) := PE.imp (pe_lst h) fun σ H Q ⟨γ, ρ, g, S, p⟩ => by
  refine ⟨γ, ρ, g, S, p.bind fun ds g1 _ vs ι1 H1 s1 G1 r1 p1 => ?_⟩
  have S1 := S.step s1 G1
  cases hf : fits ds.length with
  | false => rw [hf] at p1; exact p1.elim
  | true =>
    rw [hf] at p1
    exact ⟨by rw [r1.length]; exact fits_line hf, fun q hq => p1.new S1 hq r1⟩
/-- .. made by an operation -/
def rOpF (T : Wd) (k : D → D → Option (List D)) : R2 := fun x y H Q => ∃ (ι : List Addr) (bar : Addr → Prop) (d e : D) (r : List D), (∀ a, bar a → H a ≠ none) ∧ (∀ a ∈ ι, bar a) ∧
  RelW T ι bar H d x ∧ RelW T ι bar H e y ∧ k d e = some r ∧ ∀ p us, H p = none → RelDs T ι bar H r us → Q (.ref p) (upd H p (.lst us))
def rUnF (T : Wd) (k : D → Option (List D)) : V → Hp → VK → Prop := fun x H Q => ∃ (ι : List Addr) (bar : Addr → Prop) (d : D) (r : List D), (∀ a, bar a → H a ≠ none) ∧ (∀ a ∈ ι, bar a) ∧
  RelW T ι bar H d x ∧ k d = some r ∧ ∀ p us, H p = none → RelDs T ι bar H r us → Q (.ref p) (upd H p (.lst us))
def mOpF (k : D → D → Option (List D)) (a b : Ev) : Ev := fun ρ g => (a ρ g).bind fun d g1 => (b ρ g1).bind fun e g2 => ret ((k d e).map .lst) g2
def mUnF (k : D → Option (List D)) (a : Ev) : Ev := fun ρ g => (a ρ g).bind fun d g1 => ret ((k d).map .lst) g1
theorem opF_imp {k : D → D → Option (List D)} {σ : L2.St} {H : Hp} {Q : VK} (h : tF T W (mOpF k ma mb) σ H Q) : tOp (rOpF T k) (tX T W (rW T) ma) (tX T W (rW T) mb) σ H Q := by
  obtain ⟨γ, ρ, g, S, p⟩ := h
  refine ⟨γ, ρ, g, S, p.bind fun d g1 _ v ι1 H1 s1 G1 r1 p1 => ?_⟩
  have S1 := S.step s1 G1
  refine ⟨γ.to ι1, ρ, g1, S1, p1.bind fun e g2 _ u ι2 H2 s2 G2 r2 p2 => ?_⟩
  have S2 := S1.step s2 G2
  cases hk : k d e with
  | none => rw [hk] at p2; exact p2.elim
  | some r =>
    rw [hk] at p2
    exact ⟨ι2, ((γ.to ι1).to ι2).bar, d, e, r, S2.bart, fun a h => .inl h, r1.keep s2 (γ.to ι1).bi (Gho.grows s2), r2, hk, fun a us hp ru => PostF.new p2 S2 hp ru⟩
theorem unF_imp {k : D → Option (List D)} {σ : L2.St} {H : Hp} {Q : VK} (h : tF T W (mUnF k ma) σ H Q) : tX T W (rW T) ma σ H fun x H1 => rUnF T k x H1 Q := by
  obtain ⟨γ, ρ, g, S, p⟩ := h
  refine ⟨γ, ρ, g, S, p.bind fun d g1 _ v ι1 H1 s1 G1 r1 p1 => ?_⟩
  have S1 := S.step s1 G1
  cases hk : k d with
  | none => rw [hk] at p1; exact p1.elim
  | some r =>
    rw [hk] at p1
    exact ⟨ι1, (γ.to ι1).bar, d, r, S1.bart, fun a h => .inl h, r1, hk, fun a us hp ru => PostF.new p1 S1 hp ru⟩
def addF : D → D → Option (List D)
  | .lst xs, .lst ys => if fits (xs.length + ys.length) then some (xs ++ ys) else none
  | _, _ => none
theorem of_add : OpR X (binaryOp .Add) (rOpF T addF) := by
  intro pins s σ H x y v u Q I rx ry ⟨ι, bar, d, e, r, hb, hi, rd, re, hk, q⟩
  unfold addF at hk
  split at hk
  · split at hk
    · rename_i hc
      cases hk
      obtain ⟨a, xs, rfl, h1, r1⟩ := rd.lst
      obtain ⟨b, ys, rfl, h2, r2⟩ := re.lst
      cases rx
      cases ry
      obtain ⟨z, its, n, r, e⟩ := h1.ok I.hok
      obtain ⟨z2, its2, n2, r', e2⟩ := h2.ok I.hok
      have hz := fits_line hc
      rw [← r1.length, ← r2.length] at hz
      refine PySem.P.add_list e e2 ?_ (by rw [List.size_toArray, List.size_toArray, ← r.length, ← r'.length]; exact hz)
      have ea : its.toArray ++ its2.toArray = (its ++ its2).toArray := by simp
      rw [ea]
      exact ⟨.ref _, _, I.lnew (t' := s.toks) (r.append r') (by rw [List.length_append]; exact hz), rfl, q _ _ I.fresh (r1.append r2)⟩
    · cases hk
  · cases hk
theorem ef_add (ha : EW T W X a ma) (hb : EW T W X b mb) : EF T W X (.BinOp a .Add b pos) (mOpF addF ma mb) := PE.imp (pe_op of_add ha hb) fun _ _ _ h => opF_imp h
def listF : D → Option (List D)
  | .lst ds => some ds
  | .tup ds => some ds
  | _ => none
theorem uf_list (ok : Ok T X) : UnR X (fun v => call (.type "list") [v]) (rUnF T listF) := by
  intro pins s σ H x v Q I rx ⟨ι, bar, d, r, hb, hi, rd, hk, q⟩
  unfold listF at hk
  split at hk
  · cases hk
    obtain ⟨a, xs, rfl, h1, r1⟩ := rd.lst
    exact call_list_of pins s σ H [_] [v] Q I (.cons rx .nil) ⟨a, xs, rfl, .inl (.inl h1), fun l hl => q _ _ hl r1⟩
  · cases hk
    obtain ⟨a, xs, rfl, h1, r1⟩ := rd.tup
    rw [← ok.K] at h1
    exact call_list_of pins s σ H [_] [v] Q I (.cons rx .nil) ⟨a, xs, rfl, .inr h1, fun l hl => q _ _ hl r1⟩
  · cases hk
end
/-! ### arguments, some of them new containers of one's own -/
def Gho.adds (γ : Gho) (A : List Addr) : Gho := { γ with av := fun a => γ.av a ∨ a ∈ A }
theorem Gho.adds_bar {γ : Gho} {A : List Addr} {a : Addr} : (γ.adds A).bar a ↔ γ.bar a ∨ a ∈ A := by
  constructor
  · rintro (h | ⟨i, h⟩ | h | h)
    · exact .inl (.inl h)
    · exact .inl (.inr (.inl ⟨i, h⟩))
    · exact .inl (.inr (.inr h))
    · exact .inr h
  · rintro ((h | ⟨i, h⟩ | h) | h)
    · exact .inl h
    · exact .inr (.inl ⟨i, h⟩)
    · exact .inr (.inr (.inl h))
    · exact .inr (.inr (.inr h))
theorem adds_fw {γ : Gho} {A : List Addr} : ∀ b, γ.bar b → (γ.adds A).bar b := fun b h => Gho.adds_bar.mpr (.inl h)
def RelFs (T : Wd) (ι : List Addr) (bar : Addr → Prop) (H : Hp) : List (Bool × D) → List V → List Addr → Prop
  | [], vs, A => vs = [] ∧ A = []
  | (false, d) :: r, vs, A => ∃ v vs', vs = v :: vs' ∧ RelD T ι bar H d v ∧ RelFs T ι bar H r vs' A
  | (true, d) :: r, vs, A => ∃ a vs' A', vs = .ref a :: vs' ∧ A = a :: A' ∧ RelC T ι bar H d a ∧ Mut (H a) ∧ RelFs T ι bar H r vs' A'
theorem RelFs.fewer {T : Wd} {ι : List Addr} {bar bar' : Addr → Prop} {H : Hp} (hb : ∀ a, bar' a → bar a) : ∀ {ds : List (Bool × D)} {vs : List V} {A : List Addr}, RelFs T ι bar H ds vs A → RelFs T ι bar' H ds vs A
  | [], _, _, h => h
  | (false, d) :: r, _, _, ⟨v, vs', e, h1, h2⟩ => ⟨v, vs', e, h1.fewer hb, RelFs.fewer hb h2⟩
  | (true, d) :: r, _, _, ⟨a, vs', A', e, e2, h1, m, h2⟩ => ⟨a, vs', A', e, e2, h1.fewer hb, m, RelFs.fewer hb h2⟩
abbrev EvF := Env → G → Res (List (Bool × D))
def PostFs (T : Wd) (γ : Gho) (H : Hp) (σ : L2.St) (W : WX) (Q : List V → Hp → Prop) : Res (List (Bool × D)) → Prop
  | .ok ds g' => ∀ vs A ι' H', Stp γ.ι ι' H H' → A.Nodup → (∀ a ∈ A, H a = none ∧ a ∉ ι' ∧ ¬ (γ.to ι').bar a ∧ H' a ≠ none) → GR T ι' ((γ.to ι').adds A).bar H' g' → RelFs T ι' ((γ.to ι').adds A).bar H' ds vs A → Q vs H'
  | .exc x g' => ∀ cls dx ι' H', Stp γ.ι ι' H H' → GR T ι' (γ.to ι').bar H' g' → ExcR T ι' (γ.to ι').bar H' x cls dx → W cls dx σ H'
  | .bad => False
def tFs (T : Wd) (W : WX) (m : EvF) : TA := fun σ H Q => ∃ γ ρ g, StR T γ H ρ σ g ∧ PostFs T γ H σ W Q (m ρ g)
abbrev EFs (T : Wd) (W : WX) (X : Cx) (es : List Expr) (m : EvF) : Prop := PA X es (tFs T W m)
def fNil : EvF := fun _ g => .ok [] g
def fCons (o : Bool) (a : Ev) (b : EvF) : EvF := fun ρ g => match a ρ g with
  | .ok d g1 => match b ρ g1 with
    | .ok ds g2 => .ok ((o, d) :: ds) g2
    | .exc x g2 => if o = true then .bad else .exc x g2
    | .bad => .bad
  | .exc x g1 => .exc x g1
  | .bad => .bad
section
variable {T : Wd} {W : WX} {X : Cx} {es : List Expr} {e : Expr} {m : Ev} {ms : EvF} {pos : Pos}
theorem efs_nil : EFs T W X [] fNil := PA.imp pa_nil fun σ H Q ⟨γ, ρ, g, S, p⟩ => p [] [] γ.ι H .refl List.nodup_nil (fun a h => by simp at h) (S.cells.fewer fun a h => by
  rcases Gho.adds_bar.mp h with h | h
  · exact h
  · simp at h) ⟨rfl, rfl⟩
theorem grows_adds {γ : Gho} {A : List Addr} {ι1 ι' : List Addr} {H H' : Hp} (s : Stp γ.ι ι' H H') (h : ∀ a ∈ A, H a = none) : Grows H γ.bar ((γ.to ι').adds A).bar := fun a q => by
  rcases Gho.adds_bar.mp q with q | q
  · exact Gho.grows s a q
  · exact .inr (h a q)
theorem efs_val (ha : EE T W X e m) (hr : EFs T W X es ms) (hs : starEach (e :: es) X.env = (false, eval e X.env) :: starEach es X.env := by rfl) : EFs T W X (e :: es) (fCons false m ms) := PA.imp (pa_cons ha hr hs) fun σ H Q ⟨γ, ρ, g, S, p⟩ => by
  refine ⟨γ, ρ, g, S, ?_⟩
  unfold fCons at p
  revert p
  cases m ρ g with
  | bad => exact fun p => p
  | exc x g1 => exact fun p => p
  | ok d g1 =>
    intro p v ι1 H1 s1 G1 r1
    have S1 := S.step s1 G1
    refine ⟨_, ρ, g1, S1, ?_⟩
    dsimp only at p
    revert p
    cases ms ρ g1 with
    | bad => exact fun p => p
    | exc x g2 => exact fun p cls dx ι' H' s2 G2 r2 => p cls dx ι' H' (s1.trans s2) G2 r2
    | ok ds g2 =>
      intro p vs A ι2 H2 s2 nd hA G2 r2
      refine p (v :: vs) A ι2 H2 (s1.trans s2) nd (fun a h => ?_) G2 ⟨v, vs, rfl, r1.keep s2 (γ.to ι1).bi (grows_adds (γ := γ.to ι1) (ι1 := ι1) s2 fun a h => (hA a h).1), r2⟩
      obtain ⟨h1, h2, h3, h4⟩ := hA a h
      exact ⟨s1.back h1, h2, h3, h4⟩
/-- from an earlier heap on, a is barred besides -/
theorem StR.stepAdd {γ : Gho} {H H' : Hp} {ρ : Env} {σ : L2.St} {g g' : G} {ι' : List Addr} {a : Addr} (R0 : StR T γ H ρ σ g) (s : Stp γ.ι ι' H H') (n0 : H a = none) (na : a ∉ ι') (nt : H' a ≠ none) (G' : GR T ι' ((γ.to ι').add a).bar H' g') :
    StR T ((γ.to ι').add a) H' ρ σ g' := by
  have R := R0.step s (G'.fewer add_fw)
  have bg : Grows H γ.bar ((γ.to ι').add a).bar := fun b h => by
    rcases Gho.add_bar.mp h with h | h
    · exact Gho.grows s b h
    · exact .inr (h ▸ n0)
  refine ⟨R.len, fun j x h => ?_, fun j x h => ?_, R.oad, R.oinj, fun j b h => ?_, fun b h => ?_, G', fun j k h => let ⟨m, e1, e2, r⟩ := R0.mks j k h; ⟨m, e1, e2, r.keep s γ.bi bg⟩⟩
  · obtain ⟨v, e1, r1⟩ := R0.vals j x h
    exact ⟨v, e1, r1.keep s γ.bi bg⟩
  · obtain ⟨b, e1, e2, r1, m1⟩ := R0.owns j x h
    obtain ⟨b2, e3, _, _, m2⟩ := R.owns j x h
    have : b2 = b := by
      have e3 : γ.oa j = some b2 := e3
      rw [e1] at e3; cases e3; rfl
    subst this
    exact ⟨b2, e1, e2, r1.keep s γ.bi bg (R0.oi j b2 e1).1, m2⟩
  · refine ⟨(R.oi j b h).1, ?_⟩
    rintro (z | z)
    · exact (R.oi j b h).2 z
    · exact R0.owned h (z ▸ n0)
  · rcases h with h | h
    · exact R.avt b h
    · rw [h]; exact nt
theorem mut_ne {H : Hp} {a : Addr} (m : Mut (H a)) : H a ≠ none := fun z => by rw [z] at m; exact m
theorem efs_own (ha : EF T W X e m) (hr : EFs T W X es ms) (hs : starEach (e :: es) X.env = (false, eval e X.env) :: starEach es X.env := by rfl) : EFs T W X (e :: es) (fCons true m ms) := PA.imp (pa_cons ha hr hs) fun σ H Q ⟨γ, ρ, g, S, p⟩ => by
  refine ⟨γ, ρ, g, S, ?_⟩
  unfold fCons at p
  revert p
  cases m ρ g with
  | bad => exact fun p => p
  | exc x g1 => exact fun p => p
  | ok d g1 =>
    intro p a ι1 H1 s1 n0 na nb G1 r1 mu
    have S1 := S.stepAdd s1 n0 na (mut_ne mu) G1
    refine ⟨_, ρ, g1, S1, ?_⟩
    dsimp only at p
    revert p
    cases ms ρ g1 with
    | bad => exact fun p => p
    | exc x g2 => exact fun p => p.elim
    | ok ds g2 =>
      intro p vs A ι2 H2 s2 nd hA G2 r2
      have eqb : ∀ b, ((γ.to ι2).adds (a :: A)).bar b → ((((γ.to ι1).add a).to ι2).adds A).bar b := fun b h => by
        rcases Gho.adds_bar.mp h with h | h
        · exact adds_fw b (Gho.add_bar (γ := γ.to ι2).mpr (.inl h))
        · rcases List.mem_cons.mp h with h | h
          · exact adds_fw b (Gho.add_bar (γ := γ.to ι2).mpr (.inr h))
          · exact Gho.adds_bar.mpr (.inr h)
      have na2 : a ∉ ι2 := s2.not (mut_ne mu) na
      refine p (.ref a :: vs) (a :: A) ι2 H2 (s1.trans s2) (List.nodup_cons.mpr ⟨fun z => ?_, nd⟩) (fun b h => ?_) (G2.fewer eqb) ⟨a, vs, A, rfl, rfl, ?_, ?_, r2.fewer eqb⟩
      · exact mut_ne mu (hA a z).1
      · rcases List.mem_cons.mp h with rfl | h
        · refine ⟨n0, na2, fun z => ?_, ?_⟩
          · rcases Gho.grows (γ := γ.to ι1) s2 b z with q | q
            · exact nb q
            · exact mut_ne mu q
          · cases q : H1 b with
            | none => exact absurd q (mut_ne mu)
            | some o =>
              obtain ⟨o', e⟩ := s2.live b o q
              rw [e]; simp
        · obtain ⟨h1, h2, h3, h4⟩ := hA b h
          exact ⟨s1.back h1, h2, fun z => h3 (Gho.add_bar (γ := γ.to ι2).mpr (.inl z)), h4⟩
      · exact (r1.keep s2 ((γ.to ι1).add a).bi (grows_adds (γ := (γ.to ι1).add a) (ι1 := ι1) s2 fun b h => (hA b h).1) na).fewer eqb
      · cases q : H1 a with
        | none => exact absurd q (mut_ne mu)
        | some o => rw [s2.ext a o q na, ← q]; exact mu
end
/-! ### names that get them -/
def setFs : List Nat → List (Bool × D) → Env → Option Env
  | [], [], ρ => some ρ
  | i :: is, (o, d) :: ds, ρ => if i < ρ.length then setFs is ds (ρ.set i (if o = true then .own d else .val d)) else none
  | _, _, _ => none
def setVs : List Nat → List V → L2.St → L2.St
  | i :: is, v :: vs, σ => setVs is vs (σ.set i (some v))
  | _, _, σ => σ
section
variable {T : Wd} {E0 : Ent}
theorem StS.sets {H' : Hp} {g' : G} : ∀ (is : List Nat) (ds : List (Bool × D)) (vs : List V) (A : List Addr) (γ : Gho) (ρ ρ' : Env) (σ : L2.St), StR T (γ.adds A) H' ρ σ g' → RelDs T γ.ι (γ.adds A).bar H' E0.kd E0.kv → Stp E0.ι γ.ι E0.H H' → γ.av = E0.av → (∀ i a, γ.oa i = some a → E0.H a = none) →
    A.Nodup → (∀ a ∈ A, E0.H a = none ∧ a ∉ γ.ι ∧ ¬ γ.bar a) → RelFs T γ.ι (γ.adds A).bar H' ds vs A → setFs is ds ρ = some ρ' → ∃ γ', StS T E0 γ' H' ρ' (setVs is vs σ) g'
  | [], [], vs, A, γ, ρ, ρ', σ, R, k, s, fa, ow, nd, hA, r, e => by
    obtain ⟨rfl, rfl⟩ := r
    cases e
    have fw : ∀ b, γ.bar b → (γ.adds []).bar b := adds_fw
    have ge : γ.adds [] = γ := by
      show ({ γ with av := fun a => γ.av a ∨ a ∈ [] } : Gho) = γ
      have : (fun a => γ.av a ∨ a ∈ ([] : List Addr)) = γ.av := by funext a; simp
      rw [this]
    rw [ge] at R k
    exact ⟨γ, R, s, fa, ow, k⟩
  | [], _ :: _, _, _, _, _, _, _, _, _, _, _, _, _, _, _, e => by cases e
  | _ :: _, [], _, _, _, _, _, _, _, _, _, _, _, _, _, _, e => by cases e
  | i :: is, (false, d) :: ds, vs, A, γ, ρ, ρ', σ, R, k, s, fa, ow, nd, hA, r, e => by
    obtain ⟨v, vs', rfl, r1, r2⟩ := r
    simp only [setFs] at e
    split at e
    · have R2 := R.setVal i r1
      have fw : ∀ b, ((γ.drop i).adds A).bar b → (γ.adds A).bar b := fun b h => Gho.drop_bar (γ := γ.adds A) (i := i) h
      exact StS.sets is ds vs' A (γ.drop i) _ ρ' _ R2 (k.fewer fw) s fa (fun j a h => ow j a (Gho.drop_oa h).2) nd (fun a h => ⟨(hA a h).1, (hA a h).2.1, fun z => (hA a h).2.2 (Gho.drop_bar z)⟩) (r2.fewer fw) (by simpa using e)
    · cases e
  | i :: is, (true, d) :: ds, vs, A, γ, ρ, ρ', σ, R, k, s, fa, ow, nd, hA, r, e => by
    obtain ⟨a, vs', A', rfl, rfl, r1, mu, r2⟩ := r
    simp only [setFs] at e
    split at e
    · rename_i hi
      obtain ⟨na', nd'⟩ := List.nodup_cons.mp nd
      obtain ⟨h1, h2, h3⟩ := hA a (List.mem_cons_self ..)
      have fw : ∀ b, ((γ.take i a).adds A').bar b → (γ.adds (a :: A')).bar b := fun b h => by
        rcases Gho.adds_bar.mp h with h | h
        · rcases Gho.add_bar.mp (Gho.take_bar h) with h | h
          · exact adds_fw b h
          · exact Gho.adds_bar.mpr (.inr (h ▸ List.mem_cons_self ..))
        · exact Gho.adds_bar.mpr (.inr (List.mem_cons_of_mem _ h))
      have R2 : StR T ((γ.take i a).adds A') H' (ρ.set i (.own d)) (σ.set i (some (.ref a))) g' := by
        refine ⟨by rw [List.length_set, List.length_set]; exact R.len, fun j x h => ?_, fun j x h => ?_, fun j b h => ?_, fun j l b q1 q2 => ?_, fun j b h => ?_, fun b h => ?_, R.cells.fewer fw, fun j k h => by
          obtain ⟨n, h⟩ := mk_of_set (by simp) h
          obtain ⟨m, e1, e2, r⟩ := R.mks j k h
          exact ⟨m, e1, by rw [List.getElem?_set_ne n]; exact e2, r.fewer fw⟩⟩
        · by_cases hj : i = j
          · subst hj
            rw [List.getElem?_set_self hi] at h; cases h
          · rw [List.getElem?_set_ne hj] at h
            obtain ⟨v, e1, q1⟩ := R.vals j x h
            exact ⟨v, by rw [List.getElem?_set_ne hj]; exact e1, q1.fewer fw⟩
        · by_cases hj : i = j
          · subst hj
            rw [List.getElem?_set_self hi] at h; cases h
            exact ⟨a, if_pos rfl, List.getElem?_set_self (by rw [R.len]; exact hi), r1.fewer fw, mu⟩
          · rw [List.getElem?_set_ne hj] at h
            obtain ⟨b, e1, e2, q1, m1⟩ := R.owns j x h
            exact ⟨b, by show (if j = i then some a else γ.oa j) = _; rw [if_neg (Ne.symm hj)]; exact e1, by rw [List.getElem?_set_ne hj]; exact e2, q1.fewer fw, m1⟩
        · rcases Gho.take_oa h with ⟨q, _⟩ | ⟨n, h⟩
          · rw [q]; exact ⟨d, List.getElem?_set_self hi⟩
          · obtain ⟨x, q⟩ := R.oad j b h
            exact ⟨x, by rw [List.getElem?_set_ne (Ne.symm n)]; exact q⟩
        · rcases Gho.take_oa q1 with ⟨e1, e1'⟩ | ⟨m1, q1⟩
          · rcases Gho.take_oa q2 with ⟨e2, _⟩ | ⟨m2, q2⟩
            · rw [e1, e2]
            · exact absurd (.inr (.inl ⟨l, e1' ▸ q2⟩)) h3
          · rcases Gho.take_oa q2 with ⟨e2, e2'⟩ | ⟨m2, q2⟩
            · exact absurd (.inr (.inl ⟨j, e2' ▸ q1⟩)) h3
            · exact R.oinj j l b q1 q2
        · rcases Gho.take_oa h with ⟨q, q'⟩ | ⟨n, h⟩
          · rw [q']
            refine ⟨h2, ?_⟩
            rintro (z | z)
            · exact h3 (.inr (.inr z))
            · exact na' z
          · refine ⟨(R.oi j b h).1, ?_⟩
            rintro (z | z)
            · exact (R.oi j b h).2 (.inl z)
            · exact (R.oi j b h).2 (.inr (List.mem_cons_of_mem _ z))
        · rcases h with h | h
          · exact R.avt b (.inl h)
          · exact R.avt b (.inr (List.mem_cons_of_mem _ h))
      refine StS.sets is ds vs' A' (γ.take i a) _ ρ' _ R2 (k.fewer fw) s fa (fun j b h => ?_) nd' (fun b h => ?_) (r2.fewer fw) (by simpa using e)
      · rcases Gho.take_oa h with ⟨_, q⟩ | ⟨_, h⟩
        · rw [q]; exact h1
        · exact ow j b h
      · obtain ⟨q1, q2, q3⟩ := hA b (List.mem_cons_of_mem _ h)
        refine ⟨q1, q2, fun z => ?_⟩
        rcases Gho.add_bar.mp (Gho.take_bar z) with z | z
        · exact q3 z
        · exact na' (z ▸ h)
    · cases e
end
def sPar (is : List Nat) (m : EvF) : Sm := fun ρ g => match m ρ g with
  | .ok ds g' => match setFs is ds ρ with
    | some ρ' => .nx ρ' g'
    | none => .bad
  | .exc x g' => .exc x ρ g'
  | .bad => .bad
/-- many new things barred at once -/
theorem StR.stepAdds {T : Wd} {γ : Gho} {H H' : Hp} {ρ : Env} {σ : L2.St} {g g' : G} {ι' : List Addr} {A : List Addr} (R0 : StR T γ H ρ σ g) (s : Stp γ.ι ι' H H') (hA : ∀ a ∈ A, H a = none ∧ a ∉ ι' ∧ ¬ (γ.to ι').bar a ∧ H' a ≠ none) (G' : GR T ι' ((γ.to ι').adds A).bar H' g') :
    StR T ((γ.to ι').adds A) H' ρ σ g' := by
  have R := R0.step s (G'.fewer adds_fw)
  have bg : Grows H γ.bar ((γ.to ι').adds A).bar := grows_adds (ι1 := ι') s fun a h => (hA a h).1
  refine ⟨R.len, fun j x h => ?_, fun j x h => ?_, R.oad, R.oinj, fun j b h => ?_, fun b h => ?_, G', fun j k h => let ⟨m, e1, e2, r⟩ := R0.mks j k h; ⟨m, e1, e2, r.keep s γ.bi bg⟩⟩
  · obtain ⟨v, e1, r1⟩ := R0.vals j x h
    exact ⟨v, e1, r1.keep s γ.bi bg⟩
  · obtain ⟨b, e1, e2, r1, m1⟩ := R0.owns j x h
    obtain ⟨b2, e3, _, _, m2⟩ := R.owns j x h
    have : b2 = b := by
      have e3 : γ.oa j = some b2 := e3
      rw [e1] at e3; cases e3; rfl
    subst this
    exact ⟨b2, e1, e2, r1.keep s γ.bi bg (R0.oi j b2 e1).1, m2⟩
  · refine ⟨(R.oi j b h).1, ?_⟩
    rintro (z | z)
    · exact (R.oi j b h).2 z
    · exact R0.owned h (hA b z).1
  · rcases h with h | h
    · exact R.avt b h
    · exact (hA b h).2.2.2
theorem par_imp {T : Wd} {W : WX} {m : EvF} {is : List Nat} {D' : Ends} {σ : L2.St} {H : Hp} (h : tS T W (sPar is m) D' σ H) : tFs T W m σ H fun vs H1 => D'.nx (setVs is vs σ) H1 := by
  obtain ⟨E0, γ, ρ, g, S, p⟩ := h
  refine ⟨γ, ρ, g, S.st, ?_⟩
  unfold sPar at p
  revert p
  cases m ρ g with
  | bad => exact fun p => p
  | exc x g1 => exact fun p cls dx ι' H' s1 G1 r1 => p (γ.to ι') σ H' cls dx (S.step s1 G1) r1
  | ok ds g1 =>
    dsimp only
    cases he : setFs is ds ρ with
    | none => exact fun p => p.elim
    | some ρ' =>
      intro p vs A ι1 H1 s1 nd hA G1 r1
      have R1 := S.st.stepAdds s1 hA G1
      obtain ⟨γ', S'⟩ := StS.sets (E0 := E0) is ds vs A (γ.to ι1) ρ ρ' σ R1 (S.kept.keep s1 γ.bi (grows_adds (ι1 := ι1) s1 fun a h => (hA a h).1)) (S.ent.trans s1) S.fav S.own0 nd (fun a h => ⟨S.ent.back (hA a h).1, (hA a h).2.1, (hA a h).2.2.1⟩) r1 he
      exact p γ' _ H1 S'
theorem RelFs.len {T : Wd} {ι : List Addr} {bar : Addr → Prop} {H : Hp} : ∀ {ds : List (Bool × D)} {vs : List V} {A : List Addr}, RelFs T ι bar H ds vs A → vs.length = ds.length
  | [], _, _, ⟨e, _⟩ => by rw [e]; rfl
  | (false, d) :: r, _, _, ⟨v, vs', e, h1, h2⟩ => by rw [e, List.length_cons, List.length_cons, RelFs.len h2]
  | (true, d) :: r, _, _, ⟨a, vs', A', e, e2, h1, m, h2⟩ => by rw [e, List.length_cons, List.length_cons, RelFs.len h2]
theorem setFs_len : ∀ {is : List Nat} {ds : List (Bool × D)} {ρ ρ' : Env}, setFs is ds ρ = some ρ' → ds.length = is.length
  | [], [], _, _, _ => rfl
  | [], _ :: _, _, _, e => by cases e
  | _ :: _, [], _, _, e => by cases e
  | i :: is, (o, d) :: ds, ρ, ρ', e => by
    simp only [setFs] at e
    split at e
    · rw [List.length_cons, List.length_cons, setFs_len e]
    · cases e
/-- .. with as many values as names -/
theorem par_imp2 {T : Wd} {W : WX} {m : EvF} {is : List Nat} {D' : Ends} {σ : L2.St} {H : Hp} (h : tS T W (sPar is m) D' σ H) : tFs T W m σ H fun vs H1 => vs.length = is.length ∧ D'.nx (setVs is vs σ) H1 := by
  have hk := par_imp h
  obtain ⟨E0, γ, ρ, g, S, p⟩ := h
  obtain ⟨E0, γ, ρ, g, S, p⟩ : ∃ E0 γ ρ g, StS T E0 γ H ρ σ g ∧ SPost T E0 W D' (sPar is m ρ g) := ⟨E0, γ, ρ, g, S, p⟩
  have h : tS T W (sPar is m) D' σ H := ⟨E0, γ, ρ, g, S, p⟩
  have key : ∀ ds g1, m ρ g = .ok ds g1 → ds.length = is.length := fun ds g1 e => by
    unfold sPar at p
    rw [e] at p
    dsimp only at p
    cases he : setFs is ds ρ with
    | none => rw [he] at p; exact p.elim
    | some ρ' => exact setFs_len he
  refine ⟨γ, ρ, g, S.st, ?_⟩
  unfold sPar at p
  revert p
  cases hm : m ρ g with
  | bad => exact fun p => p
  | exc x g1 => exact fun p cls dx ι' H' s1 G1 r1 => p (γ.to ι') σ H' cls dx (S.step s1 G1) r1
  | ok ds g1 =>
    have hl := key ds g1 hm
    dsimp only
    cases he : setFs is ds ρ with
    | none => exact fun p => p.elim
    | some ρ' =>
      intro p vs A ι1 H1 s1 nd hA G1 r1
      have R1 := S.st.stepAdds s1 hA G1
      obtain ⟨γ', S'⟩ := StS.sets (E0 := E0) is ds vs A (γ.to ι1) ρ ρ' σ R1 (S.kept.keep s1 γ.bi (grows_adds (ι1 := ι1) s1 fun a h => (hA a h).1)) (S.ent.trans s1) S.fav S.own0 nd (fun a h => ⟨S.ent.back (hA a h).1, (hA a h).2.1, (hA a h).2.2.1⟩) r1 he
      exact ⟨by rw [r1.len, hl], p γ' _ H1 S'⟩
section
variable {T : Wd} {W : WX} {X : Cx} {m : EvF} {pos : Pos}
theorem ss_par2 (i j : Nat) {x y : Str} {a b : Expr} {px py pt : Pos} {kt k2 pt2} (hc : X.calm = true) (hN : X.N.Nodup) (ha : EFs T W X [a, b] m) (hi : X.N[i]? = some x := by rfl) (hj : X.N[j]? = some y := by rfl) (hij : i ≠ j := by decide)
    (hx : X.env.scope.names.lookup x = some .local := by rfl) (hy : X.env.scope.names.lookup y = some .local := by rfl)
    (hw : swappedStores [.Tuple [.Name x px, .Name y py] kt pt] (.Tuple [a, b] k2 pt2) X.env = pure (some [x, y]) := by rfl)
    (hs : swapsWithSole [.Tuple [.Name x px, .Name y py] kt pt] (.Tuple [a, b] k2 pt2) pos.line X.env = pure false := by rfl) :
    SS T W X (.Assign [.Tuple [.Name x px, .Name y py] kt pt] (.Tuple [a, b] k2 pt2) pos) (sPar [i, j] m) := PS.imp (ps_par hc hN hi hj hij hx hy ha hw hs) fun D' σ H h => by
  obtain ⟨γ, ρ, g, S, p⟩ := par_imp2 h
  refine ⟨γ, ρ, g, S, ?_⟩
  revert p
  cases m ρ g with
  | bad => exact fun p => p
  | exc x g1 => exact fun p => p
  | ok ds g1 =>
    intro p vs A ι1 H1 s1 nd hA G1 r1
    obtain ⟨hl, q⟩ := p vs A ι1 H1 s1 nd hA G1 r1
    match vs, hl, q with
    | [u, v], _, q => exact ⟨u, v, rfl, q⟩
theorem ss_par3 (i j l : Nat) {x y z : Str} {a b c : Expr} {px py pz pt : Pos} {kt k2 pt2} (hc : X.calm = true) (hN : X.N.Nodup) (ha : EFs T W X [a, b, c] m) (hi : X.N[i]? = some x := by rfl) (hj : X.N[j]? = some y := by rfl) (hl : X.N[l]? = some z := by rfl) (hij : i ≠ j := by decide) (hil : i ≠ l := by decide) (hjl : j ≠ l := by decide)
    (hx : X.env.scope.names.lookup x = some .local := by rfl) (hy : X.env.scope.names.lookup y = some .local := by rfl) (hz : X.env.scope.names.lookup z = some .local := by rfl)
    (hw : swappedStores [.Tuple [.Name x px, .Name y py, .Name z pz] kt pt] (.Tuple [a, b, c] k2 pt2) X.env = pure (some [x, y, z]) := by rfl)
    (hs : swapsWithSole [.Tuple [.Name x px, .Name y py, .Name z pz] kt pt] (.Tuple [a, b, c] k2 pt2) pos.line X.env = pure false := by rfl) :
    SS T W X (.Assign [.Tuple [.Name x px, .Name y py, .Name z pz] kt pt] (.Tuple [a, b, c] k2 pt2) pos) (sPar [i, j, l] m) := PS.imp (ps_par3 hc hN hi hj hl hij hil hjl hx hy hz ha hw hs) fun D' σ H h => by
  obtain ⟨γ, ρ, g, S, p⟩ := par_imp2 h
  refine ⟨γ, ρ, g, S, ?_⟩
  revert p
  cases m ρ g with
  | bad => exact fun p => p
  | exc x g1 => exact fun p => p
  | ok ds g1 =>
    intro p vs A ι1 H1 s1 nd hA G1 r1
    obtain ⟨hl, q⟩ := p vs A ι1 H1 s1 nd hA G1 r1
    match vs, hl, q with
    | [u, v, w], _, q => exact ⟨u, v, w, rfl, q⟩
/-- target = value, any target -/
def sAsg (m : Ev) (t : Tg) : Sm := fun ρ g => match m ρ g with
  | .ok d g' => match t d ρ with
    | some ρ' => .nx ρ' g'
    | none => .bad
  | .exc x g' => .exc x ρ g'
  | .bad => .bad
theorem ss_asg {tg e : Expr} {me : Ev} {t : Tg} {sl : List Nat} (he : EE T W X e me) (hg : GT T X tg sl t) (hs : swapsWithSole [tg] e pos.line X.env = pure false := by rfl) (hw : swappedStores [tg] e X.env = pure none := by rfl)
    (h1 : (assignEach [tg] X.env).map (·.2) = [assign tg X.env] := by rfl) : SS T W X (.Assign [tg] e pos) (sAsg me t) := PS.imp (ps_asg he hg hs hw h1) fun D' σ H ⟨E0, γ, ρ, g, S, p⟩ => by
  refine ⟨γ, ρ, g, S.st, ?_⟩
  unfold sAsg at p
  revert p
  cases me ρ g with
  | bad => exact fun p => p
  | exc x g' => exact fun p cls dx ι' H' s1 G1 r1 => p (γ.to ι') σ H' cls dx (S.step s1 G1) r1
  | ok d g' =>
    dsimp only
    cases ht : t d ρ with
    | none => exact fun p => p.elim
    | some ρ' =>
      intro p v ι' H' s1 G1 r1
      have S1 := S.step s1 G1
      exact ⟨_, ρ, g', d, ρ', S1.st, r1, ht, fun γ2 σ2 H2 sm R2 l2 _ => p γ2 σ2 H2 ((S1.step (.same sm) (S1.st.cells.keep sm (Gho.bi _) (Gho.grows (.same sm)))).lesser l2 R2)⟩
end
end Z

namespace Z
open PySem PySem.Spec PyProof.Rows L2
set_option autoImplicit false

/-! ### what a name owns is changed -/
section
variable {T : Wd} {γ : Gho} {H : Hp} {ρ : Env} {σ : L2.St} {g : G} {E0 : Ent} {i : Nat} {d d' : D} {a : Addr} {o' : HO}
theorem mut_soft {o : HO} (h : Mut (some o)) : Soft o := fun i => by
  cases o <;> first | exact i | exact h
theorem era_to {H : Hp} {a : Addr} {o' : HO} : Same (era H a) (upd H a o') := fun b u h => by
  obtain ⟨n, h⟩ := era_some h
  rw [upd_ne n]; exact h
theorem StR.get (R : StR T γ H ρ σ g) (h : ρ[i]? = some (.own d)) : ∃ a o, γ.oa i = some a ∧ σ[i]? = some (some (.ref a)) ∧ RelC T γ.ι γ.bar H d a ∧ H a = some o ∧ Mut (some o) := by
  obtain ⟨a, e1, e2, r, m⟩ := R.owns i d h
  cases q : H a with
  | none => rw [q] at m; exact m.elim
  | some o => exact ⟨a, o, e1, e2, r, q, by rw [← q]; exact m⟩
/-- values lie elsewhere -/
theorem RelD.turn {ι : List Addr} {bar : Addr → Prop} {o : HO} (hi : ∀ a ∈ ι, bar a) (hb : bar a) (hp : H a = some o) (so : Soft o) {e : D} {v : V} (r : RelD T ι bar H e v) : RelD T ι bar (upd H a o') e v :=
  (r.era hb hp so).keep (.same era_to) hi fun b h => .inl h
theorem RelDs.turn {ι : List Addr} {bar : Addr → Prop} {o : HO} (hi : ∀ a ∈ ι, bar a) (hb : bar a) (hp : H a = some o) (so : Soft o) {e : List D} {v : List V} (r : RelDs T ι bar H e v) : RelDs T ι bar (upd H a o') e v :=
  (r.era hb hp so).keep (.same era_to) hi fun b h => .inl h
theorem StS.turn {o : HO} (S : StS T E0 γ H ρ σ g) (h : ρ[i]? = some (.own d)) (ha : γ.oa i = some a) (hp : H a = some o) (mu : Mut (some o)) (mu' : Mut (some o')) (r : RelC T γ.ι γ.bar (upd H a o') d' a) : StS T E0 γ (upd H a o') (ρ.set i (.own d')) σ g := by
  have R := S.st
  have so : Soft o := mut_soft mu
  have hb : γ.bar a := .inr (.inl ⟨i, ha⟩)
  have nι : a ∉ γ.ι := (R.oi i a ha).1
  have hi : i < ρ.length := (List.getElem?_eq_some_iff.mp h).1
  have e0 := S.own0 i a ha
  refine ⟨⟨by rw [List.length_set]; exact R.len, fun j x q => ?_, fun j x q => ?_, fun j b q => ?_, R.oinj, R.oi, fun b q => ?_, ?_, fun j k q => ?_⟩, ?_, S.fav, S.own0, S.kept.turn γ.bi hb hp so⟩
  · by_cases hj : i = j
    · subst hj; rw [List.getElem?_set_self hi] at q; cases q
    · rw [List.getElem?_set_ne hj] at q
      obtain ⟨v, e1, r1⟩ := R.vals j x q
      exact ⟨v, e1, r1.turn γ.bi hb hp so⟩
  · by_cases hj : i = j
    · subst hj
      rw [List.getElem?_set_self hi] at q; cases q
      obtain ⟨b, e1, e2, _, _⟩ := R.owns i d h
      have : b = a := by rw [ha] at e1; cases e1; rfl
      subst this
      exact ⟨b, ha, e2, r, by rw [upd_same]; exact mu'⟩
    · rw [List.getElem?_set_ne hj] at q
      obtain ⟨b, e1, e2, r1, m1⟩ := R.owns j x q
      have nb : b ≠ a := fun z => hj (R.oinj i j a ha (z ▸ e1))
      exact ⟨b, e1, e2, (r1.era hb hp so nb).keep (.same era_to) γ.bi (fun c h => .inl h) (R.oi j b e1).1, by rw [upd_ne nb]; exact m1⟩
  · obtain ⟨x, q2⟩ := R.oad j b q
    by_cases hj : i = j
    · subst hj; exact ⟨d', List.getElem?_set_self hi⟩
    · exact ⟨x, by rw [List.getElem?_set_ne hj]; exact q2⟩
  · by_cases n : b = a
    · rw [n, upd_same]; simp
    · rw [upd_ne n]; exact R.avt b q
  · exact (R.cells.era hb hp so nι).keep era_to γ.bi fun c h => .inl h
  · obtain ⟨n, q⟩ := mk_of_set (by simp) q
    obtain ⟨m, e1, e2, r1⟩ := R.mks j k q
    exact ⟨m, e1, e2, (r1.era hb hp so).keep (.same era_to) γ.bi fun c h => .inl h⟩
  · refine ⟨fun b u q n => ?_, fun b u q im => ?_, fun b u q => ?_, S.ent.pre⟩
    · have nb : b ≠ a := fun z => by rw [z, e0] at q; cases q
      rw [upd_ne nb]; exact S.ent.ext b u q n
    · have nb : b ≠ a := fun z => by rw [z, e0] at q; cases q
      rw [upd_ne nb]; exact S.ent.imm b u q im
    · have nb : b ≠ a := fun z => by rw [z, e0] at q; cases q
      rw [upd_ne nb]; exact S.ent.live b u q
theorem own_lst {ds : List D} {o : HO} {ι : List Addr} {bar : Addr → Prop} (r : RelC T ι bar H (.lst ds) a) (hp : H a = some o) (mu : Mut (some o)) : ∃ vs, H a = some (.lst vs) ∧ RelDs T ι bar H ds vs := by
  obtain ⟨vs, q, r⟩ := r
  rcases q with q | ⟨u, q⟩
  · exact ⟨vs, q, r⟩
  · rw [q] at hp; cases hp; exact mu.elim
end
/-! ### append, extend -/
def ownL (ρ : Env) (i : Nat) : Option (List D) := match ρ[i]? with
  | some (.own (.lst ds)) => some ds
  | _ => none
theorem ownL_eq {ρ : Env} {i : Nat} {ds : List D} (h : ownL ρ i = some ds) : ρ[i]? = some (.own (.lst ds)) := by
  unfold ownL at h
  split at h
  · rename_i q; cases h; exact q
  · cases h
def sApp (i : Nat) (m : Ev) : Sm := fun ρ g => match ownL ρ i with
  | none => .bad
  | some ds => match m ρ g with
    | .ok d g' => if fits (ds.length + 1) = true then .nx (ρ.set i (.own (.lst (ds ++ [d])))) g' else .bad
    | .exc x g' => .exc x ρ g'
    | .bad => .bad
def sExt (i : Nat) (m : Ev) : Sm := fun ρ g => match ownL ρ i with
  | none => .bad
  | some ds => match m ρ g with
    | .ok (.lst es) g' => if fits (ds.length + es.length) = true then .nx (ρ.set i (.own (.lst (ds ++ es)))) g' else .bad
    | .exc x g' => .exc x ρ g'
    | _ => .bad
/-- the receiver is a list -/
theorem tyV_lst {K : PySem.W.Frag} {H : Hp} {a : Addr} {vs : List V} (h : H a = some (.lst vs)) : tyV K "list" (.ref a) H := .inl ⟨rfl, vs, .inl (.inl h)⟩
/-- extending by a list, frozen or not -/
def rExtR : V → List V → Hp → VK → Prop := fun x vs H Q => ∃ l b xs zs, x = .ref l ∧ vs = [.ref b] ∧ H l = some (.lst xs) ∧ Rd H b (.lst zs) ∧ xs.length + zs.length ≤ sizeLine ∧ Q .non (upd H l (.lst (xs ++ zs)))
theorem mt_extR {X : Cx} : MtR X "list.extend" rExtR := by
  intro pins s σ H x vs v us Q I rx rv ⟨l, b, xs, zs, e1, e2, hH, hB, hz, q⟩
  subst e1 e2
  cases rx
  obtain ⟨u, rfl, ru⟩ := rv.one
  cases ru
  obtain ⟨hx, its, n, r, hl, e⟩ := I.lstM hH
  obtain ⟨hy, its2, n2, r2, eB⟩ := hB.ok I.hok
  have l1 := r.length
  have l2 := r2.length
  have sz : its.toArray.size + its2.toArray.size ≤ sizeLine := by simp only [List.size_toArray]; omega
  have lg : ¬ (!its.toArray.isEmpty && Builtin.List.listTooLong (its.toArray.size + its2.toArray.size)) = true := by
    rw [notLongL sz, Bool.and_false]; simp
  exact call_meets F.slot_list_extend ⟨_, e, rfl⟩ F.entry_list_extend (F.args_list_extend_2 _ _)
    (AutoSeq1.list_extend_list_list_0 l its.toArray n b its2.toArray n2 lg (by simp only [List.size_toArray]; omega) (by simp only [List.size_toArray]; omega))
    ⟨e, eB, .non, _, I.lset (its' := its ++ its2) hH e (by simp) (r.append r2) (by rw [List.length_append]; omega), rfl, q⟩
section
variable {T : Wd} {W : WX} {X : Cx} {e : Expr} {m : Ev} {pos cpos apos p : Pos} {x : Str}
theorem app_test {i : Nat} {D' : Ends} {σ : L2.St} {H : Hp} (ok : Ok T X) (h : tS T W (sApp i m) D' σ H) : tDrop (tBM X.K "list" rAppend (tVar i) (fun σ H Q => tX T W (rD T) m σ H fun v H1 => Q [v] H1)) D' σ H := by
  obtain ⟨E0, γ, ρ, g, S, p⟩ := h
  unfold sApp at p
  cases ho : ownL ρ i with
  | none => rw [ho] at p; exact p.elim
  | some ds =>
    rw [ho] at p
    have ho := ownL_eq ho
    obtain ⟨a, o, e1, e2, r, hp, mu⟩ := S.st.get ho
    obtain ⟨vs, hv, rs⟩ := own_lst r hp mu
    refine ⟨_, e2, tyV_lst hv, γ, ρ, g, S.st, ?_⟩
    revert p
    cases m ρ g with
    | bad => exact fun p => p
    | exc x g' => exact fun p cls dx ι' H' s1 G1 r1 => p (γ.to ι') σ H' cls dx (S.step s1 G1) r1
    | ok d g' =>
      intro p v ι' H' s1 G1 r1
      dsimp only at p
      split at p
      · rename_i hf
        have S1 := S.step s1 G1
        have nι := (S.st.oi i a e1).1
        have hv' : H' a = some (.lst vs) := s1.ext a _ hv nι
        have rs' := rs.keep s1 γ.bi (Gho.grows s1)
        refine ⟨a, vs, v, rfl, rfl, hv', ?_, ?_⟩
        · have := fits_line hf
          rw [rs.length]; omega
        · have hb : (γ.to ι').bar a := .inr (.inl ⟨i, e1⟩)
          have so : Soft (.lst vs) := fun i => i
          refine p (γ.to ι') σ _ (S1.turn ho e1 hv' trivial trivial ⟨vs ++ [v], .inl upd_same, RelDs.append (rs'.turn (γ.to ι').bi hb hv' so) (.cons (r1.turn (γ.to ι').bi hb hv' so) .nil)⟩)
      · exact p.elim
theorem ext_test {i : Nat} {D' : Ends} {σ : L2.St} {H : Hp} (ok : Ok T X) (h : tS T W (sExt i m) D' σ H) : tDrop (tBM X.K "list" rExtR (tVar i) (fun σ H Q => tX T W (rD T) m σ H fun v H1 => Q [v] H1)) D' σ H := by
  obtain ⟨E0, γ, ρ, g, S, p⟩ := h
  unfold sExt at p
  cases ho : ownL ρ i with
  | none => rw [ho] at p; exact p.elim
  | some ds =>
    rw [ho] at p
    have ho := ownL_eq ho
    obtain ⟨a, o, e1, e2, r, hp, mu⟩ := S.st.get ho
    obtain ⟨vs, hv, rs⟩ := own_lst r hp mu
    refine ⟨_, e2, tyV_lst hv, γ, ρ, g, S.st, ?_⟩
    revert p
    cases m ρ g with
    | bad => exact fun p => p
    | exc x g' => exact fun p cls dx ι' H' s1 G1 r1 => p (γ.to ι') σ H' cls dx (S.step s1 G1) r1
    | ok d g' =>
      intro p v ι' H' s1 G1 r1
      cases d with
      | lst es =>
        dsimp only at p
        split at p
        · rename_i hf
          have S1 := S.step s1 G1
          have nι := (S.st.oi i a e1).1
          have hv' : H' a = some (.lst vs) := s1.ext a _ hv nι
          have rs' := rs.keep s1 γ.bi (Gho.grows s1)
          obtain ⟨b, zs, rfl, hB, nb, r2⟩ : ∃ b zs, v = .ref b ∧ Rd H' b (.lst zs) ∧ ¬ (γ.to ι').bar b ∧ RelDs T ι' (γ.to ι').bar H' es zs := by simpa only [RelD] using r1
          refine ⟨a, b, vs, zs, rfl, rfl, hv', hB, ?_, ?_⟩
          · have := fits_line hf
            rw [rs.length, r2.length]; exact this
          · have hb : (γ.to ι').bar a := .inr (.inl ⟨i, e1⟩)
            have so : Soft (.lst vs) := fun i => i
            exact p (γ.to ι') σ _ (S1.turn ho e1 hv' trivial trivial ⟨vs ++ zs, .inl upd_same, RelDs.append (rs'.turn (γ.to ι').bi hb hv' so) (r2.turn (γ.to ι').bi hb hv' so)⟩)
        · exact p.elim
      | _ => exact p.elim
theorem pa_of {t : TE} (he : PE X e t) (hs : starEach [e] X.env = (false, eval e X.env) :: starEach [] X.env) : PA X [e] (fun σ H Q => t σ H fun v H1 => Q [v] H1) := PA.imp (pa_cons he pa_nil hs) fun σ H Q h => h
theorem ss_append (i : Nat) (ok : Ok T X) (he : EE T W X e m) (hN : X.N[i]? = some x := by rfl) (hv : Vis X.env.scope x := by first | exact Or.inl rfl | exact Or.inr (Or.inl rfl) | exact Or.inr (Or.inr rfl))
    (hd : (x == ("__debug__" : Str)) = false := by decide) (hcd : (x == ("__classdict__" : Str)) = false := by decide)
    (hs : starEach [e] X.env = (false, eval e X.env) :: starEach [] X.env := by rfl) (hbase : attributeBase (.Name x p) "append" X.env (eval (.Name x p) X.env) = eval (.Name x p) X.env := by rfl)
    (hline : (apos.endLine == cpos.line) = true := by rfl)
    (hfew : ((backTo cpos (starEach [e] X.env)).all (fun x => !x.1) && (backToKw cpos (keywordEach [] X.env)).all (fun x => x.1.isSome)
      && decide ([e].length + ([] : List Keyword).length + (if ([] : List Keyword).isEmpty then 0 else 1) < 30)) = true := by rfl)
    (hplain : (backTo cpos (starEach [] X.env)).any (·.1) = false := by rfl)
    (hsw : swapsWith (.Call (.Attribute (.Name x p) "append" apos) [e] [] cpos) none pos.line X.env = pure false := by rfl) :
    SS T W X (.Expr (.Call (.Attribute (.Name x p) "append" apos) [e] [] cpos) pos) (sApp i m) :=
  PS.imp (ps_expr (pe_bm F.plainAttrs_list F.slot_list_append F.type_list_append mt_append (pe_var hN hv hd hcd) (pa_of he hs) hbase hfew hline hs hplain) hsw) fun D' σ H h => app_test ok h
theorem ss_extend (i : Nat) (ok : Ok T X) (he : EE T W X e m) (hN : X.N[i]? = some x := by rfl) (hv : Vis X.env.scope x := by first | exact Or.inl rfl | exact Or.inr (Or.inl rfl) | exact Or.inr (Or.inr rfl))
    (hd : (x == ("__debug__" : Str)) = false := by decide) (hcd : (x == ("__classdict__" : Str)) = false := by decide)
    (hs : starEach [e] X.env = (false, eval e X.env) :: starEach [] X.env := by rfl) (hbase : attributeBase (.Name x p) "extend" X.env (eval (.Name x p) X.env) = eval (.Name x p) X.env := by rfl)
    (hline : (apos.endLine == cpos.line) = true := by rfl)
    (hfew : ((backTo cpos (starEach [e] X.env)).all (fun x => !x.1) && (backToKw cpos (keywordEach [] X.env)).all (fun x => x.1.isSome)
      && decide ([e].length + ([] : List Keyword).length + (if ([] : List Keyword).isEmpty then 0 else 1) < 30)) = true := by rfl)
    (hplain : (backTo cpos (starEach [] X.env)).any (·.1) = false := by rfl)
    (hsw : swapsWith (.Call (.Attribute (.Name x p) "extend" apos) [e] [] cpos) none pos.line X.env = pure false := by rfl) :
    SS T W X (.Expr (.Call (.Attribute (.Name x p) "extend" apos) [e] [] cpos) pos) (sExt i m) :=
  PS.imp (ps_expr (pe_bm F.plainAttrs_list F.slot_list_extend F.type_list_extend mt_extR (pe_var hN hv hd hcd) (pa_of he hs) hbase hfew hline hs hplain) hsw) fun D' σ H h => ext_test ok h
end
end Z

namespace Z
open PySem PySem.Spec PyProof.Rows L2
set_option autoImplicit false

/-! ### dicts that may be changed from anywhere: keys texts -/
def luS : List Str → List D → Str → Option D
  | k :: ks, d :: ds, x => if k = x then some d else luS ks ds x
  | _, _, _ => none
def ixS : List Str → Str → Option Nat
  | k :: ks, x => if k = x then some 0 else (ixS ks x).map (· + 1)
  | [], _ => none
abbrev kvS (ks : List Str) (ws : List V) : List (Key × V) := (ks.map Sum.inr).zip ws
theorem valV_zip {T : Wd} {ι : List Addr} {bar : Addr → Prop} {H : Hp} : ∀ {ks : List Str} {ds : List D} {ws : List V} {x : Str} {d : D}, RelDs T ι bar H ds ws → luS ks ds x = some d → ∃ v, valV (kvS ks ws) (Sum.inr x) = some v ∧ RelD T ι bar H d v
  | [], ds, ws, x, d, r, e => by simp [luS] at e
  | _ :: _, [], ws, x, d, r, e => by simp [luS] at e
  | k :: ks, y :: ds, ws, x, d, r, e => by
    obtain ⟨v, us, rfl, h1, h2⟩ := r.uncons
    simp only [luS] at e
    split at e
    · rename_i hk
      cases e
      exact ⟨v, valV_pos (r := kvS ks us) (p := (Sum.inr k, v)) (by rw [hk]), h1⟩
    · rename_i hk
      obtain ⟨u, e1, r1⟩ := valV_zip h2 e
      refine ⟨u, ?_, r1⟩
      show valV ((Sum.inr k, v) :: kvS ks us) (Sum.inr x) = some u
      rw [valV_neg (p := ((Sum.inr k : Key), v)) (r := kvS ks us) (k := Sum.inr x) (fun z => hk (by injection z))]; exact e1
theorem putK_zip : ∀ {ks : List Str} {ws : List V} {x : Str} {j : Nat} (v : V), ks.length = ws.length → ks.Nodup → ixS ks x = some j → putK (kvS ks ws) (Sum.inr x) v = kvS ks (ws.set j v) := by
  intro ks ws x j v hl nd e
  have h1 : ∀ {ks : List Str} {ws : List V} {j : Nat}, ks.length = ws.length → ks.Nodup → ixS ks x = some j → ((kvS ks ws).any fun kv => decide (kv.1 = (Sum.inr x : Key))) = true ∧ (kvS ks ws).map (fun kv => if kv.1 = (Sum.inr x : Key) then (kv.1, v) else kv) = kvS ks (ws.set j v) := by
    intro ks
    induction ks with
    | nil => intro ws j _ _ e; simp [ixS] at e
    | cons k ks ih =>
      intro ws j hl nd e
      match ws, hl with
      | w :: ws, hl =>
        obtain ⟨nk, nd⟩ := List.nodup_cons.mp nd
        simp only [ixS] at e
        split at e
        · rename_i hk
          cases e
          subst hk
          constructor
          · show ((Sum.inr k, w) :: kvS ks ws).any _ = true
            simp
          · show ((Sum.inr k, w) :: kvS ks ws).map _ = (Sum.inr k, v) :: kvS ks ws
            rw [List.map_cons, if_pos rfl]
            congr 1
            have : ∀ kv ∈ kvS ks ws, ¬ kv.1 = (Sum.inr k : Key) := fun kv hm z => by
              obtain ⟨a, b⟩ := kv
              have := (List.of_mem_zip hm).1
              rw [List.mem_map] at this
              obtain ⟨c, hc, e⟩ := this
              rw [← e] at z
              injection z with z
              exact nk (z ▸ hc)
            conv => rhs; rw [← List.map_id (kvS ks ws)]
            exact List.map_congr_left fun kv hm => by rw [if_neg (this kv hm)]; rfl
        · rename_i hk
          rw [Option.map_eq_some_iff] at e
          obtain ⟨j', e, rfl⟩ := e
          obtain ⟨a, b⟩ := ih (by simpa using hl) nd e
          constructor
          · show ((Sum.inr k, w) :: kvS ks ws).any _ = true
            rw [List.any_cons, a, Bool.or_true]
          · show ((Sum.inr k, w) :: kvS ks ws).map _ = (Sum.inr k, w) :: kvS ks (ws.set j' v)
            rw [List.map_cons, b, if_neg]
            exact fun z => hk (by injection z)
  obtain ⟨a, b⟩ := h1 hl nd e
  unfold putK
  rw [if_pos a, b]
theorem mergeK_nodup : ∀ (more acc : List (Key × V)), ((acc ++ more).map (·.1)).Nodup → mergeK acc more = acc ++ more
  | [], acc, _ => by simp [mergeK]
  | p :: more, acc, h => by
    have h2 : valV acc p.1 = none := by
      have : ¬ (acc.any fun kv => decide (kv.1 = p.1)) = true := fun z => by
        rw [List.any_eq_true] at z
        obtain ⟨q, hq, e⟩ := z
        have e := of_decide_eq_true e
        rw [List.map_append, List.nodup_append] at h
        exact h.2.2 q.1 (List.mem_map_of_mem hq) p.1 (List.mem_map_of_mem (List.mem_cons_self ..)) e
      rw [valV_any] at this
      cases q : valV acc p.1 with
      | none => rfl
      | some _ => rw [q] at this; exact absurd rfl this
    show mergeK (putK acc p.1 p.2) more = _
    rw [putK_new _ h2, mergeK_nodup more (acc ++ [p]) (by simpa using h)]
    simp
theorem nodup_ix {α : Type} : ∀ {l : List α} {i j : Nat}, l.Nodup → l[i]? = l[j]? → i < l.length → i = j
  | [], i, j, _, _, h => by simp at h
  | x :: l, i, j, nd, e, h => by
    obtain ⟨n1, n2⟩ := List.nodup_cons.mp nd
    cases i with
    | zero =>
      cases j with
      | zero => rfl
      | succ j =>
        simp only [List.getElem?_cons_zero, List.getElem?_cons_succ] at e
        exact absurd (List.mem_of_getElem? e.symm) n1
    | succ i =>
      cases j with
      | zero =>
        simp only [List.getElem?_cons_zero, List.getElem?_cons_succ] at e
        exact absurd (List.mem_of_getElem? e) n1
      | succ j =>
        simp only [List.getElem?_cons_succ] at e
        rw [nodup_ix n2 e (by simpa using h)]
/-! ### a new one -/
def evPs : List (Str × Ev) → EvL
  | [] => mNil
  | (_, m) :: r => mCons m (evPs r)
def trPs (T : Wd) (W : WX) : List (Str × Ev) → List (TE × TE)
  | [] => []
  | (k, m) :: r => (tC (.str k), tX T W (rD T) m) :: trPs T W r
abbrev EPs (T : Wd) (W : WX) (X : Cx) (pos : Pos) (keys : List (Option Expr)) (values : List Expr) (l : List (Str × Ev)) : Prop := PPs X pos keys values (trPs T W l)
theorem eps_nil {T : Wd} {W : WX} {X : Cx} {pos : Pos} : EPs T W X pos [] [] [] := pps_nil
theorem eps_cons {T : Wd} {W : WX} {X : Cx} {pos p : Pos} {k : Str} {j} {v : Expr} {m : Ev} {ks : List (Option Expr)} {vs : List Expr} {l : List (Str × Ev)} (hv : EE T W X v m) (hr : EPs T W X pos ks vs l) : EPs T W X pos (some (.Constant (.str k) j p) :: ks) (v :: vs) ((k, m) :: l) := pps_cons pe_str hv hr
theorem pairs_test {T : Wd} {W : WX} {σ : L2.St} : ∀ {l : List (Str × Ev)} {H : Hp} {Q : List (V × V) → Hp → Prop}, tX T W (rDs T) (evPs l) σ H (fun vs H1 => vs.length = l.length → Q ((l.map fun p => V.str p.1).zip vs) H1) → tPairs (trPs T W l) σ H Q
  | [], H, Q, ⟨γ, ρ, g, S, p⟩ => p [] γ.ι H .refl S.cells RelDs.nil rfl
  | (k, m) :: l, H, Q, ⟨γ, ρ, g, S, p⟩ => by
    refine ⟨γ, ρ, g, S, Post.bind p fun d g1 _ v ι1 H1 s1 G1 r1 p1 => ?_⟩
    have S1 := S.step s1 G1
    refine pairs_test ⟨_, ρ, g1, S1, Post.bind p1 fun ds g2 _ vs ι2 H2 s2 G2 r2 p2 hl => ?_⟩
    have S2 := S1.step s2 G2
    exact p2.ret0 (g0 := g) S2 (RelDs.cons (r1.keep s2 (Gho.bi _) (Gho.grows s2)) r2) (by rw [List.length_cons, List.length_cons, hl])
def mCellN (l : List (Str × Ev)) : Ev := fun ρ g => match evPs l ρ g with
  | .ok ds g' => .ok (.ref g'.length) (g' ++ [.dk (l.map (·.1)) ds])
  | .exc x g' => .exc x g'
  | .bad => .bad
theorem evPs_len {l : List (Str × Ev)} : ∀ {ρ : Env} {g : G} {ds : List D} {g' : G}, evPs l ρ g = .ok ds g' → ds.length = l.length := by
  induction l with
  | nil => intro ρ g ds g' e; cases e; rfl
  | cons p l ih =>
    intro ρ g ds g' e
    obtain ⟨k, m⟩ := p
    simp only [evPs, mCons] at e
    cases h1 : m ρ g with
    | bad => rw [h1] at e; cases e
    | exc x g1 => rw [h1] at e; cases e
    | ok d g1 =>
      rw [h1] at e
      simp only [Res.bind] at e
      cases h2 : evPs l ρ g1 with
      | bad => rw [h2] at e; cases e
      | exc x g1 => rw [h2] at e; cases e
      | ok es g2 =>
        rw [h2] at e
        cases e
        rw [List.length_cons, List.length_cons, ih h2]
/-- an error stays told when more is known to be free -/
theorem ExcR.fewer {T : Wd} {ι : List Addr} {bar bar' : Addr → Prop} {H : Hp} {x : Xc} {cls : Value} {dx : Option Addr} (hb : ∀ a, bar' a → bar a) (h : ExcR T ι bar H x cls dx) : ExcR T ι bar' H x cls dx := by
  obtain ⟨e, d, ws, e1, r, l, q, n⟩ := h
  exact ⟨e, d, ws, e1, r.fewer hb, l, q, fun z => n (hb _ z)⟩
section
variable {T : Wd} {W : WX} {X : Cx} {pos : Pos} {keys : List (Option Expr)} {values : List Expr} {l : List (Str × Ev)}
theorem ee_cell (h : EPs T W X pos keys values l) (hall : keys.all (·.isSome) = true := by rfl) (hl : keys.length = values.length := by rfl) (h0 : keys ≠ [] := by exact fun z => nomatch z)
    (h15 : keys.length ≤ 15 := by decide) (hk : l.length ≤ 15 := by decide) (nd : (l.map (·.1)).Nodup := by decide) : EE T W X (.Dict keys values pos) (mCellN l) := PE.imp (pe_disp h hall hl h0 h15) fun σ H Q ⟨γ, ρ, g, S, p⟩ => by
  intro P hP
  have nι : P ∉ γ.ι := fun z => S.cells.tracked P z hP
  have S1 := S.lay (o := .dK []) hP
  refine pairs_test ⟨_, ρ, g, S1, ?_⟩
  unfold mCellN at p
  revert p
  cases hm : evPs l ρ g with
  | bad => exact fun p => p
  | exc x g1 => exact fun p cls dx ι' H' s1 G1 r1 => p cls dx ι' H' ((Stp.same (same_lay hP)).trans s1) (G1.fewer add_fw) (r1.fewer add_fw)
  | ok ds g1 =>
    intro p vs ι1 H1 s1 G1 r1 hlen
    have hP1 : H1 P = some (.dK []) := s1.ext P _ upd_same nι
    have so : Soft (.dK []) := fun i => i
    have n1 : P ∉ ι1 := s1.not (by rw [upd_same]; simp) nι
    have s2 : Stp γ.ι ι1 H (era H1 P) := by
      have := s1.era (p := P)
      rw [upd_era hP] at this
      exact this
    have G2 : GR T ι1 (γ.to ι1).bar (era H1 P) g1 := (G1.era (γ.to ι1).add_self hP1 so n1).fewer add_fw
    have S2 := S.step s2 G2
    have ee := evPs_len hm
    have kl : (l.map fun q => V.str q.1).zip vs = (kvS (l.map (·.1)) vs).map (fun kv => (kV kv.1, kv.2)) := by
      have : ∀ (ks : List Str) (vs : List V), (ks.map V.str).zip vs = (kvS ks vs).map (fun kv => (kV kv.1, kv.2)) := by
        intro ks
        induction ks with
        | nil => intro vs; rfl
        | cons k ks ih => intro vs; cases vs with
          | nil => rfl
          | cons v vs => simp [kvS, kV] at ih ⊢; exact ih vs
      have := this (l.map (·.1)) vs
      rw [List.map_map] at this
      exact this
    refine ⟨hP1, kvS (l.map (·.1)) vs, kl, by simp [kvS]; omega, ?_⟩
    have mk : mergeK [] (kvS (l.map (·.1)) vs) = kvS (l.map (·.1)) vs := by
      rw [mergeK_nodup _ [] ?_]; rfl
      have : (kvS (l.map (·.1)) vs).map (·.1) = (l.map (·.1)).map Sum.inr := by
        unfold kvS
        rw [List.map_fst_zip]
        simp [hlen]
      rw [List.nil_append, this]
      exact List.Pairwise.map _ (fun a b (z : a ≠ b) (q : (Sum.inr a : Key) = Sum.inr b) => z (by injection q)) nd
    rw [mk]
    have ue : upd H1 P (.dK (kvS (l.map (·.1)) vs)) = upd (era H1 P) P (.dK (kvS (l.map (·.1)) vs)) := by
      funext a
      by_cases e : a = P
      · subst e; rw [upd_same, upd_same]
      · rw [upd_ne e, upd_ne e, era_ne e]
    rw [ue]
    have nP : era H1 P P = none := era_self
    have st : Stp γ.ι (ι1 ++ [P]) H (upd (era H1 P) P (.dK (kvS (l.map (·.1)) vs))) := by
      have s3 := s2.trans (.same (same_lay (o := .dK (kvS (l.map (·.1)) vs)) nP))
      obtain ⟨m, e, f⟩ := s3.pre
      refine ⟨s3.ext, s3.imm, s3.live, m ++ [P], by rw [e, List.append_assoc], fun a ha => ?_⟩
      rcases List.mem_append.mp ha with h | h
      · exact f a h
      · simp at h; rw [h]; exact hP
    have fw : ∀ a, (γ.to (ι1 ++ [P])).bar a → ((γ.to ι1).add P).bar a := fun a h => by
      rcases h with h | h | h
      · have h : a ∈ ι1 ++ [P] := h
        rcases List.mem_append.mp h with h | h
        · exact add_fw a (.inl h)
        · simp at h; exact Gho.add_bar.mpr (.inr h)
      · exact add_fw a (.inr (.inl h))
      · exact add_fw a (.inr (.inr h))
    have gr : Grows (era H1 P) (γ.to ι1).bar (γ.to (ι1 ++ [P])).bar := fun a h => by
      rcases Gho.add_bar.mp (fw a h) with h | h
      · exact .inl h
      · exact .inr (h ▸ nP)
    have smm : Stp ι1 (ι1 ++ [P]) (era H1 P) (upd (era H1 P) P (.dK (kvS (l.map (·.1)) vs))) := by
      have s3 : Stp ι1 ι1 (era H1 P) (upd (era H1 P) P (.dK (kvS (l.map (·.1)) vs))) := .same (same_lay nP)
      exact ⟨s3.ext, s3.imm, s3.live, [P], rfl, fun a ha => by simp at ha; rw [ha]; exact nP⟩
    refine p (.ref P) (ι1 ++ [P]) _ st ⟨?_, ?_, fun n c e => ?_⟩ ?_
    · rw [List.length_append, List.length_append, G2.len]; rfl
    · rw [List.nodup_append]
      refine ⟨G2.nd, by simp, fun a ha b hb z => ?_⟩
      simp at hb
      exact n1 (hb ▸ z ▸ ha)
    · by_cases hn : n < g1.length
      · rw [List.getElem?_append_left hn] at e
        obtain ⟨a, e1, rc⟩ := G2.at_ n c e
        refine ⟨a, by rw [List.getElem?_append_left (by rw [G2.len]; exact hn)]; exact e1, ?_⟩
        cases c with
        | dk ks vs =>
          obtain ⟨ws, q1, q2, q3⟩ := rc
          exact ⟨ws, q1.keep smm (γ.to ι1).bi gr, q2, by rw [upd_ne (ne_of_none q3 nP)]; exact q3⟩
        | tb q =>
          obtain ⟨eP, ps, q1, q2, q3⟩ := rc
          refine ⟨eP, ps, by rw [upd_ne (ne_of_none q1 nP)]; exact q1, q2, fun pos cv hcv => ?_⟩
          obtain ⟨c2, u1, u2, u3⟩ := q3 pos cv hcv
          exact ⟨c2, u1, by rw [upd_ne (ne_of_none u2 nP)]; exact u2, nbar_keep gr (some_ne u2) u3⟩
      · rw [List.getElem?_append_right (by omega)] at e
        have hz : n - g1.length = 0 := by
          cases q : n - g1.length with
          | zero => rfl
          | succ k => rw [q] at e; simp at e
        rw [hz] at e
        cases e
        refine ⟨P, by rw [List.getElem?_append_right (by rw [G2.len]; omega), G2.len, hz]; rfl, vs, ?_, by rw [List.length_map, ee], upd_same⟩
        exact ((r1.era (γ.to ι1).add_self hP1 so).fewer add_fw).keep smm (γ.to ι1).bi gr
    · simp only [RelD]
      exact ⟨P, by rw [List.getElem?_append_right (by rw [G2.len]; exact Nat.le_refl _), G2.len, Nat.sub_self]; rfl, rfl⟩
/-! ### its entries -/
def mGetC (o : Ev) (k : Str) : Ev := fun ρ g => match o ρ g with
  | .ok (.ref n) g' => match g'[n]? with
    | some (.dk ks vs) => match luS ks vs k with
      | some d => .ok d g'
      | none => .bad
    | _ => .bad
  | .exc x g' => .exc x g'
  | _ => .bad
theorem RelW.ref {T : Wd} {ι : List Addr} {bar : Addr → Prop} {H : Hp} {n : Nat} {x : V} (h : RelW T ι bar H (.ref n) x) : ∃ a, ι[n]? = some a ∧ x = .ref a := by
  rcases h with h | ⟨a, _, _, h⟩
  · simpa only [RelD] using h
  · exact h.elim
theorem ee_cget {o : Expr} {mo : Ev} {k : Str} {j} {p : Pos} (rm : Rm X) (ho : EW T W X o mo) (hs : NoSl (.Constant (.str k) j p) := by exact fun _ _ => rfl) : EE T W X (.Subscript o (.Constant (.str k) j p) pos) (mGetC mo k) := PE.imp (pe_dget (Nat.lt_of_le_of_lt (Nat.add_le_add_left (by decide) _) rm.hu) ho pe_str hs) fun σ H Q ⟨γ, ρ, g, S, p⟩ => by
  refine ⟨γ, ρ, g, S, ?_⟩
  unfold mGetC at p
  revert p
  cases mo ρ g with
  | bad => exact fun p => p
  | exc x g1 => exact fun p => p
  | ok d g1 =>
    cases d with
    | ref n =>
      dsimp only
      cases hg : g1[n]? with
      | none => exact fun p => p.elim
      | some c =>
        cases c with
        | dk ks vs =>
          dsimp only
          cases hl : luS ks vs k with
          | none => exact fun p => p.elim
          | some d =>
            intro p v ι1 H1 s1 G1 r1
            obtain ⟨a, e1, rfl⟩ := RelW.ref r1
            obtain ⟨b, e2, ws, q1, q2, q3⟩ := G1.at_ n _ hg
            have : b = a := by rw [e1] at e2; cases e2; rfl
            subst this
            obtain ⟨u, e3, r3⟩ := valV_zip q1 hl
            refine ⟨b, u, rfl, ?_, p u ι1 H1 s1 G1 r3⟩
            have := DGet.k (k := Sum.inr k) q3
            rw [e3] at this
            exact this
        | tb q => exact fun p => p.elim
    | _ => exact fun p => p.elim
def setC (g : G) (n : Nat) (k : Str) (d : D) : Option G := match g[n]? with
  | some (.dk ks vs) => match ixS ks k with
    | some j => if ks.Nodup ∧ ks.length ≤ 1000 then some (g.set n (.dk ks (vs.set j d))) else none
    | none => none
  | _ => none
/-- o[k] = e -/
def sSetC (o : Ev) (k : Str) (m : Ev) : Sm := fun ρ g => match m ρ g with
  | .ok d g1 => match o ρ g1 with
    | .ok (.ref n) g2 => match setC g2 n k d with
      | some g3 => .nx ρ g3
      | none => .bad
    | .exc x g2 => .exc x ρ g2
    | _ => .bad
  | .exc x g1 => .exc x ρ g1
  | .bad => .bad
theorem ss_cset {o e : Expr} {mo me : Ev} {k : Str} {j} {p pos' : Pos} (rm : Rm X) (ho : EW T W X o mo) (he : EE T W X e me) (hs : swapsWith e (some (.Subscript o (.Constant (.str k) j p) pos')) pos.line X.env = pure false := by rfl) :
    SS T W X (.Assign [.Subscript o (.Constant (.str k) j p) pos'] e pos) (sSetC mo k me) := PS.imp (ps_dput (Nat.lt_of_le_of_lt (Nat.add_le_add_left (by decide) _) rm.hu) ho pe_str he hs) fun D' σ H ⟨E0, γ, ρ, g, S, p⟩ => by
  refine ⟨γ, ρ, g, S.st, ?_⟩
  unfold sSetC at p
  revert p
  cases me ρ g with
  | bad => exact fun p => p
  | exc x g1 => exact fun p cls dx ι' H' s1 G1 r1 => p (γ.to ι') σ H' cls dx (S.step s1 G1) r1
  | ok d g1 =>
    intro p v ι1 H1 s1 G1 r1
    have S1 := S.step s1 G1
    refine ⟨_, ρ, g1, S1.st, ?_⟩
    dsimp only at p
    revert p
    cases mo ρ g1 with
    | bad => exact fun p => p
    | exc x g2 => exact fun p cls dx ι' H' s2 G2 r2 => p (γ.to ι') σ H' cls dx (S1.step s2 G2) r2
    | ok f g2 =>
      cases f with
      | ref n =>
        dsimp only
        cases hc : setC g2 n k d with
        | none => exact fun p => p.elim
        | some g3 =>
          intro p x ι2 H2 s2 G2 r2
          have S2 := S1.step s2 G2
          obtain ⟨a, e1, rfl⟩ := RelW.ref r2
          unfold setC at hc
          cases hg : g2[n]? with
          | none => rw [hg] at hc; cases hc
          | some c =>
            cases c with
            | dk ks vs =>
              rw [hg] at hc
              dsimp only at hc
              cases hj : ixS ks k with
              | none => rw [hj] at hc; cases hc
              | some jj =>
                rw [hj] at hc
                dsimp only at hc
                split at hc
                · rename_i hnd
                  cases hc
                  obtain ⟨b, e2, ws, q1, q2, q3⟩ := G2.at_ n _ hg
                  have : b = a := by rw [e1] at e2; cases e2; rfl
                  subst this
                  have hbι : b ∈ ι2 := List.mem_of_getElem? e1
                  have hb : ((γ.to ι1).to ι2).bar b := .inl hbι
                  have so : Soft (.dK (kvS ks ws)) := fun i => i
                  have wl := q1.length
                  refine ⟨b, _, rfl, .inl ⟨_, Sum.inr k, q3, rfl, ?_, rfl⟩, ?_⟩
                  · simp only [kvS, List.length_zip, List.length_map]
                    rw [sizeLine_eq]; omega
                  · rw [putK_zip v (by rw [q2, wl]) hnd.1 hj]
                    have st : Stp ι2 ι2 H2 (upd H2 b (.dK (kvS ks (ws.set jj v)))) := by
                      refine ⟨fun c u h nn => ?_, fun c u h im => ?_, fun c u h => ?_, [], by simp, by simp⟩
                      · rw [upd_ne fun z => nn (by rw [z]; exact hbι)]; exact h
                      · rw [upd_ne fun z => ?_]; exact h
                        subst z; rw [q3] at h; cases h; exact so im
                      · by_cases z : c = b
                        · rw [z]; exact ⟨_, upd_same⟩
                        · exact ⟨u, by rw [upd_ne z]; exact h⟩
                    refine p _ σ _ (S2.step (ι' := ι2) (g' := g2.set n (.dk ks (vs.set jj d))) st ⟨by rw [List.length_set]; exact G2.len, G2.nd, fun m c e => ?_⟩)
                    have rv := (r1.keep s2 (γ.to ι1).bi (Gho.grows s2))
                    by_cases z : n = m
                    · subst z
                      have hl : n < g2.length := (List.getElem?_eq_some_iff.mp hg).1
                      rw [List.getElem?_set_self hl] at e
                      cases e
                      exact ⟨b, e1, ws.set jj v, RelDs.set (rv.turn ((γ.to ι1).to ι2).bi hb q3 so) jj (q1.turn ((γ.to ι1).to ι2).bi hb q3 so), by rw [List.length_set]; exact q2, upd_same⟩
                    · rw [List.getElem?_set_ne z] at e
                      obtain ⟨c', e4, rc⟩ := G2.at_ m c e
                      have nc : c' ≠ b := fun q => z (by
                        have h1 := List.getElem?_eq_some_iff.mp e1
                        have h2 := List.getElem?_eq_some_iff.mp e4
                        obtain ⟨l1, h1⟩ := h1
                        obtain ⟨l2, h2⟩ := h2
                        exact nodup_ix G2.nd (by rw [List.getElem?_eq_getElem l1, List.getElem?_eq_getElem l2, h1, h2, q]) l1)
                      refine ⟨c', e4, ?_⟩
                      cases c with
                      | dk ks2 vs2 =>
                        obtain ⟨ws2, t1, t2, t3⟩ := rc
                        exact ⟨ws2, t1.turn ((γ.to ι1).to ι2).bi hb q3 so, t2, by rw [upd_ne nc]; exact t3⟩
                      | tb q =>
                        obtain ⟨eP, ps, t1, t2, t3⟩ := rc
                        refine ⟨eP, ps, by rw [upd_ne nc]; exact t1, t2, fun pos cv hcv => ?_⟩
                        obtain ⟨c2, u1, u2, u3⟩ := t3 pos cv hcv
                        exact ⟨c2, u1, by rw [upd_ne fun z => u3 (by rw [z]; exact hb)]; exact u2, u3⟩
                · cases hc
            | tb q => rw [hg] at hc; cases hc
      | _ => exact fun p => p.elim
end
end Z

namespace Z
open PySem PySem.Spec PyProof.Rows L2
set_option autoImplicit false

/-! ### what a def is, as data -/
abbrev Den := List D → G → Res D
/-- the promise -/
def spD (T : Wd) (den : Den) (vs : List V) (H : Hp) (Q : VK) (E : XK) : Prop :=
  ∃ (γ : Gho) (ds : List D) (g : G), GR T γ.ι γ.bar H g ∧ (∀ i, γ.oa i = none) ∧ (∀ a, γ.av a → H a ≠ none) ∧ RelDs T γ.ι γ.bar H ds vs ∧ Post T γ H [] (fun cls dx _ H' => E cls dx H') (rD T) Q (den ds g)
/-- a def at f does what den says: k levels of room -/
structure FnG (T : Wd) (mg : Str → Option Value) (base : Heap) (k : Nat) (f : Addr) (fd : FuncData) (ps : List Str) (den : Den) : Prop where
  run : ∀ (A : Around) (outer : List PySem.Env) (s : Shared) (H : Hp) (args : Args) (us : List Value) (vs : List V) (Q : VK) (E : XK), Room k A → A.guards = some [] → Env0 T.P T.w T.K mg base A outer s H → BindsTo s fd args (ps.zip us) → Vals vs us → vs.length = ps.length → spD T den vs H Q E →
    codeAny (model T.P T.w) A (.call (.ref f) args) (CR (L2.CX T.P T.w) outer T.P T.w H s Q E) s
theorem FnG.mono {T : Wd} {mg : Str → Option Value} {base : Heap} {j k : Nat} {f : Addr} {fd : FuncData} {ps : List Str} {den : Den} (F : FnG T mg base j f fd ps den) (h : j ≤ k) : FnG T mg base k f fd ps den :=
  ⟨fun A outer s H args us vs Q E hr => F.run A outer s H args us vs Q E (hr.mono h)⟩
/-- the slots at the entry -/
def entE (n : Nat) (ds : List D) : Z.Env := ds.map Sl.val ++ List.replicate (n - ds.length) .no
def denOf (n : Nat) (m : Sm) : Den := fun ds g => match m (entE n ds) g with
  | .rt d g' => .ok d g'
  | .nx _ g' => .ok .non g'
  | .exc x _ g' => .exc x g'
  | _ => .bad
section
variable {T : Wd} {mg : Str → Option Value} {base : Heap} {k : Nat} {f : Addr} {x qual : Str} {params : Arguments} {body : List Stmt} {scope : Scope} {dvs : List V} {kws : List (Str × V)} {fd : FuncData} {N ps : List Str}
theorem ent_str {γ : Gho} {H : Hp} {g : G} {ds : List D} {vs : List V} (GG : GR T γ.ι γ.bar H g) (ho : ∀ i, γ.oa i = none) (hv : ∀ a, γ.av a → H a ≠ none) (r : RelDs T γ.ι γ.bar H ds vs) (n : Nat) : StR T γ H (entE n ds) (L2.start (List.replicate n "") vs) g := by
  have hl := r.length
  refine ⟨by simp [entE, L2.start, hl], fun i d e => ?_, fun i d e => ?_, fun i a e => ?_, fun i j a e => ?_, fun i a e => ?_, hv, GG, fun i k e => ?_⟩
  · have hi : i < ds.length := by
      by_cases hi : i < ds.length
      · exact hi
      · unfold entE at e
        rw [List.getElem?_append_right (by simpa using hi), List.getElem?_replicate] at e
        split at e <;> cases e
    unfold entE at e
    rw [List.getElem?_append_left (by simpa using hi), List.getElem?_map] at e
    cases q : ds[i]? with
    | none => rw [q] at e; cases e
    | some d' =>
      rw [q] at e; cases e
      obtain ⟨v, e1, r1⟩ := r.get q
      refine ⟨v, ?_, r1⟩
      unfold L2.start
      rw [List.getElem?_append_left (by rw [List.length_map, hl]; exact hi), List.getElem?_map, e1]; rfl
  · exfalso
    unfold entE at e
    by_cases hi : i < ds.length
    · rw [List.getElem?_append_left (by simpa using hi), List.getElem?_map] at e
      cases q : ds[i]? with
      | none => rw [q] at e; cases e
      | some d' => rw [q] at e; cases e
    · rw [List.getElem?_append_right (by simpa using hi), List.getElem?_replicate] at e
      split at e <;> cases e
  · rw [ho] at e; cases e
  · rw [ho] at e; cases e
  · rw [ho] at e; cases e
  · exfalso
    unfold entE at e
    by_cases hi : i < ds.length
    · rw [List.getElem?_append_left (by simpa using hi), List.getElem?_map] at e
      cases q : ds[i]? with
      | none => rw [q] at e; cases e
      | some d' => rw [q] at e; cases e
    · rw [List.getElem?_append_right (by simpa using hi), List.getElem?_replicate] at e
      split at e <;> cases e
theorem start_len {N : List Str} {vs : List V} : L2.start N vs = L2.start (List.replicate N.length "") vs := by simp [L2.start]
/-- what is known of a def's context -/
structure DefX (T : Wd) (mg : Str → Option Value) (base : Heap) (k : Nat) (X : Cx) (W : WX) : Prop where
  ok : Ok T X
  rm : Rm X
  room : Room k X.A
  mg : X.mg = mg
  base : X.base = base
  tk : Takes X W
  calm : X.calm = true
theorem DefX.blk {X : Cx} {W : WX} (d : DefX T mg base k X W) {s : Shared} {H : Hp} {sc : Scope} {ce : PySem.Env} {fp : List Addr} : DefX T mg base k (X.blk s H sc ce fp) W0 := by
  refine ⟨⟨d.ok.P, d.ok.w, d.ok.K⟩, ⟨d.rm.hu, d.rm.hg⟩, d.room, d.mg, d.base, fun _ _ x => ?_, d.calm⟩
  obtain ⟨_, _, _, _, _, _, _, _, _, _, _, _, _, _, _, _, z⟩ := x
  exact z.elim
theorem fn_denC (F : FunD T.K x qual params body scope dvs kws f fd) (S : FnScope N ps scope) {m : Sm}
    (hbody : ∀ (cdv : Value), (∃ oc od osl, T.K.lookup f = some ⟨oc, od, .func fd, osl⟩ ∧ fd.code = cdv ∧ PySem.W.codeIn T.K cdv qual = true) → ∀ (A : Around) (outer : List PySem.Env) (s : Shared) (H : Hp) (E : XK), DefX T mg base k (cxOf (L2.CX T.P T.w) T.P T.w T.K mg base N qual scope f cdv A outer s H E) (fun cls dx _ H' => E cls dx H') →
      PassesOwn (model T.P T.w) (A.deeper (envOfC qual scope s.heap.objs.size f cdv)) (envOfC qual scope s.heap.objs.size f cdv) (cxOf (L2.CX T.P T.w) T.P T.w T.K mg base N qual scope f cdv A outer s H E).xe → SB T (fun cls dx _ H' => E cls dx H') (cxOf (L2.CX T.P T.w) T.P T.w T.K mg base N qual scope f cdv A outer s H E) body m) : FnG T mg base (k + 1) f fd ps (denOf N.length m) := by
  obtain ⟨oc, od, dV, kV, doc, pm, an, cdv, ct, osl, hfd, lk, hcd, _, _⟩ := F.ex
  refine ⟨fun A outer s H args us vs Q E hr hg e0 hb r hl hsp => ?_⟩
  have hcc : ∃ oc od osl, T.K.lookup f = some ⟨oc, od, .func fd, osl⟩ ∧ fd.code = cdv ∧ PySem.W.codeIn T.K cdv qual = true := ⟨_, _, _, lk, by rw [hfd] <;> rfl, hcd⟩
  subst hfd
  have inK : T.K.In s.heap := e0.mod.kin.keeps fun b o q => (e0.bs b o q).1
  have noL : s.heap.NoLimit := e0.mod.nolimit.keeps fun b o q => (e0.bs b o q).1
  have kinds : ∀ y ∈ ps.zip us, scope.names.lookup y.1 = some .local ∨ (scope.names.lookup y.1 = some .cell ∧ ((cellsFrom (s.heap.objs.size + 1) scope.names []).lookup y.1).isSome = true) := by
    rintro ⟨n, v⟩ hy
    rcases S.par n (List.of_mem_zip hy).1 with q | q
    · left; exact q
    · right; exact ⟨q, PySem.W.cellsFrom_some _ _ _ (.inl q)⟩
  refine codeAny_call_function hr.depth (inK _ _ lk) rfl S.co S.gen rfl (PySem.W.codeRec_of inK hcd) (hb _ _ _ _ ?_)
  refine wpAny_newFunctionEnv_cells S.kind kinds fun env he s1 x1 => ?_
  subst he
  refine ⟨noL.keeps x1.toInCall.keep, codeAny_func ?_⟩
  have R2 := hr.deeper (envOfC qual scope s.heap.objs.size f cdv)
  have hX : DefX T mg base k (cxOf (L2.CX T.P T.w) T.P T.w T.K mg base N qual scope f cdv A outer s H E) (fun cls dx _ H' => E cls dx H') := by
    refine ⟨⟨rfl, rfl, rfl⟩, ⟨?_, hg⟩, R2, rfl, rfl, takes_of rfl rfl rfl rfl, rfl⟩
    have := R2.un
    show (A.deeper (envOfC qual scope s.heap.objs.size f cdv)).units + 120 < cLine
    omega
  have I := inv_start (CX := L2.CX T.P T.w) (E := E) (qual := qual) (f := f) (cd := cdv) S hr.hd e0 hl r x1
  obtain ⟨γ, ds, g, GG, ho, hv, rs, p⟩ := hsp
  have St := ent_str GG ho hv rs N.length
  rw [← start_len] at St
  have ends : ∀ {σ' : L2.St} {H' : Hp} {v : V} {u : Value} {s' : Shared}, Inv (cxOf (L2.CX T.P T.w) T.P T.w T.K mg base N qual scope f cdv A outer s H E) [] σ' H' s' → RelV v u → Q v H' → CE outer T.P T.w H s Q u s' := fun {σ' H' v u s'} J rv q => ⟨v, H', J.os, J.bare, J.base, J.hok, rv, q⟩
  refine wpAny_mono ((hbody cdv hcc A outer s H E hX (passes_of rfl)).run [] s1 (L2.start N vs) H { nx := fun _ H' => Q .non H', rt := Q, bk := fun _ _ => False, ct := fun _ _ => False } I ⟨⟨γ.ι, H, γ.av, [], []⟩, γ, entE N.length ds, g, ⟨St, .refl, rfl, fun i a q => (by rw [ho] at q; cases q), .nil⟩, ?_⟩) (fun fl s' hs => ?_) fun e s' hs => hs
  · unfold denOf at p
    revert p
    have drp : ∀ {γ' : Gho} {a : Addr}, (γ.to γ'.ι).bar a → γ'.av = γ.av → γ'.bar a := by
      rintro γ' a (q | ⟨i, q⟩ | q) e
      · exact .inl q
      · rw [ho] at q; cases q
      · exact .inr (.inr (e ▸ q))
    cases m (entE N.length ds) g with
    | nx ρ' g' =>
      intro p γ' σ' H' S'
      exact p .non γ'.ι H' S'.ent (S'.st.cells.fewer fun a q => drp q S'.fav) RelD.ofNon
    | rt d g' =>
      intro p v γ' H' fa ow st G' r'
      exact p v γ'.ι H' st (G'.fewer fun a q => drp q fa) (r'.fewer fun a q => drp q fa)
    | bk ρ' g' => exact fun p => p.elim
    | ct ρ' g' => exact fun p => p.elim
    | exc xc ρ' g' =>
      intro p γ' σ' H' cls dx S' r'
      exact p cls dx γ'.ι H' S'.ent (S'.st.cells.fewer fun a q => drp q S'.fav) (r'.fewer fun a q => drp q S'.fav)
    | bad => exact fun p => p
  · cases fl with
    | ret u =>
      obtain ⟨v, σ', H', J, rv, q⟩ := hs
      exact ends J rv q
    | next =>
      obtain ⟨σ', H', J, q⟩ := hs
      exact ends (v := V.non) (u := Value.none) J rfl q
    | brk =>
      obtain ⟨_, _, _, q⟩ := hs
      exact q.elim
    | cont =>
      obtain ⟨_, _, _, q⟩ := hs
      exact q.elim
theorem fn_den (F : FunD T.K x qual params body scope dvs kws f fd) (S : FnScope N ps scope) {m : Sm}
    (hbody : ∀ (cdv : Value) (A : Around) (outer : List PySem.Env) (s : Shared) (H : Hp) (E : XK), DefX T mg base k (cxOf (L2.CX T.P T.w) T.P T.w T.K mg base N qual scope f cdv A outer s H E) (fun cls dx _ H' => E cls dx H') →
      PassesOwn (model T.P T.w) (A.deeper (envOfC qual scope s.heap.objs.size f cdv)) (envOfC qual scope s.heap.objs.size f cdv) (cxOf (L2.CX T.P T.w) T.P T.w T.K mg base N qual scope f cdv A outer s H E).xe → SB T (fun cls dx _ H' => E cls dx H') (cxOf (L2.CX T.P T.w) T.P T.w T.K mg base N qual scope f cdv A outer s H E) body m) : FnG T mg base (k + 1) f fd ps (denOf N.length m) := fn_denC F S fun cdv _ => hbody cdv
end
/-! ### calls -/
def mCall (den : Den) (m : EvL) : Ev := fun ρ g => (m ρ g).bind fun ds g1 => den ds g1
/-- the callee's view of the caller's ghost -/
def Gho.out (γ : Gho) : Gho := { ι := γ.ι, oa := fun _ => none, av := fun a => γ.av a ∨ ∃ i, γ.oa i = some a }
theorem Gho.out_bar {γ : Gho} {a : Addr} : γ.out.bar a ↔ γ.bar a := by
  constructor
  · rintro (h | ⟨i, h⟩ | h | ⟨i, h⟩)
    · exact .inl h
    · cases h
    · exact .inr (.inr h)
    · exact .inr (.inl ⟨i, h⟩)
  · rintro (h | ⟨i, h⟩ | h)
    · exact .inl h
    · exact .inr (.inr (.inr ⟨i, h⟩))
    · exact .inr (.inr (.inl h))
theorem out_to {γ : Gho} {ι' : List Addr} {a : Addr} : (γ.out.to ι').bar a ↔ (γ.to ι').bar a := Gho.out_bar (γ := γ.to ι')
theorem spD_of {T : Wd} {W : WX} {den : Den} {γ : Gho} {H : Hp} {ρ : Env} {σ : L2.St} {g : G} {ds : List D} {vs : List V} {Q : VK} (S : StR T γ H ρ σ g) (r : RelDs T γ.ι γ.bar H ds vs) (p : Post T γ H σ W (rD T) Q (den ds g)) : spD T den vs H Q (WE W σ) := by
  refine ⟨γ.out, ds, g, S.cells.fewer fun a h => Gho.out_bar.mp h, fun _ => rfl, fun a h => S.bart a (Gho.out_bar.mp (.inr (.inr h))), r.fewer fun a h => Gho.out_bar.mp h, ?_⟩
  revert p
  cases den ds g with
  | bad => exact fun p => p
  | exc x g' => exact fun p cls dx ι' H' s1 G1 r1 => p cls dx ι' H' s1 (G1.fewer fun a h => out_to.mpr h) (r1.fewer fun a h => out_to.mpr h)
  | ok d g' => exact fun p v ι' H' s1 G1 r1 => p v ι' H' s1 (G1.fewer fun a h => out_to.mpr h) (r1.fewer fun a h => out_to.mpr h)
/-- what a function name stands for -/
structure FnN (T : Wd) (mg : Str → Option Value) (base : Heap) (k : Nat) (x : Str) (ps : List Str) (f : Addr) (fd : FuncData) (den : Den) : Prop where
  fn : FnG T mg base k f fd ps den
  gl : mg x = some (.ref f)
  kp : PySem.W.keepIn T.K (.ref f) = true
section
variable {T : Wd} {W : WX} {X : Cx} {mg : Str → Option Value} {base : Heap} {k : Nat} {x : Str} {ps : List Str} {f : Addr} {fd : FuncData} {den : Den} {p pos : Pos} {e : Expr} {es : List Expr} {m mk : EvL}
theorem run_fnG {pins : List (Addr × Obj)} {σ : L2.St} {H : Hp} {s : Shared} {Q : VK} {us : List Value} {vs : List V} {args : Args} (F : FnN T mg base k x ps f fd den) (dx : DefX T mg base k X W) (hb : BindsTo s fd args (ps.zip us)) (I : Inv X pins σ H s) (r : Vals vs us) (hl : vs.length = ps.length) (h : spD T den vs H Q (WE W σ)) :
    codeAny (model X.prog X.w) X.A (.call (.ref f) args) (fun r s' => match r with
      | .ok (.ret u) => EP X pins σ Q u s'
      | .ok _ => False
      | .error e => X.xe e s') s := by
  have e0 := I.env0
  have key : codeAny (model T.P T.w) X.A (.call (.ref f) args) (CR (L2.CX T.P T.w) X.stack T.P T.w H s Q (WE W σ)) s := by
    refine F.fn.run X.A X.stack s H args us vs Q _ dx.room dx.rm.hg ?_ hb r hl h
    rw [← dx.ok.P, ← dx.ok.w, ← dx.ok.K, ← dx.mg, ← dx.base]
    exact e0
  rw [← dx.ok.P, ← dx.ok.w] at key
  refine codeAny_mono key fun r s' hq => ?_
  cases r with
  | error er => exact passAt dx.tk σ pins H s er s' I hq
  | ok fl =>
    cases fl with
    | ret u => exact I.after hq
    | next => exact hq
    | brk => exact hq
    | cont => exact hq
/-- how a call binds: the written values, the keywords' values; the parameters' values -/
structure Bd (K : PySem.W.Frag) (fd : FuncData) (ps : List Str) (n : Nat) (ks : List Str) (gV : List V → List V → List V) (gD : List D → List D → List D) : Prop where
  to : ∀ (s : Shared) (us ws : List Value) (vs zs : List V), K.In s.heap → us.length = n → ws.length = ks.length → Vals vs us → Vals zs ws → ∃ xs, BindsTo s fd ⟨us, ks.zip ws⟩ (ps.zip xs) ∧ Vals (gV vs zs) xs ∧ (gV vs zs).length = ps.length
  rel : ∀ {T : Wd} {ι : List Addr} {bar : Addr → Prop} {H : Hp} {ds es : List D} {vs zs : List V}, ds.length = n → es.length = ks.length → RelDs T ι bar H ds vs → RelDs T ι bar H es zs → RelDs T ι bar H (gD ds es) (gV vs zs)
def mCallB (den : Den) (n : Nat) (q : Nat) (gD : List D → List D → List D) (m mk : EvL) : Ev := fun ρ g => (m ρ g).bind fun ds g1 => (mk ρ g1).bind fun es g2 => if ds.length = n ∧ es.length = q then den (gD ds es) g2 else .bad
abbrev EKs (T : Wd) (W : WX) (X : Cx) (kws : List Keyword) (m : EvL) : Prop := PK X kws (tX T W (rDs T) m)
theorem PK.imp {X : Cx} {e : List Keyword} {t t' : TA} (h : PK X e t) (i : ∀ σ H Q, t' σ H Q → t σ H Q) : PK X e t' := ⟨fun pos pins s σ H Q I q => h.run pos pins s σ H Q I (i σ H Q q)⟩
theorem eks_nil : EKs T W X [] mNil := PK.imp pk_nil fun σ H Q ⟨γ, ρ, g, S, p⟩ => p [] γ.ι H .refl S.cells .nil
theorem cons_imp {ma : Ev} {ms : EvL} {σ : L2.St} {H : Hp} {Q : List V → Hp → Prop} (h : tX T W (rDs T) (mCons ma ms) σ H Q) : tCons (tX T W (rD T) ma) (tX T W (rDs T) ms) σ H Q := by
  obtain ⟨γ, ρ, g, S, p⟩ := h
  refine ⟨γ, ρ, g, S, p.bind fun d g1 _ v ι1 H1 s1 G1 r1 p1 => ?_⟩
  have S1 := S.step s1 G1
  refine ⟨_, ρ, g1, S1, p1.bind fun ds g2 _ vs ι2 H2 s2 G2 r2 p2 => ?_⟩
  exact p2.ret0 (g0 := g) (S1.step s2 G2) (.cons (r1.keep s2 (Gho.bi _) (Gho.grows s2)) r2)
theorem eks_cons {nm : Option Str} {kpos : Pos} {kws : List Keyword} {ma : Ev} {ms : EvL} (ha : EE T W X e ma) (hr : EKs T W X kws ms) : EKs T W X (⟨nm, e, kpos⟩ :: kws) (mCons ma ms) := PK.imp (pk_cons ha hr) fun _ _ _ h => cons_imp h
/-- the test behind the arguments -/
theorem call_post {γ : Gho} {H : Hp} {ρ : Env} {σ : L2.St} {g : G} {n : Nat} {ks : List Str} {gV : List V → List V → List V} {gD : List D → List D → List D} {ds es : List D} {vs zs : List V} {Q : VK} {pins : List (Addr × Obj)} {s : Shared} {us ws : List Value} (F : FnN T mg base k x ps f fd den) (dx : DefX T mg base k X W) (B : Bd T.K fd ps n ks gV gD)
    (I : Inv X pins σ H s) (ru : Vals vs us) (rw_ : Vals zs ws) (S : StR T γ H ρ σ g) (r1 : RelDs T γ.ι γ.bar H ds vs) (r2 : RelDs T γ.ι γ.bar H es zs) (p : Post T γ H σ W (rD T) Q (if ds.length = n ∧ es.length = ks.length then den (gD ds es) g else .bad)) : wpAny (model X.prog X.w) X.A (call (.ref f) us (ks.zip ws)) (EP X pins σ Q) X.xe s := by
  by_cases hl : ds.length = n ∧ es.length = ks.length
  · rw [if_pos hl] at p
    have inK : T.K.In s.heap := by rw [← dx.ok.K]; exact I.kIn
    have l1 : us.length = n := by rw [← ru.length, r1.length, hl.1]
    have l2 : ws.length = ks.length := by rw [← rw_.length, r2.length, hl.2]
    obtain ⟨xs, hb, rx, lx⟩ := B.to s us ws vs zs inK l1 l2 ru rw_
    refine wpAny_call (codeAny_mono (run_fnG F dx hb I rx lx (spD_of S (B.rel hl.1 hl.2 r1 r2) p)) fun r s' hq => ?_)
    cases r with
    | error er => exact hq
    | ok fl =>
      cases fl with
      | ret u => exact hq
      | next => exact hq
      | brk => exact hq
      | cont => exact hq
  · rw [if_neg hl] at p; exact p.elim
theorem ee_call {n : Nat} {gV : List V → List V → List V} {gD : List D → List D → List D} (F : FnN T mg base k x ps f fd den) (dx : DefX T mg base k X W) (B : Bd T.K fd ps n [] gV gD) (hg : Gl X x) (ha : EAs T W X (e :: es) m) (hdb : (x == ("__debug__" : Str)) = false := by decide)
    (he : starEach (e :: es) X.env = (false, eval e X.env) :: starEach es X.env := by rfl) (hpl : (backTo pos (starEach es X.env)).any (·.1) = false := by rfl) : EE T W X (.Call (.Name x p) (e :: es) [] pos) (mCallB den n 0 gD m mNil) := by
  refine ⟨fun pins s σ H Q I h => ?_⟩
  obtain ⟨γ, ρ, g, S, q⟩ := h
  have hk : PySem.W.keepIn X.K (.ref f) = true := by rw [dx.ok.K]; exact F.kp
  refine wpAny_Call_Name_kw (ld_glob I hg (by rw [dx.mg]; exact F.gl) ?_ hdb)
  refine PySem.W.callWith_K (h₀ := X.base) I.ok.mod.kin hk (thn (ha.run pos pins s σ H (fun vs H1 => ∃ γ1 g1 ds, StR T γ1 H1 ρ σ g1 ∧ RelDs T γ1.ι γ1.bar H1 ds vs ∧ Post T γ1 H1 σ W (rD T) Q (if ds.length = n ∧ ([] : List D).length = ([] : List Str).length then den (gD ds []) g1 else .bad)) I ⟨γ, ρ, g, S, q.bind fun ds g1 _ v ι1 H1 s1 G1 r1 p1 => ⟨γ.to ι1, g1, ds, S.step s1 G1, r1, p1⟩⟩) fun us s1 ⟨vs, H1, I1, r, γ1, g1, ds, S1, r1, p1⟩ => ⟨I1.kIn, ?_⟩) he hpl
  exact call_post F dx B I1 r .nil S1 r1 .nil p1
theorem ee_call0 {gV : List V → List V → List V} {gD : List D → List D → List D} (F : FnN T mg base k x ps f fd den) (dx : DefX T mg base k X W) (B : Bd T.K fd ps 0 [] gV gD) (hg : Gl X x) (hdb : (x == ("__debug__" : Str)) = false := by decide) : EE T W X (.Call (.Name x p) [] [] pos) (mCallB den 0 0 gD mNil mNil) := by
  refine ⟨fun pins s σ H Q I h => ?_⟩
  obtain ⟨γ, ρ, g, S, q⟩ := h
  have hk : PySem.W.keepIn X.K (.ref f) = true := by rw [dx.ok.K]; exact F.kp
  refine wpAny_Call_Name_kw (ld_glob I hg (by rw [dx.mg]; exact F.gl) ?_ hdb)
  exact PySem.W.callWith_K0 I.kIn hk (call_post (us := []) F dx B I .nil .nil S (ds := []) (es := []) .nil .nil q)
/-- .. with keywords -/
theorem ee_callK {n : Nat} {ks : List Str} {kws : List Keyword} {gV : List V → List V → List V} {gD : List D → List D → List D} (F : FnN T mg base k x ps f fd den) (dx : DefX T mg base k X W) (B : Bd T.K fd ps n ks gV gD) (hg : Gl X x) (ha : EAs T W X (e :: es) m) (hkw : EKs T W X kws mk)
    (hall : (backToKw pos (keywordEach kws X.env)).all (·.1.isSome) = true := by rfl) (hks : (backToKw pos (keywordEach kws X.env)).filterMap (·.1) = ks := by rfl)
    (hdb : (x == ("__debug__" : Str)) = false := by decide) (he : starEach (e :: es) X.env = (false, eval e X.env) :: starEach es X.env := by rfl)
    (hpl : ((backTo pos (starEach (e :: es) X.env)).any (·.1) || (backToKw pos (keywordEach kws X.env)).any (·.1.isNone)) = false := by rfl) : EE T W X (.Call (.Name x p) (e :: es) kws pos) (mCallB den n ks.length gD m mk) := by
  refine ⟨fun pins s σ H Q I h => ?_⟩
  obtain ⟨γ, ρ, g, S, q⟩ := h
  have hk : PySem.W.keepIn X.K (.ref f) = true := by rw [dx.ok.K]; exact F.kp
  refine wpAny_Call_Name_kw (ld_glob I hg (by rw [dx.mg]; exact F.gl) ?_ hdb)
  refine PySem.W.callWith_KW (h₀ := X.base) I.ok.mod.kin hk hall (thn (ha.run pos pins s σ H (fun vs H1 => ∃ γ1 g1 ds, StR T γ1 H1 ρ σ g1 ∧ RelDs T γ1.ι γ1.bar H1 ds vs ∧ Post T γ1 H1 σ W (rD T) Q ((mk ρ g1).bind fun es g2 => if ds.length = n ∧ es.length = ks.length then den (gD ds es) g2 else .bad)) I ⟨γ, ρ, g, S, q.bind fun ds g1 _ v ι1 H1 s1 G1 r1 p1 => ⟨γ.to ι1, g1, ds, S.step s1 G1, r1, p1⟩⟩) fun us s1 ⟨vs, H1, I1, r, γ1, g1, ds, S1, r1, p1⟩ => ?_) hpl he
  refine thn (hkw.run pos pins s1 σ H1 (fun zs H2 => ∃ γ2 g2 es, StR T γ2 H2 ρ σ g2 ∧ RelDs T γ2.ι γ2.bar H2 ds vs ∧ RelDs T γ2.ι γ2.bar H2 es zs ∧ Post T γ2 H2 σ W (rD T) Q (if ds.length = n ∧ es.length = ks.length then den (gD ds es) g2 else .bad)) I1 ⟨γ1, ρ, g1, S1, p1.bind fun es g2 _ zs ι2 H2 s2 G2 r2 p2 => ⟨γ1.to ι2, g2, es, S1.step s2 G2, r1.keep s2 γ1.bi (Gho.grows s2), r2, p2⟩⟩) fun ws s2 ⟨zs, H2, I2, rz, γ2, g2, es, S2, t1, t2, p2⟩ => ⟨I2.kIn, ?_⟩
  rw [hks]
  exact call_post F dx B I2 r rz S2 t1 t2 p2
theorem ee_callK0 {ks : List Str} {kws : List Keyword} {gV : List V → List V → List V} {gD : List D → List D → List D} (F : FnN T mg base k x ps f fd den) (dx : DefX T mg base k X W) (B : Bd T.K fd ps 0 ks gV gD) (hg : Gl X x) (hkw : EKs T W X kws mk)
    (hall : (backToKw pos (keywordEach kws X.env)).all (·.1.isSome) = true := by rfl) (hks : (backToKw pos (keywordEach kws X.env)).filterMap (·.1) = ks := by rfl)
    (hdb : (x == ("__debug__" : Str)) = false := by decide)
    (hpl : (backToKw pos (keywordEach kws X.env)).any (·.1.isNone) = false := by rfl) : EE T W X (.Call (.Name x p) [] kws pos) (mCallB den 0 ks.length gD mNil mk) := by
  refine ⟨fun pins s σ H Q I h => ?_⟩
  obtain ⟨γ, ρ, g, S, q⟩ := h
  have hk : PySem.W.keepIn X.K (.ref f) = true := by rw [dx.ok.K]; exact F.kp
  refine wpAny_Call_Name_kw (ld_glob I hg (by rw [dx.mg]; exact F.gl) ?_ hdb)
  refine PySem.W.callWith_KW0 (h₀ := X.base) I.ok.mod.kin hk hall ?_ hpl
  have q : Post T γ H σ W (rD T) Q ((mk ρ g).bind fun es g2 => if ([] : List D).length = 0 ∧ es.length = ks.length then den (gD [] es) g2 else .bad) := q
  refine thn (hkw.run pos pins s σ H (fun zs H2 => ∃ γ2 g2 es, StR T γ2 H2 ρ σ g2 ∧ RelDs T γ2.ι γ2.bar H2 es zs ∧ Post T γ2 H2 σ W (rD T) Q (if ([] : List D).length = 0 ∧ es.length = ks.length then den (gD [] es) g2 else .bad)) I ⟨γ, ρ, g, S, q.bind fun es g2 _ zs ι2 H2 s2 G2 r2 p2 => ⟨γ.to ι2, g2, es, S.step s2 G2, r2, p2⟩⟩) fun ws s2 ⟨zs, H2, I2, rz, γ2, g2, es, S2, t2, p2⟩ => ⟨I2.kIn, ?_⟩
  rw [hks]
  exact call_post (us := []) (vs := []) (ds := []) F dx B I2 .nil rz S2 .nil t2 p2
end
end Z

namespace Z
open PySem PySem.Spec PyProof.Rows L2
set_option autoImplicit false

/-! ### how calls bind -/
/-- the parameters' values, by their places among: the written ones, the keywords', the defaults -/
def pkV {α : Type} (z : α) (pl : List Nat) (xs : List α) : List α := pl.map fun i => xs.getD i z
theorem pk_vals {pl : List Nat} {vs : List V} {us : List Value} (r : Vals vs us) (h : ∀ i ∈ pl, i < vs.length) : Vals (pkV V.non pl vs) (pkV Value.none pl us) := by
  induction pl with
  | nil => exact .nil
  | cons i pl ih =>
    have hi := h i (List.mem_cons_self ..)
    obtain ⟨u, e, ru⟩ := r.get (List.getElem?_eq_getElem hi)
    refine .cons ?_ (ih fun j hj => h j (List.mem_cons_of_mem _ hj))
    dsimp only
    rw [List.getD_eq_getElem?_getD, List.getD_eq_getElem?_getD, e, List.getElem?_eq_getElem hi]
    exact ru
theorem pk_rel {T : Wd} {ι : List Addr} {bar : Addr → Prop} {H : Hp} {pl : List Nat} {ds : List D} {vs : List V} (r : RelDs T ι bar H ds vs) (h : ∀ i ∈ pl, i < ds.length) : RelDs T ι bar H (pkV D.non pl ds) (pkV V.non pl vs) := by
  induction pl with
  | nil => exact .nil
  | cons i pl ih =>
    have hi := h i (List.mem_cons_self ..)
    obtain ⟨u, e, ru⟩ := r.get (List.getElem?_eq_getElem hi)
    refine .cons ?_ (ih fun j hj => h j (List.mem_cons_of_mem _ hj))
    dsimp only
    rw [List.getD_eq_getElem?_getD, List.getD_eq_getElem?_getD, e, List.getElem?_eq_getElem hi]
    exact ru
/-- plain defaults -/
def scV : D → Option V
  | .non => some .non
  | .bl b => some (.bl b)
  | .int i => some (.int i)
  | .str x => some (.str x)
  | _ => none
def scVs : List D → Option (List V)
  | [] => some []
  | d :: ds => match scV d, scVs ds with
    | some v, some vs => some (v :: vs)
    | _, _ => none
theorem scVs_rel {T : Wd} {ι : List Addr} {bar : Addr → Prop} {H : Hp} : ∀ {ds : List D} {vs : List V}, scVs ds = some vs → RelDs T ι bar H ds vs
  | [], vs, e => by cases e; exact .nil
  | d :: ds, vs, e => by
    simp only [scVs] at e
    split at e
    · rename_i v us h1 h2
      cases e
      refine .cons ?_ (scVs_rel h2)
      cases d <;> simp only [scV] at h1 <;> cases h1 <;> simp [RelD]
    · cases e
section
variable {K : PySem.W.Frag} {x qual : Str} {params : Arguments} {body : List Stmt} {scope : Scope} {f : Addr} {fd : FuncData} {ps : List Str} {dvs : List V}
/-- no default is used up -/
theorem bd_plain (F : FunD K x qual params body scope [] [] f fd) (n : Nat) (ks : List Str) (pl : List Nat) (hp : (pl.all fun i => decide (i < n + ks.length)) = true) (hl : pl.length = ps.length)
    (h : ∀ (kV doc pm : Value) (an : Option Addr) (cdv ct : Value) (us ws : List Value), us.length = n → ws.length = ks.length → bindArgs (PySem.W.fnOf x qual params body scope .none kV doc pm an cdv ct) ⟨us, ks.zip ws⟩ = pure (ps.zip (pkV Value.none pl (us ++ ws)))) :
    Bd K fd ps n ks (fun vs zs => pkV V.non pl (vs ++ zs)) (fun ds es => pkV D.non pl (ds ++ es)) := by
  have hp' : ∀ i ∈ pl, i < n + ks.length := fun i hi => of_decide_eq_true (List.all_eq_true.mp hp i hi)
  refine ⟨fun s us ws vs zs inK l1 l2 r1 r2 => ?_, fun {T ι bar H ds es vs zs} l1 l2 r1 r2 => ?_⟩
  · obtain ⟨oc, od, dV, kV, doc, pm, an, cdv, ct, osl, rfl, lk, hcd, hD, hK⟩ := F.ex
    have rr := r1.append r2
    have ll : (vs ++ zs).length = n + ks.length := by rw [rr.length, List.length_append, l1, l2]
    rcases hD with ⟨_, rfl⟩ | ⟨e, _⟩
    · exact ⟨_, .of_eq (h kV doc pm an cdv ct us ws l1 l2), pk_vals rr fun i hi => by rw [ll]; exact hp' i hi, by simp [pkV, hl]⟩
    · exact absurd rfl e
  · exact pk_rel (r1.append r2) fun i hi => by rw [List.length_append, l1, l2]; exact hp' i hi
theorem bd_dfl (F : FunD K x qual params body scope dvs [] f fd) (dD : List D) (hd : scVs dD = some dvs) (hne : dvs ≠ []) (n : Nat) (ks : List Str) (pl : List Nat) (hp : (pl.all fun i => decide (i < n + ks.length + dvs.length)) = true) (hl : pl.length = ps.length)
    (h : ∀ (A : Addr) (kV doc pm : Value) (an : Option Addr) (cdv ct : Value) (us ws its : List Value), us.length = n → ws.length = ks.length → its.length = dvs.length →
      ∃ k, bindArgs (PySem.W.fnOf x qual params body scope (.ref A) kV doc pm an cdv ct) ⟨us, ks.zip ws⟩ = seqItems? (.ref A) >>= k ∧ k (some its.toArray) = pure (ps.zip (pkV Value.none pl (us ++ ws ++ its)))) :
    Bd K fd ps n ks (fun vs zs => pkV V.non pl (vs ++ zs ++ dvs)) (fun ds es => pkV D.non pl (ds ++ es ++ dD)) := by
  have hp' : ∀ i ∈ pl, i < n + ks.length + dvs.length := fun i hi => of_decide_eq_true (List.all_eq_true.mp hp i hi)
  refine ⟨fun s us ws vs zs inK l1 l2 r1 r2 => ?_, fun {T ι bar H ds es vs zs} l1 l2 r1 r2 => ?_⟩
  · obtain ⟨oc, od, dV, kV, doc, pm, an, cdv, ct, osl, rfl, lk, hcd, hD, hK⟩ := F.ex
    rcases hD with ⟨e, _⟩ | ⟨_, A, o, its, m, rfl, lT, oT, rT⟩
    · exact absurd e hne
    · have rr := (r1.append r2).append rT
      have li := rT.length
      have ll : (vs ++ zs ++ dvs).length = n + ks.length + dvs.length := by rw [rr.length, List.length_append, List.length_append, l1, l2, li]
      obtain ⟨k, e1, e2⟩ := h A kV doc pm an cdv ct us ws its l1 l2 li.symm
      refine ⟨_, BindsTo.of_looks fun M => ?_, pk_vals rr fun i hi => by rw [ll]; exact hp' i hi, by simp [pkV, hl]⟩
      rw [e1]
      exact looks_items inK lT oT (.of_pure e2)
  · have rs := (r1.append r2).append (scVs_rel (T := T) (ι := ι) (bar := bar) (H := H) hd)
    exact pk_rel rs fun i hi => by
      have := rs.length
      rw [List.length_append, List.length_append] at this
      rw [List.length_append, List.length_append, l1, l2]
      have hz := (scVs_rel (T := T) (ι := ι) (bar := bar) (H := H) hd).length
      rw [← hz]; exact hp' i hi
end
/-! ### the law's end -/
theorem RelV_true {v : V} {u : Value} (h : v = .bl true) (r : RelV v u) : u = Value.bool true := by subst h; exact r
theorem scr_of {K : PySem.W.Frag} {H : Hp} {a : Addr} {xs : List V} (ho : L2.Only H) (h : SqL K H a xs) : ScrA K H a xs := by
  rcases h with (h | ⟨o, h⟩) | h
  · rcases ho a with q | ⟨o, ys, q⟩
    · rw [q] at h; cases h
    · rw [q] at h; cases h
  · exact .inl ⟨o, h⟩
  · exact .inr h
/-- the law's own answer, at any script -/
def Law (den : Den) (n : Nat) : Prop := ∀ ns : List Int, ns.length ≤ n → ∃ g, den [.scr ns] [] = .ok (.bl true) g
/-- the call of the law at the heap behind the top -/
theorem law_end {T : Wd} {mg mb : Str → Option Value} {k : Nat} {fa a : Addr} {fd : FuncData} {x : Str} {den : Den} {n : Nat} {s1 : Shared} {vs : List Value} {ns : List Int}
    (inK : T.K.In s1.heap) (gg : s1.heap.Ns mainGlobals mg) (gb : s1.heap.Ns builtinsNs mb) (bb : ∀ x : Str, x ≠ "__name__" → mb x = bootBuiltins x) (nl : s1.heap.NoLimit) (ng : s1.gens = #[])
    (ha : s1.heap.get? a = some { cls := .type "list", data := .seq vs.toArray }) (hi : IntsAre vs ns) (hz : ns.length ≤ sizeLine) (hn : ns.length ≤ n) (hr : Room k callerA)
    (F : ∀ base : Heap, T.K.In base → base.Ns mainGlobals mg → FnG T mg base k fa fd [x] den) (hb : ∀ (s : Shared) (u : Value), BindsTo s fd ⟨[u], []⟩ [(x, u)]) (L : Law den n) :
    codeAny (model T.P T.w) callerA (.call (.ref fa) ⟨[.ref a], []⟩) (fun r s' => r = .ok (.ret (.bool true)) ∧ OldK s1.heap s'.heap ∧ s'.os = s1.os ∧ AllBare s'.gens) s1 := by
  have rv : Vals (ns.map V.int) vs := vals_ints hi
  have lv := hi.length
  obtain ⟨g', hden⟩ := L ns hn
  suffices core : ∀ H : Hp, L2.Only H → SqL T.K H a (ns.map V.int) → HOk T.P T.w H s1.heap → (∀ b, H b ≠ none → b = a) → (H a ≠ none → T.K.lookup a = none) →
      codeAny (model T.P T.w) callerA (.call (.ref fa) ⟨[.ref a], []⟩) (fun r s' => r = .ok (.ret (.bool true)) ∧ OldK s1.heap s'.heap ∧ s'.os = s1.os ∧ AllBare s'.gens) s1 by
    cases hk : T.K.lookup a with
    | some o =>
      have q := inK a o hk
      rw [ha] at q; cases q
      have nn : ∀ b : Addr, (fun _ => none : Hp) b = none := fun _ => rfl
      exact core (fun _ => none) (fun b => .inl rfl) (.inr ⟨_, vs.toArray, _, hk, rfl, rfl, rfl, by rw [List.size_toArray, lv]; exact hz, by simpa using rv⟩) (fun b u z => nomatch ((nn b).symm.trans z)) (fun b z => absurd (nn b) z) (fun z => absurd (nn a) z)
    | none =>
      let H : Hp := upd (fun _ => none) a (.frz { cls := .type "list", data := .seq vs.toArray } (.lst (ns.map V.int)))
      have H1 : H a = some (.frz { cls := .type "list", data := .seq vs.toArray } (.lst (ns.map V.int))) := upd_same
      have H2 : ∀ b, b ≠ a → H b = none := fun b nb => upd_ne nb
      refine core H (fun b => ?_) (.inl (.inr ⟨_, H1⟩)) (fun b u z => ?_) (fun b z => ?_) fun _ => hk
      · by_cases c : b = a
        · exact .inr ⟨_, _, by rw [c]; exact H1⟩
        · exact .inl (H2 b c)
      · by_cases c : b = a
        · subst c
          rw [H1] at z; cases z
          exact ⟨ha, by rw [List.length_map]; exact hz, vs, _, rv, ha⟩
        · rw [H2 b c] at z; cases z
      · exact Classical.byContradiction fun c => z (H2 b c)
  intro H oH sH okH one noK
  have old : ∀ {b : Addr} {o : Obj}, s1.heap.get? b = some o → H b = none → (hidT s1.heap H).get? b = some o := fun q nb => hidT_get q nb
  have isA : ∀ {b : Addr} {o : Obj}, s1.heap.get? b = some o → H b ≠ none → o = { cls := .type "list", data := .seq vs.toArray } ∧ b = a := fun {b o} q nb => by
    have e := one b nb
    subst e
    rw [ha] at q
    cases q
    exact ⟨rfl, rfl⟩
  have nsB : ∀ {b : Addr} {m : Str → Option Value}, s1.heap.Ns b m → (hidT s1.heap H).Ns b m := fun {b m} ⟨o, es, ep, q, hd, rest⟩ => by
    refine ⟨o, es, ep, old q ?_, hd, rest⟩
    cases c : H b with
    | none => rfl
    | some u =>
      obtain ⟨e, _⟩ := isA q (by rw [c]; simp)
      subst e
      cases hd
  have kB : T.K.In (hidT s1.heap H) := fun b o q => old (inK b o q) (by
    cases c : H b with
    | none => rfl
    | some u =>
      have e := one b (by rw [c]; simp)
      subst e
      rw [noK (by rw [c]; simp)] at q
      cases q)
  have modB : Mod T.K mg (hidT s1.heap H) := ⟨kB, nsB gg, ⟨mb, nsB gb, bb⟩, by obtain ⟨mc, p1, p2⟩ := nl; exact ⟨mc, nsB p1, p2⟩⟩
  have env0 : Env0 T.P T.w T.K mg (hidT s1.heap H) callerA [] s1 H := ⟨rfl, modB, fun b o q => of_hidT q, Nat.le_of_eq (hidT_size _ _), trivial, fun b z => (by simp [frs] at z), okH, .of_eq ng⟩
  have spec : spD T den [.ref a] H (fun v _ => v = .bl true) (fun _ _ _ => False) := by
    refine ⟨⟨[], fun _ => none, fun _ => False⟩, [.scr ns], [], ⟨rfl, List.nodup_nil, fun n c e => by simp at e⟩, fun _ => rfl, fun _ z => z.elim, ?_, ?_⟩
    · exact .cons (by simp only [RelD]; exact ⟨a, rfl, scr_of oH sH⟩) .nil
    · rw [hden]
      intro v ι' H' _ _ r1
      simpa only [RelD] using r1
  refine codeAny_mono ((F _ kB (nsB gg)).run callerA [] s1 H ⟨[.ref a], []⟩ [.ref a] [.ref a] _ _ hr rfl env0 (hb s1 (.ref a)) (.cons rfl .nil) rfl spec) fun r s' h => ?_
  cases r with
  | error e =>
    obtain ⟨_, _, _, _, _, _, _, _, _, _, _, _, z⟩ := h
    exact z.elim
  | ok fl =>
    cases fl with
    | next => exact h.elim
    | brk => exact h.elim
    | cont => exact h.elim
    | ret u =>
      obtain ⟨v, H', os, bare, un, ok', rr, hv⟩ := h
      have hu := RelV_true hv rr
      subst hu
      refine ⟨rfl, OldK.of_keep fun b o q => ?_, os, bare⟩
      cases c : H b with
      | none => exact un.keep b o q c (by intro z; cases z) (by simp)
      | some w =>
        rcases oH b with z | ⟨ob, ys, z⟩
        · rw [z] at c; cases c
        · obtain ⟨p1, _⟩ := okH b _ z
          obtain ⟨p2, _⟩ := ok' b _ (un.frzs b ob _ z)
          rw [p1] at q; cases q
          exact p2
/-- the walk's goal behind a head by facts -/
theorem walk_end {l : PySem.W.OpenLaw} {n k : Nat} {q : Program} {loose : List Str} {XP : (Str → Option Value) → Heap → Prop} {YP : World → Heap → Prop} {d : DefRec} {x : Str}
    (hn : l.most = some n) (hn2 : n ≤ sizeLine) (hdf : d.params.defaults = []) (hr : Room k callerA)
    (F : ∀ (w : World) (mg : Str → Option Value) (fa : Addr) (h : Heap), YP w h → h.Ns mainGlobals mg → mg d.name = some (.ref fa) →
      ∃ (T : Wd) (fd : FuncData) (den : Den), T.P = l.prog ∧ T.w = w ∧ T.K.In h ∧ (∀ (s : Shared) (u : Value), BindsTo s fd ⟨[u], []⟩ [(x, u)]) ∧ Law den n ∧
        ∀ base : Heap, T.K.In base → base.Ns mainGlobals mg → FnG T mg base k fa fd [x] den) :
    PySem.W.WalkO q loose XP YP l.row.toRowW d [] (fun f vs => PySem.call f vs) := by
  refine Att.attach_call hn hdf fun w s0 s1 mg mb fa o pm cd doc a vs ns GG YY ho hd hcd hmg hobj hints hlen hg => ?_
  obtain ⟨T, fd, den, e1, e2, inK, hb, L, hF⟩ := F w mg fa _ YY GG.T.g hmg
  have := law_end (T := T) inK GG.T.g GG.T.b GG.T.builtins GG.T.nolimit hg hobj hints (Nat.le_trans hlen hn2) hlen hr hF hb L
  rw [e1, e2] at this
  exact this
end Z

namespace Z
open PySem PySem.Spec PyProof.Rows L2
set_option autoImplicit false

/-! ### what is never come to -/
def mBad : Ev := fun _ _ => .bad
def bBad : EvB := fun _ _ => .bad
def iBad : EvI := fun _ _ => .bad
def sBad : Sm := fun _ _ => .bad
section
variable {T : Wd} {W : WX} {X : Cx}
theorem ee_bad {e : Expr} : EE T W X e mBad := ⟨fun _ _ _ _ _ _ ⟨_, _, _, _, p⟩ => p.elim⟩
theorem eb_bad {e : Expr} : EB T W X e bBad := ⟨fun _ _ _ _ _ _ ⟨_, _, _, _, p⟩ => p.elim⟩
theorem ei_bad {t e : Expr} : EI T W X t e iBad := ⟨fun _ _ _ _ _ _ ⟨_, _, _, _, p⟩ => p.elim⟩
theorem ss_bad {s : Stmt} : SS T W X s sBad := ⟨fun _ _ _ _ _ _ ⟨_, _, _, _, _, p⟩ => p.elim⟩
end
/-! ### slices -/
abbrev EvO := Env → G → Res (Option Int)
abbrev rO : Rel (Option Int) (Option Int) := fun _ _ _ a b => b = a
abbrev EO (T : Wd) (W : WX) (X : Cx) (e : Option Expr) (m : EvO) : Prop := PO X e (fun σ H Q => ∃ γ ρ g, StR T γ H ρ σ g ∧ Post T γ H σ W rO Q (m ρ g))
def oNo : EvO := fun _ g => .ok none g
def oIs (m : Ev) : EvO := fun ρ g => (m ρ g).bind fun d g1 => match d with
  | .int i => .ok (some i) g1
  | _ => .bad
def mSl (a : Ev) (lo hi : EvO) : Ev := fun ρ g => (a ρ g).bind fun d g1 => (lo ρ g1).bind fun l g2 => (hi ρ g2).bind fun u g3 => ret (slO d l u) g3
theorem PO.imp {X : Cx} {e : Option Expr} {t t' : TO} (h : PO X e t) (i : ∀ σ H Q, t' σ H Q → t σ H Q) : PO X e t' := ⟨fun pins s σ H Q I q => h.run pins s σ H Q I (i σ H Q q)⟩
section
variable {T : Wd} {W : WX} {X : Cx} {a e : Expr} {ma m : Ev} {lo hi : Option Expr} {ml mh : EvO} {pos p2 : Pos}
theorem eo_no : EO T W X none oNo := PO.imp po_none fun σ H Q ⟨γ, ρ, g, S, p⟩ => p none γ.ι H .refl S.cells rfl
theorem eo_is (h : EW T W X e m) : EO T W X (some e) (oIs m) := PO.imp (po_some h) fun σ H Q ⟨γ, ρ, g, S, p⟩ => by
  refine ⟨γ, ρ, g, S, p.bind fun d g1 _ v ι1 H1 s1 G1 r1 p1 => ?_⟩
  have S1 := S.step s1 G1
  cases d with
  | int i =>
    obtain rfl := RelW.int r1
    exact ⟨i, rfl, p1.ret0 (g0 := g) S1 rfl⟩
  | _ => exact p1.elim
theorem ee_sl (ok : Ok T X) (ha : EW T W X a ma) (hl : EO T W X lo ml) (hh : EO T W X hi mh) : EE T W X (.Subscript a (.Slice lo hi none p2) pos) (mSl ma ml mh) := PE.imp (pe_slice (sl_data ok) ha hl hh) fun σ H Q ⟨γ, ρ, g, S, p⟩ => by
  refine ⟨γ, ρ, g, S, p.bind fun d g1 _ v ι1 H1 s1 G1 r1 p1 => ?_⟩
  have S1 := S.step s1 G1
  refine ⟨_, ρ, g1, S1, p1.bind fun l g2 _ l' ι2 H2 s2 G2 r2 p2 => ?_⟩
  have S2 := S1.step s2 G2
  refine ⟨_, ρ, g2, S2, p2.bind fun u g3 _ u' ι3 H3 s3 G3 r3 p3 => ?_⟩
  have S3 := S2.step s3 G3
  subst r2 r3
  cases hk : slO d l' u' with
  | none => rw [hk] at p3; exact p3.elim
  | some r =>
    rw [hk] at p3
    exact ⟨ι3, (((γ.to ι1).to ι2).to ι3).bar, d, r, S3.bart, fun a h => .inl h, (r1.keep s2 (γ.to ι1).bi (Gho.grows s2)).keep s3 ((γ.to ι1).to ι2).bi (Gho.grows s3), hk, fun z H' s r => p3.ret1 S3 s r⟩
end
/-! ### constants of the module -/
theorem ee_glob {T : Wd} {W : WX} {X : Cx} {x : Str} {d : D} {v : V} {u : Value} {pos : Pos} (hg : Gl X x) (hm : X.mg x = some u) (r : L2.RelV v u) (hd : ∀ ι bar H, RelD T ι bar H d v) (hdb : (x == ("__debug__" : Str)) = false := by decide) : EE T W X (.Name x pos) (mC d) :=
  PE.imp (pe_glob hg hm r hdb) fun σ H Q ⟨γ, ρ, g, S, p⟩ => p.ret0 (g0 := g) S (hd _ _ _)
end Z

namespace Z
open PySem PySem.Spec PyProof.Rows L2
set_option autoImplicit false
abbrev gP (pl : List Nat) : List D → List D → List D := fun ds es => pkV D.non pl (ds ++ es)
abbrev gPd (pl : List Nat) (dD : List D) : List D → List D → List D := fun ds es => pkV D.non pl (ds ++ es ++ dD)
theorem FnN.mono {T : Wd} {mg : Str → Option Value} {base : Heap} {j k : Nat} {x : Str} {ps : List Str} {f : Addr} {fd : FuncData} {den : Den} (F : FnN T mg base j x ps f fd den) (h : j ≤ k) : FnN T mg base k x ps f fd den := ⟨F.fn.mono h, F.gl, F.kp⟩
/-- name = [.. for ..], the name never changed in place -/
def sFzz (i : Nat) (m : Sm) : Sm := fun ρ g => match m ρ g with
  | .nx ρ' g' => .nx (frz ρ' i) g'
  | r => r
theorem ss_fzz {T : Wd} {W : WX} {X : Cx} {st : Stmt} {m : Sm} (i : Nat) (h : SS T W X st m) : SS T W X st (sFzz i m) := PS.imp h fun D' σ H ⟨E0, γ, ρ, g, S, p⟩ => by
  refine ⟨E0, γ, ρ, g, S, ?_⟩
  unfold sFzz at p
  revert p
  cases m ρ g with
  | nx ρ' g' =>
    intro p γ' σ' H' S'
    obtain ⟨γ2, S2⟩ := S'.freeze i
    exact p γ2 σ' H' S2
  | rt d g' => exact fun p => p
  | bk ρ' g' => exact fun p => p
  | ct ρ' g' => exact fun p => p
  | exc x ρ' g' => exact fun p => p
  | bad => exact fun p => p
end Z

namespace Z
open PySem PySem.Spec PyProof.Rows L2
set_option autoImplicit false

/-! ### a comprehension of one clause that makes any new thing -/
/-- u0 P: what lies at P at first; st: what a turn does with it -/
def tMk (wi : TI) (g : TG) (tt : TT) (st : Addr → Stage) (vs : List Nat) (u0 : Addr → HO) : TE := fun σ H Q => wi σ H fun J H1 => ∀ P, H1 P = none → ∃ W : Nat → Nat → Hp → Prop, (∃ m, W 0 m (upd H1 P (u0 P))) ∧ ∀ i m H, W i m H →
  (J.stop i H ∧ Q (.ref P) H) ∨ (J.go i H ∧ ∃ Nx : Hp → Prop, (∀ H', Nx H' → ∃ m', m' < m ∧ W (i + 1) m' H') ∧ ∀ x H', J.yld i H x H' → g x (wipe σ vs) H' fun σ2 H2 => wipe σ2 vs = wipe σ vs ∧ tt σ2 H2 fun b H3 => if b = true then st P σ2 H3 Nx else Nx H3)
abbrev Stw := PySem.Env → Addr → (Shared → Prop) → (Value → Shared → Prop) → Shared → Prop
section
variable {X : Cx} {ce tg iter : Expr} {ifs : List Expr} {new : Sem Value} {u0 : Addr → HO} {st : Addr → Stage} {sw : Stw} {scope : Scope} {own : List (Str × Nat)} {wi : TI} {g : TG} {tt : TT} {pos' : Pos}
theorem pe_mk (calm : X.calm = true) (nd : X.N.Nodup) (hi : PI X tg iter wi) (bo : BlkOk X.N X.env.scope scope own)
    (hg : ∀ (s : Shared) (H : Hp) (C : Addr) (cl : List (Str × Addr)) (fp : List Addr), PG (X.blk s H scope (compEnvC scope cl C X.env) fp) tg g)
    (ht : ∀ (s : Shared) (H : Hp) (C : Addr) (cl : List (Str × Addr)) (fp : List Addr), PTs (X.blk s H scope (compEnvC scope cl C X.env) fp) ifs tt)
    (hcl : clausesOf ce = [⟨tg, iter, ifs, 0⟩]) (hf : ∀ x, foldedSetIterable iter X.env x = pure x)
    (hev : eval ce X.env = comprehension ce scope X.env pos' new false (eval iter X.env))
    (hnew : ∀ (pins : List (Addr × Obj)) (σ : L2.St) (H : Hp) (s : Shared) (Q : Value → Shared → Prop), Inv X pins σ H s → (∀ s', Inv X pins σ (upd H s.heap.objs.size (u0 s.heap.objs.size)) s' → (∀ b o, s.heap.get? b = some o → s'.heap.get? b = some o) → s'.heap.objs.size = s.heap.objs.size + 1 → Q (.ref s.heap.objs.size) s') → wpAny (model X.prog X.w) X.A new Q X.xe s)
    (hloop : ∀ (cenv : PySem.Env) (itv : Value) (P : Addr) (R : Result → Shared → Prop) (I : Nat → Shared → Prop),
      (∀ n s, I n s → wpAny (model X.prog X.w) X.A (pyNext itv) (fun r s1 => match r with
        | none => R (.ok .next) s1
        | some v => wpAny (model X.prog X.w) X.A (letOwnedTupleGo tg itv v) (fun _ s2 => wpAny (model X.prog X.w) X.A (assign tg cenv v) (fun _ s3 => wpAny (model X.prog X.w) X.A (testsOf ifs cenv) (fun ok s4 =>
            if ok = true then sw cenv P (fun s' => ∃ m, m < n ∧ I m s') (notedBy (model X.prog X.w) X.A cenv fun e s' => R (.error e) s') s4
            else ∃ m, m < n ∧ I m s4) (notedBy (model X.prog X.w) X.A cenv fun e s' => R (.error e) s') s3) (notedBy (model X.prog X.w) X.A cenv fun e s' => R (.error e) s') s2) (notedBy (model X.prog X.w) X.A cenv fun e s' => R (.error e) s') s1) (notedBy (model X.prog X.w) X.A cenv fun e s' => R (.error e) s') s) →
      ∀ n s, I n s → codeAny (model X.prog X.w) X.A (.compLoop ce 0 itv (.ref P) cenv) R s)
    (hstart : ∀ (cenv : PySem.Env) (itv : Value) (P : Addr) (R : Result → Shared → Prop) (s : Shared), codeAny (model X.prog X.w) X.A (.compLoop ce 0 itv (.ref P) cenv) R s → wpAny (model X.prog X.w) X.A (pyIter itv) (fun it' s' => codeAny (model X.prog X.w) X.A (.compLoop ce 0 it' (.ref P) cenv) R s') (notedBy (model X.prog X.w) X.A cenv fun x s' => R (.error x) s') s → codeAny (model X.prog X.w) X.A (.compStart ce 0 itv (.ref P) cenv) R s)
    (hstage : ∀ (s0 : Shared) (H0 : Hp) (C : Addr) (cl : List (Str × Addr)) (fp : List Addr) (pins : List (Addr × Obj)) (σ : L2.St) (H : Hp) (s : Shared) (P : Addr) (Nx : Hp → Prop) (N : Shared → Prop) (Er : Value → Shared → Prop), Inv (X.blk s0 H0 scope (compEnvC scope cl C X.env) fp) pins σ H s → st P σ H Nx →
      (∀ s' H', Inv (X.blk s0 H0 scope (compEnvC scope cl C X.env) fp) pins σ H' s' → Nx H' → N s') → sw (compEnvC scope cl C X.env) P N Er s) :
    PE X ce (tMk wi g tt st (own.map (·.2)) u0) := by
  refine ⟨fun pins s σ H Q I h => ?_⟩
  rw [hev]
  have frees : ∀ y ∈ scope.names, y.2 = .free → ∃ c, X.env.cells.lookup y.1 = some c := fun y hy e => (bo.free y hy e).elim (fun k => I.ok.has _ (.inl k)) fun k => I.ok.has _ (.inr k)
  refine wpAny_comprehension_free (use := none) hcl hf (closure_ok frees) bo.kind (fun y hy e => by rw [bo.uniq y hy, e]) (thn (hi.run pins s σ H _ I h) fun xv sa ha => thn ha fun itv sb hb => ?_)
  obtain ⟨it, fp, tn, J, H2, rfl, I2, T, t2, fp2, q⟩ := hb
  refine hnew pins σ H2 sb _ I2 fun s3 I3 k3 z3 => newEnv_comp ?_
  generalize hP : sb.heap.objs.size = P at I3 z3 ⊢
  have nP : H2 P = none := by rw [← hP]; exact I2.hok.fresh (Nat.le_refl _)
  obtain ⟨W, ⟨m0, w0⟩, turn⟩ := q P nP
  have lt2 : ∀ b ∈ fp, b < sb.heap.objs.size := fun b hb => by
    obtain ⟨o, e, _⟩ := T.obj _ _ t2 b hb
    exact Heap.lt_size e
  have fp3 : ∀ b ∈ fp, FpOk X pins (upd H2 P (u0 P)) b ∧ b < s3.heap.objs.size := fun b hb => by
    have l := lt2 b hb
    have ne : b ≠ P := by rw [← hP]; exact Nat.ne_of_lt l
    refine ⟨⟨by rw [upd_ne ne]; exact (fp2 b hb).1, (fp2 b hb).2⟩, by rw [z3, ← hP]; exact Nat.lt_succ_of_lt l⟩
  have t3 : tn 0 s3.heap := T.keep _ _ _ t2 fun b _ o e => k3 b o e
  have I4 := block_start I3 bo nd fp3
  generalize hcl2 : cellsFrom (s3.heap.objs.size + 1) scope.names (cloFrom X.env.cells scope.names []) = cl at I4 ⊢
  generalize hC : s3.heap.objs.size = C at I4 ⊢
  have pg := hg s3 (upd H2 P (u0 P)) C cl fp
  have pt := ht s3 (upd H2 P (u0 P)) C cl fp
  have ps := hstage s3 (upd H2 P (u0 P)) C cl fp
  show codeAny _ _ (.compStart ce 0 (.ref it) (.ref P) (compEnvC scope cl C X.env)) (compPost (model X.prog X.w) X.A X.xe none (EP X pins σ Q) (.ref P) C) { s3 with heap := pushCells (s3.heap.push { cls := .type "dict", data := .dict #[] }) scope.names }
  generalize hs4 : ({ s3 with heap := pushCells (s3.heap.push { cls := .type "dict", data := .dict #[] }) scope.names } : Shared) = s4 at I4 ⊢
  have nfp : ∀ b ∈ fp, upd H2 P (u0 P) b = none := fun b hb => (fp3 b hb).1.1
  generalize hH3 : upd H2 P (u0 P) = H3 at I3 I4 pg pt ps w0 nfp fp3
  have t4 : tn 0 s4.heap := T.keep _ _ _ t3 fun b _ o e => by rw [← hs4]; exact pushCells_keeps _ _ _ _ (Heap.get?_push_of_some _ e)
  generalize hce : compEnvC scope cl C X.env = cv at I4 pg pt ps ⊢
  have cL : cv.locals = C := by rw [← hce]; rfl
  have its : ∀ {σ' : L2.St} {H' : Hp} {s' : Shared}, Inv (X.blk s3 H3 scope cv fp) [] σ' H' s' → (∀ b ∈ fp, H' b = none) → ∀ b ∈ fp, FpOk (X.blk s3 H3 scope cv fp) [] H' b := fun {σ' H' s'} I' hn b hb => by
    have e1 := I'.ok.exf b hb
    refine ⟨hn b hb, e1.1, I'.ok.exfs b hb, .inl hb, fun x c e => e1.2 x c e, fun p hp => ?_⟩
    have hp : p ∈ ([] : List (Addr × Obj)) ++ [] := hp
    simp at hp
  have loop : codeAny (model X.prog X.w) X.A (.compLoop ce 0 (.ref it) (.ref P) cv) (compPost (model X.prog X.w) X.A X.xe none (EP X pins σ Q) (.ref P) C) s4 := by
    refine hloop cv (.ref it) P _ (fun n s' => ∃ i H', Inv (X.blk s3 H3 scope cv fp) [] (wipe σ (own.map (·.2))) H' s' ∧ tn i s'.heap ∧ (∀ b ∈ fp, H' b = none) ∧ W i n H') ?_ m0 s4 ⟨0, H3, I4, t4, nfp, w0⟩
    rintro n s5 ⟨i, H5, I5, t5, n5, w5⟩
    rcases turn i n H5 w5 with ⟨stop, fin⟩ | ⟨go, Nx, hNx, step⟩
    · refine thnF (T.done (X.blk s3 H3 scope cv fp) rfl rfl rfl calm i [] s5 _ H5 (fun _ _ => False) I5 (its I5 n5) t5 stop) fun r s6 ⟨hr, I6⟩ => ?_
      subst hr
      have I7 : Inv X pins σ H5 s6 := I3.call' (ch := fp) I6.os I6.base I6.hok I6.bare fun b hb => ⟨(fp3 b hb).1.2.2.2.1, (fp3 b hb).1.2.1, (fp3 b hb).1.2.2.2.2.1, (fp3 b hb).1.2.2.2.2.2⟩
      have nC : H5 C = none := by
        have z : H5 cv.locals = none := I6.free
        rw [cL] at z; exact z
      obtain ⟨m, ns, _⟩ := I6.loc
      have ns : s6.heap.Ns cv.locals m := ns
      rw [cL] at ns
      have fC := I3.fpOk (b := C) (H' := H5) (by rw [hC]; exact Nat.le_refl _) nC
      refine ⟨m, ns, fun h'' sb => ?_⟩
      obtain ⟨f0, f1, f2, f3, f4, f5⟩ := fC
      exact ⟨.ref P, H5, I7.turned (t' := s6.toks) (fun b o hb e => (sb.2 b hb).trans e) f0 f1 f3 f4 f5, rfl, fin⟩
    · refine thnF (T.item (X.blk s3 H3 scope cv fp) rfl rfl rfl calm i [] s5 _ H5 (fun _ _ => False) I5 (its I5 n5) t5 go) fun r s6 ⟨u, hr, h6⟩ => ?_
      subst hr
      refine thnF h6 fun _ s7 ⟨x, H7, I7, r7, y7, t7, n7⟩ => ?_
      have I7' := I7.pinned (its I7 n7) (T.obj _ _ t7)
      refine thnF (pg.run _ s7 _ H7 x u _ I7' r7 (step x H7 y7)) fun _ s8 ⟨σ8, H8, I8, hw8, q8⟩ => ?_
      refine thnF (pt.run _ s8 σ8 H8 _ I8 q8) fun b s9 ⟨H9, I9, q9⟩ => ?_
      have endT : ∀ (s' : Shared) (H' : Hp), Inv (X.blk s3 H3 scope cv fp) ([] ++ pinsAt fp s7.heap) σ8 H' s' → Nx H' → ∃ m, m < n ∧ ∃ i H', Inv (X.blk s3 H3 scope cv fp) [] (wipe σ (own.map (·.2))) H' s' ∧ tn i s'.heap ∧ (∀ b ∈ fp, H' b = none) ∧ W i m H' := fun s' H' I' nx => by
        obtain ⟨m', hm, w'⟩ := hNx H' nx
        have held : ∀ b ∈ fp, ∀ o, s7.heap.get? b = some o → s'.heap.get? b = some o ∧ H' b = none := fun b hb o e => by
          have z := I'.pin (b, o) (List.mem_append_right _ (List.mem_append_right _ (mem_pinsAt hb e)))
          exact ⟨z.1, z.2.1⟩
        have hl : (wipe σ (own.map (·.2))).length = σ8.length := by rw [← hw8, wipe_length]
        refine ⟨m', hm, i + 1, H', (I'.unpinned (pins := [])).weak hl (fun j v e => ?_), T.keep _ _ _ t7 fun b hb o e => (held b hb o e).1, fun b hb => ?_, w'⟩
        · rw [← hw8] at e; exact (wipe_some e).1
        · obtain ⟨o, e, _⟩ := T.obj _ _ t7 b hb
          exact (held b hb o e).2
      cases b with
      | false =>
        simp only [Bool.false_eq_true, if_false] at q9 ⊢
        exact endT s9 H9 I9 q9
      | true =>
        simp only [if_true] at q9 ⊢
        rw [← hce] at I9 endT ⊢
        rw [← hce] at ps
        exact ps _ σ8 H9 s9 P Nx _ _ I9 q9 endT
  exact hstart _ _ _ _ _ loop (T.self X.A 0 _ _ _ t4 loop)
end
end Z

namespace Z
open PySem PySem.Spec PyProof.Rows L2
set_option autoImplicit false

/-! ### values as keys -/
section
variable {T : Wd} {X : Cx} {pins : List (Addr × Obj)} {σ : L2.St} {H : Hp} {s : Shared} {ι : List Addr} {bar : Addr → Prop}
mutual
theorem nested_of (ok : Ok T X) (I : Inv X pins σ H s) : ∀ {d : D} {v : V} {u : Value}, isK d = true → RelD T ι bar H d v → L2.RelV v u → NestedIs s.heap (nk d) u
  | .non, v, u, _, r, rv => by
    have e : v = .non := by simpa [RelD] using r
    subst e; cases rv; exact .none
  | .bl b, v, u, _, r, rv => by
    have e : v = .bl b := by simpa [RelD] using r
    subst e; cases rv; exact .bool rfl
  | .int i, v, u, _, r, rv => by
    have e : v = .int i := by simpa [RelD] using r
    subst e; obtain ⟨t, rfl⟩ := rv; exact .int i t
  | .str x, v, u, _, r, rv => by
    have e : v = .str x := by simpa [RelD] using r
    subst e; obtain ⟨t, rfl⟩ := rv; exact .text x t
  | .tup ds, v, u, k, r, rv => by
    simp only [RelD] at r
    obtain ⟨a, vs, e, sq, rs⟩ := r
    subst e; cases rv
    obtain ⟨its, rvs, ht, _⟩ := I.tuple (ok.K ▸ sq)
    obtain ⟨o, ho, hc, n, hd⟩ := ht
    simp only [nk]
    exact .tup ho hc hd (by simpa using nested_ofs ok I (by simpa [isK] using k) rs rvs)
  | .lst _, _, _, k, _, _ => by simp [isK] at k
  | .set _, _, _, k, _, _ => by simp [isK] at k
  | .dct _ _, _, _, k, _, _ => by simp [isK] at k
  | .ref _, _, _, k, _, _ => by simp [isK] at k
  | .clo _ _, _, _, k, _, _ => by simp [isK] at k
  | .err _ _, _, _, k, _, _ => by simp [isK] at k
  | .scr _, _, _, k, _, _ => by simp [isK] at k
theorem nested_ofs (ok : Ok T X) (I : Inv X pins σ H s) : ∀ {ds : List D} {vs : List V} {us : List Value}, isKs ds = true → RelDs T ι bar H ds vs → Vals vs us → NestedAll s.heap (nks ds) us
  | [], vs, us, _, r, rv => by
    have e : vs = [] := by simpa [RelDs] using r
    subst e; cases rv; exact .nil
  | d :: ds, vs, us, k, r, rv => by
    obtain ⟨v, rs, e, r1, r2⟩ := r.uncons
    subst e
    cases rv with
    | cons h1 h2 =>
      have k : isK d = true ∧ isKs ds = true := by simpa [isKs] using k
      simp only [nks]
      exact .cons (nested_of ok I k.1 r1 h1) (nested_ofs ok I k.2 r2 h2)
end
end
/-! ### tables by keys -/
def ixN : List NestedKey → NestedKey → Option Nat
  | [], _ => none
  | k :: ks, x => if k = x then some 0 else (ixN ks x).map (· + 1)
theorem nks_len : ∀ ds : List D, (nks ds).length = ds.length
  | [] => rfl
  | d :: ds => by simp [nks, nks_len ds]
theorem nks_app : ∀ ds es : List D, nks (ds ++ es) = nks ds ++ nks es
  | [], _ => rfl
  | d :: ds, es => by simp [nks, nks_app ds es]
theorem nks_get : ∀ {ds : List D} {i : Nat}, (nks ds)[i]? = (ds[i]?).map nk
  | [], i => by simp [nks]
  | d :: ds, 0 => by simp [nks]
  | d :: ds, i + 1 => by simp only [nks, List.getElem?_cons_succ]; exact nks_get
abbrev z3 (ks : List NestedKey) (bs : List Addr) (us : List Value) : List (NestedKey × Addr × Value) := ks.zip (bs.zip us)
theorem ixN_lt : ∀ {ks : List NestedKey} {k : NestedKey} {j : Nat}, ixN ks k = some j → j < ks.length
  | [], _, _, e => by simp [ixN] at e
  | x :: ks, k, j, e => by
    simp only [ixN] at e
    split at e
    · cases e; simp
    · rw [Option.map_eq_some_iff] at e
      obtain ⟨j', e, rfl⟩ := e
      simpa using ixN_lt e
theorem ixN_get : ∀ {ks : List NestedKey} {k : NestedKey} {j : Nat}, ixN ks k = some j → ks[j]? = some k
  | [], _, _, e => by simp [ixN] at e
  | x :: ks, k, j, e => by
    simp only [ixN] at e
    split at e
    · rename_i h; cases e; simp [h]
    · rw [Option.map_eq_some_iff] at e
      obtain ⟨j', e, rfl⟩ := e
      simpa using ixN_get e
theorem ixN_none : ∀ {ks : List NestedKey} {k : NestedKey}, ixN ks k = none → k ∉ ks
  | [], _, _ => by simp
  | x :: ks, k, e => by
    simp only [ixN] at e
    split at e
    · cases e
    · rename_i h
      rw [Option.map_eq_none_iff] at e
      intro z
      rcases List.mem_cons.mp z with z | z
      · exact h z.symm
      · exact ixN_none e z
theorem at_z3 : ∀ {ks : List NestedKey} {bs : List Addr} {us : List Value} {k : NestedKey}, ks.length = bs.length → ks.length = us.length → atKey (z3 ks bs us) k = (ixN ks k).bind fun j => (bs.zip us)[j]?
  | [], _, _, _, _, _ => by simp [atKey, ixN]
  | x :: ks, [], _, _, h, _ => by simp at h
  | x :: ks, _ :: _, [], _, _, h => by simp at h
  | x :: ks, b :: bs, u :: us, k, h1, h2 => by
    simp only [z3, List.zip_cons_cons, atKey, List.find?_cons, ixN]
    by_cases e : x = k
    · simp [e]
    · simp only [e, decide_false, if_false, Option.bind_map]
      have := at_z3 (ks := ks) (bs := bs) (us := us) (k := k) (by simpa using h1) (by simpa using h2)
      simp only [atKey, z3] at this
      rw [this]
      cases ixN ks k with
      | none => rfl
      | some j => simp
theorem stored_z3 {ks : List NestedKey} {bs : List Addr} {us : List Value} {k : NestedKey} {a : Addr} {v : Value} (h1 : ks.length = bs.length) (h2 : ks.length = us.length) (nd : ks.Nodup) :
    storedH (z3 ks bs us) k a v = match ixN ks k with
      | some j => z3 ks bs (us.set j v)
      | none => z3 (ks ++ [k]) (bs ++ [a]) (us ++ [v]) := by
  cases hj : ixN ks k with
  | none =>
    have : atKey (z3 ks bs us) k = none := by rw [at_z3 h1 h2, hj]; rfl
    rw [storedH_new this]
    show _ = (ks ++ [k]).zip ((bs ++ [a]).zip (us ++ [v]))
    rw [List.zip_append (by omega), List.zip_append (by rw [List.length_zip]; omega)]
    rfl
  | some j =>
    have hl := ixN_lt hj
    have : atKey (z3 ks bs us) k = some ((bs.zip us)[j]'(by rw [List.length_zip]; omega)) := by
      rw [at_z3 h1 h2, hj]
      exact List.getElem?_eq_getElem _
    rw [storedH_old this]
    have key : ∀ {ks : List NestedKey} {bs : List Addr} {us : List Value} {j : Nat}, ks.length = bs.length → ks.length = us.length → ks.Nodup → ixN ks k = some j → (z3 ks bs us).map (putAt k v) = z3 ks bs (us.set j v) := by
      intro ks
      induction ks with
      | nil => intro bs us j _ _ _ e; simp [ixN] at e
      | cons x ks ih =>
        intro bs us j h1 h2 nd e
        match bs, us, h1, h2 with
        | b :: bs, u :: us, h1, h2 =>
          obtain ⟨nx, nd⟩ := List.nodup_cons.mp nd
          simp only [ixN] at e
          split at e
          · rename_i hx
            cases e
            subst hx
            simp only [z3, List.zip_cons_cons, List.map_cons, putAt, if_true, List.set_cons_zero]
            congr 1
            conv => rhs; rw [← List.map_id (ks.zip (bs.zip us))]
            refine List.map_congr_left fun p hp => ?_
            have hm := (List.of_mem_zip hp).1
            have : ¬ p.1 = x := fun z => nx (z ▸ hm)
            show (if p.1 = x then _ else p) = p
            rw [if_neg this]
          · rename_i hx
            rw [Option.map_eq_some_iff] at e
            obtain ⟨j', e, rfl⟩ := e
            simp only [z3, List.zip_cons_cons, List.map_cons, putAt, List.set_cons_succ]
            rw [if_neg hx]
            congr 1
            exact ih (by simpa using h1) (by simpa using h2) nd e
    exact key h1 h2 nd hj
theorem fst_zip {α β : Type} : ∀ (xs : List α) (ys : List β), (xs.zip ys).map (·.1) = xs.take (xs.zip ys).length
  | [], _ => by simp
  | _ :: _, [] => by simp
  | x :: xs, y :: ys => by
    have := fst_zip xs ys
    simp only [List.zip_cons_cons, List.map_cons, List.length_cons, List.take_succ_cons]
    rw [this]
/-! ### a dict whose keys are tuples -/
def tupK : D → Bool
  | .tup ds => isKs ds && decide (NestedKey.depth (.tup (nks ds)) ≤ 8)
  | _ => false
theorem tupK_isK {d : D} (h : tupK d = true) : isK d = true ∧ (nk d).depth ≤ 8 ∧ ∃ ds, d = .tup ds := by
  cases d <;> simp [tupK] at h
  rename_i ds
  exact ⟨by simpa [isK] using h.1, by simpa [nk] using h.2, ds, rfl⟩
def putK2 (ks vs : List D) (k v : D) : List D × List D := match ixN (nks ks) (nk k) with
  | some j => (ks, vs.set j v)
  | none => (ks ++ [k], vs ++ [v])
/-- how the dict at a stands -/
structure DctA (T : Wd) (ι : List Addr) (bar : Addr → Prop) (H : Hp) (a : Addr) (ks vs : List D) (o : HO) : Prop where
  ex : ∃ (bs : List Addr) (ws : List V), o = .ext (DctN T.P T.w a (nks ks) bs ws) ∧ RelDs T ι bar H ks (bs.map V.ref) ∧ RelDs T ι bar H vs ws
  len : ks.length = vs.length
  keys : ks.all tupK = true
section
variable {T : Wd} {X : Cx} {pins : List (Addr × Obj)} {σ : L2.St} {H : Hp} {s : Shared} {ι : List Addr} {bar : Addr → Prop} {a : Addr} {ks vs : List D}
theorem ext_at (I : Inv X pins σ H s) {φ : Heap → Prop} (h : H a = some (.ext φ)) : φ s.heap := (I.hok a _ h).1
theorem keys_at (ok : Ok T X) (I : Inv X pins σ H s) : ∀ {ks : List D} {bs : List Addr}, ks.all tupK = true → RelDs T ι bar H ks (bs.map V.ref) → ∀ (us : List Value), ∀ x ∈ z3 (nks ks) bs us, (nestedKind T.P T.w).is s.heap x.1 x.2.1
  | [], bs, _, r, us, x, hx => absurd hx (by simp [z3, nks])
  | k :: ks, [], _, r, us, x, hx => absurd hx (by simp [z3])
  | k :: ks, b :: bs, hk, r, us, x, hx => by
    have hk : tupK k = true ∧ ks.all tupK = true := by simpa using hk
    obtain ⟨v, rs, e, r1, r2⟩ := RelDs.uncons r
    simp only [List.map_cons, List.cons.injEq] at e
    obtain ⟨e1, e2⟩ := e
    subst e2
    cases us with
    | nil => exact absurd hx (by simp [z3])
    | cons u us =>
      have hx : x ∈ (nk k, b, u) :: z3 (nks ks) bs us := hx
      rw [List.mem_cons] at hx
      rcases hx with rfl | hx
      · obtain ⟨q1, q2, _⟩ := tupK_isK hk.1
        exact ⟨nested_of ok I q1 (v := .ref b) (by rw [e1]; exact r1) (show L2.RelV (.ref b) (.ref b) from rfl), q2⟩
      · exact keys_at ok I hk.2 r2 us x hx
theorem dct_at (ok : Ok T X) (I : Inv X pins σ H s) {bs : List Addr} {ws : List V} (h : H a = some (.ext (DctN T.P T.w a (nks ks) bs ws))) (hk : ks.all tupK = true) (r : RelDs T ι bar H ks (bs.map V.ref)) :
    (a == sysModules) = false ∧ ∃ us, Vals ws us ∧ s.heap.DictOfH (nestedKind T.P T.w) a (z3 (nks ks) bs us) ∧ (nks ks).Nodup := by
  obtain ⟨h1, us, rv, o, es, ep, ho, he, hd, hl, nd⟩ := ext_at I h
  refine ⟨h1, us, rv, ⟨o, es, ep, ho, he, hd, hl, keys_at ok I hk r us, ?_⟩, nd⟩
  have this : (z3 (nks ks) bs us).map (·.1) = (nks ks).take (z3 (nks ks) bs us).length := fst_zip _ _
  rw [this]
  exact nd.sublist (List.take_sublist _ _)
end
end Z

namespace Z
open PySem PySem.Spec PyProof.Rows L2
set_option autoImplicit false

/-- a[y] = z done by the model: the thing at a is o' behind it -/
def DAdd (X : Cx) (H : Hp) (a : Addr) (y z : V) (o' : HO) : Prop :=
  ∀ (X' : Cx) (pins : List (Addr × Obj)) (σ : L2.St) (s : Shared) (E : Value → Shared → Prop) (Q : Unit → Shared → Prop) (u r : Value), X'.prog = X.prog → X'.w = X.w → X'.K = X.K → X'.A = X.A → Inv X' pins σ H s → L2.RelV y u → L2.RelV z r →
    (∀ s', Inv X' pins σ (upd H a o') s' → Q () s') → wpAny (model X.prog X.w) X.A (dictSet a u r) Q E s
theorem isKs_all : ∀ {ks : List D}, isKs ks = true → ∀ k ∈ ks, isK k = true
  | [], _, k, hk => by simp at hk
  | d :: ds, h, k, hk => by
    have h : isK d = true ∧ isKs ds = true := by simpa [isKs] using h
    rcases List.mem_cons.mp hk with rfl | hk
    · exact h.1
    · exact isKs_all h.2 k hk
section
variable {T : Wd} {X : Cx} {H : Hp} {ι : List Addr} {bar : Addr → Prop} {a : Addr} {ks vs : List D} {k v : D} {y z : V} {o : HO}
theorem DctA.soft (d : DctA T ι bar H a ks vs o) : Soft o := by
  obtain ⟨bs, ws, rfl, _⟩ := d.ex
  exact fun i => i
theorem DctA.mut (d : DctA T ι bar H a ks vs o) : Mut (some o) := by
  obtain ⟨bs, ws, rfl, _⟩ := d.ex
  trivial
theorem DctA.keep {ι' : List Addr} {bar' : Addr → Prop} {H' : Hp} (s : Stp ι ι' H H') (hi : ∀ a ∈ ι, bar a) (hb : Grows H bar bar') (d : DctA T ι bar H a ks vs o) : DctA T ι' bar' H' a ks vs o := by
  obtain ⟨⟨bs, ws, e, r1, r2⟩, l, k⟩ := d
  exact ⟨⟨bs, ws, e, r1.keep s hi hb, r2.keep s hi hb⟩, l, k⟩
theorem DctA.fewer {bar' : Addr → Prop} (hb : ∀ a, bar' a → bar a) (d : DctA T ι bar H a ks vs o) : DctA T ι bar' H a ks vs o := by
  obtain ⟨⟨bs, ws, e, r1, r2⟩, l, k⟩ := d
  exact ⟨⟨bs, ws, e, r1.fewer hb, r2.fewer hb⟩, l, k⟩
theorem DctA.era {p : Addr} {u : HO} (hb : bar p) (hp : H p = some u) (so : Soft u) (d : DctA T ι bar H a ks vs o) : DctA T ι bar (Z.era H p) a ks vs o := by
  obtain ⟨⟨bs, ws, e, r1, r2⟩, l, k⟩ := d
  exact ⟨⟨bs, ws, e, r1.era hb hp so, r2.era hb hp so⟩, l, k⟩
/-- putting one in -/
theorem DctA.put (ok : Ok T X) (rm : Rm X) (d : DctA T ι bar H a ks vs o) (hp : H a = some o) (hk : tupK k = true) (rk : RelD T ι bar H k y) (rv : RelD T ι bar H v z) (hz : ks.length < 16777216) :
    ∃ o', DAdd X H a y z o' ∧ (∃ (bs : List Addr) (ws : List V), o' = .ext (DctN T.P T.w a (nks (putK2 ks vs k v).1) bs ws) ∧ RelDs T ι bar H (putK2 ks vs k v).1 (bs.map V.ref) ∧ RelDs T ι bar H (putK2 ks vs k v).2 ws) ∧ (putK2 ks vs k v).1.length = (putK2 ks vs k v).2.length ∧ (putK2 ks vs k v).1.all tupK = true := by
  obtain ⟨⟨bs, ws, rfl, r1, r2⟩, hl, hks⟩ := d
  obtain ⟨q1, q2, kd, rfl⟩ := tupK_isK hk
  have hy : ∃ b, y = .ref b := by
    simp only [RelD] at rk
    obtain ⟨b, _, e, _⟩ := rk
    exact ⟨b, e⟩
  obtain ⟨b, rfl⟩ := hy
  have l1 : ks.length = bs.length := by have := r1.length; rw [List.length_map] at this; exact this.symm
  have l2 : vs.length = ws.length := r2.length.symm
  have lk : (nks ks).length = bs.length := by rw [nks_len, l1]
  -- the new lists
  let bs' := match ixN (nks ks) (nk (.tup kd)) with | some _ => bs | none => bs ++ [b]
  let ws' := match ixN (nks ks) (nk (.tup kd)) with | some j => ws.set j z | none => ws ++ [z]
  have main : ∀ us : List Value, Vals ws us → (nks ks).Nodup → ∀ r : Value, L2.RelV z r → ∃ us', Vals ws' us' ∧ storedH (z3 (nks ks) bs us) (nk (.tup kd)) b r = z3 (nks (putK2 ks vs (.tup kd) v).1) bs' us' ∧ (nks (putK2 ks vs (.tup kd) v).1).Nodup := by
    intro us rv' nd r rr
    have lu : (nks ks).length = us.length := by rw [nks_len, hl, l2, rv'.length]
    rw [stored_z3 lk lu nd]
    cases hj : ixN (nks ks) (nk (.tup kd)) with
    | some j =>
      refine ⟨us.set j r, ?_, ?_, ?_⟩
      · show Vals (match ixN (nks ks) (nk (.tup kd)) with | some j => ws.set j z | none => ws ++ [z]) _
        rw [hj]; exact Vals.set rr j rv'
      · show z3 _ _ _ = z3 (nks (putK2 ks vs (.tup kd) v).1) (match ixN (nks ks) (nk (.tup kd)) with | some _ => bs | none => bs ++ [b]) _
        rw [hj]; simp only [putK2, hj]
      · simp only [putK2, hj]; exact nd
    | none =>
      refine ⟨us ++ [r], ?_, ?_, ?_⟩
      · show Vals (match ixN (nks ks) (nk (.tup kd)) with | some j => ws.set j z | none => ws ++ [z]) _
        rw [hj]; exact rv'.append (.cons rr .nil)
      · show z3 _ _ _ = z3 (nks (putK2 ks vs (.tup kd) v).1) (match ixN (nks ks) (nk (.tup kd)) with | some _ => bs | none => bs ++ [b]) _
        rw [hj]; simp only [putK2, hj, nks_app]; rfl
      · simp only [putK2, hj, nks_app]
        have := ixN_none hj
        rw [List.nodup_append]
        exact ⟨nd, by simp [nks], fun x hx w hw e => by simp [nks] at hw; exact this (by rw [← hw, ← e]; exact hx)⟩
  refine ⟨.ext (DctN T.P T.w a (nks (putK2 ks vs (.tup kd) v).1) bs' ws'), fun X' pins σ s E Q u r e1 e2 e3 e4 I ru rr hQ => ?_, ⟨bs', ws', rfl, ?_, ?_⟩, ?_, ?_⟩
  · have ok' : Ok T X' := ⟨e1.trans ok.P, e2.trans ok.w, e3.trans ok.K⟩
    obtain ⟨hsys, us, rvs, hd, nd⟩ := dct_at ok' I hp hks r1
    cases ru
    obtain ⟨us', rvs', st, nd'⟩ := main us rvs nd r rr
    have isk : (nestedKind T.P T.w).is s.heap (nk (.tup kd)) b := ⟨nested_of ok' I q1 rk (show L2.RelV (.ref b) (.ref b) from rfl), q2⟩
    rw [ok.P, ok.w]
    refine wpAny_dictSet_heap (knd := nestedKind T.P T.w) (hsz := ?hz) ?hr isk hd fun h' hd' hs => ?hq
    case hz =>
      have : (z3 (nks ks) bs us).length ≤ (nks ks).length := by simp only [z3, List.length_zip]; exact Nat.min_le_left _ _
      rw [nks_len] at this
      rw [sizeLine_eq]; omega
    case hr =>
      show X.A.units + 8 < cLine
      have := rm.hu; omega
    case hq =>
      rw [st] at hd'
      obtain ⟨o2, es, ep, ho, he, hdt, hes, _, _⟩ := hd'
      refine hQ _ (d_write I (by rw [hp]; trivial) hs ⟨_, ho⟩ ⟨⟨hsys, us', rvs', o2, es, ep, ho, he, hdt, hes, nd'⟩, ⟨_, ho⟩, fun h1 h2 p k => ?_⟩)
      obtain ⟨p1, us2, p2, o3, es3, ep3, p3, p4⟩ := p
      exact ⟨p1, us2, p2, o3, es3, ep3, k _ p3, p4⟩
  · show RelDs T ι bar H (putK2 ks vs (.tup kd) v).1 (List.map V.ref (match ixN (nks ks) (nk (.tup kd)) with | some _ => bs | none => bs ++ [b]))
    cases hj : ixN (nks ks) (nk (.tup kd)) with
    | some j => simp only [putK2, hj]; exact r1
    | none => simp only [putK2, hj, List.map_append, List.map_cons, List.map_nil]; exact r1.append (.cons rk .nil)
  · show RelDs T ι bar H (putK2 ks vs (.tup kd) v).2 (match ixN (nks ks) (nk (.tup kd)) with | some j => ws.set j z | none => ws ++ [z])
    cases hj : ixN (nks ks) (nk (.tup kd)) with
    | some j => simp only [putK2, hj]; exact RelDs.set rv j r2
    | none => simp only [putK2, hj]; exact r2.append (.cons rv .nil)
  · cases hj : ixN (nks ks) (nk (.tup kd)) with
    | some j => simp only [putK2, hj, List.length_set]; exact hl
    | none => simp only [putK2, hj, List.length_append]; rw [hl]; rfl
  · cases hj : ixN (nks ks) (nk (.tup kd)) with
    | some j => simp only [putK2, hj]; exact hks
    | none => simp only [putK2, hj, List.all_append, hks, Bool.true_and]; simpa using hk
end
/-! ### a dict comprehension -/
def stepP (acc : Option (List D × List D)) (d : D) : Option (List D × List D) := match acc with
  | some p => match d with
    | .tup [k, v] => if tupK k then some (putK2 p.1 p.2 k v) else none
    | _ => none
  | none => none
def foldP (ds : List D) : Option (List D × List D) := ds.foldl stepP (some ([], []))
theorem foldP_none : ∀ es : List D, es.foldl stepP none = none
  | [] => rfl
  | e :: es => foldP_none es
theorem foldP_app (ds es : List D) : foldP (ds ++ es) = es.foldl stepP (foldP ds) := by simp [foldP, List.foldl_append]
theorem putK2_le (ks vs : List D) (k v : D) : (putK2 ks vs k v).1.length ≤ ks.length + 1 := by
  unfold putK2
  split <;> simp
theorem foldP_le : ∀ {es : List D} {p q : List D × List D}, es.foldl stepP (some p) = some q → q.1.length ≤ p.1.length + es.length
  | [], p, q, h => by cases h; simp
  | e :: es, p, q, h => by
    simp only [List.foldl_cons] at h
    cases hs : stepP (some p) e with
    | none => rw [hs, foldP_none] at h; cases h
    | some p' =>
      rw [hs] at h
      have := foldP_le h
      unfold stepP at hs
      dsimp only at hs
      split at hs
      · rename_i k v
        split at hs
        · cases hs
          have := putK2_le p.1 p.2 k v
          simp only [List.length_cons]
          omega
        · cases hs
      · cases hs
def accD (T : Wd) (P : Addr) : Acc T where
  A := fun ι bar H ds o => ∃ p, foldP ds = some p ∧ DctA T ι bar H P p.1 p.2 o
  soft := fun ι bar H ds o ⟨p, _, d⟩ => d.soft
  keep := fun ι ι' bar bar' H H' ds o s hi hb ⟨p, e, d⟩ => ⟨p, e, d.keep s hi hb⟩
  era := fun ι bar H ds o p u hb hp so ⟨q, e, d⟩ => ⟨q, e, d.era hb hp so⟩
  fewer := fun ι bar bar' H ds o hb ⟨p, e, d⟩ => ⟨p, e, d.fewer hb⟩
  room := fun ds => fits ds.length = true ∧ (foldP ds).isSome = true
  less := fun ds es ⟨h, h2⟩ => by
    constructor
    · unfold fits at *
      rw [List.length_append] at h
      simp only [decide_eq_true_eq] at *
      omega
    · rw [foldP_app] at h2
      cases q : foldP ds with
      | none => rw [q, foldP_none] at h2; cases h2
      | some _ => rfl
def elD (mt : EvB) (mk mv : Ev) : ElM := fun ρ g => match mt ρ g with
  | .ok c g1 => if c = true then (match mk ρ g1 with
    | .ok k g2 => match mv ρ g2 with
      | .ok v g3 => .ok [.tup [k, v]] g3
      | _ => .bad
    | _ => .bad) else .ok [] g1
  | _ => .bad
def mDc (mi : EvI) (vs : List Nat) (t : Tg) (ms : ElM) : Ev := fun ρ g => match mi ρ g with
  | .ok ds g1 => match gaL t ms (wipeE ρ vs) ds g1 with
    | .ok ys g2 => match foldP ys with
      | some p => if fits ys.length = true then .ok (.dct p.1 p.2) g2 else .bad
      | none => .bad
    | _ => .bad
  | .exc x g1 => .exc x g1
  | .bad => .bad
abbrev stD (T : Wd) (X : Cx) (mk mv : Ev) (P : Addr) : Stage := fun σ H Nx => tX T W0 (rD T) mk σ H fun y H4 => tX T W0 (rD T) mv σ H4 fun z H5 => ∃ o', DAdd X H5 P y z o' ∧ Nx (upd H5 P o')
abbrev stDT (T : Wd) (X : Cx) (mt : EvB) (mk mv : Ev) (P : Addr) : Stage := fun σ H Nx => tX T W0 rB mt σ H fun b H3 => if b = true then stD T X mk mv P σ H3 Nx else Nx H3
theorem upd_era2 {H : Hp} {P : Addr} {o : HO} : upd H P o = upd (era H P) P o := by
  funext a
  by_cases e : a = P
  · subst e; rw [upd_same, upd_same]
  · rw [upd_ne e, upd_ne e, era_ne e]
theorem stg_dct {T : Wd} {X : Cx} {P : Addr} {mt : EvB} {mk mv : Ev} (ok : Ok T X) (rm : Rm X) : Stg T (accD T P) P (elD mt mk mv) (stDT T X mt mk mv P) := by
  intro γ ρ σ H g ds o Nx R nP nι nv A p
  obtain ⟨pp, ef, dA⟩ := A
  have so : Soft o := dA.soft
  have R1 := R.lay (o := o) nP
  refine ⟨_, ρ, g, R1, ?_⟩
  have growA : ∀ {ι2 : List Addr} {H2 : Hp}, Stp γ.ι ι2 H H2 → Grows H (γ.add P).bar ((γ.to ι2).add P).bar := fun s a h => by
    rcases Gho.add_bar.mp h with h | h
    · rcases Gho.grows s a h with q | q
      · exact .inl (add_fw a q)
      · exact .inr q
    · exact .inl (Gho.add_bar.mpr (.inr h))
  have biA : ∀ a ∈ γ.ι, (γ.add P).bar a := fun a h => add_fw a (γ.bi a h)
  unfold elD at p
  revert p
  cases mt ρ g with
  | bad => exact fun p => p
  | exc x g1 => exact fun p => p.elim
  | ok c g1 =>
    intro p b ι1 H1 s1 G1 e1
    subst e1
    have hP1 : H1 P = some o := s1.ext P _ upd_same nι
    have n1 : P ∉ ι1 := s1.not (by rw [upd_same]; simp) nι
    have cut : ∀ {ι2 : List Addr} {H2 : Hp}, Stp γ.ι ι2 (upd H P o) H2 → Stp γ.ι ι2 H (era H2 P) := fun s => by
      have := s.era (p := P)
      rw [upd_era nP] at this
      exact this
    cases b with
    | false =>
      simp only [Bool.false_eq_true, if_false, List.append_nil] at p ⊢
      rw [← era_upd hP1]
      exact p.2 ι1 _ o (cut s1) ((G1.era (γ.to ι1).add_self hP1 so n1).fewer add_fw) era_self n1 ⟨pp, ef, dA.keep (cut s1) biA (growA (cut s1))⟩
    | true =>
      simp only [if_true] at p ⊢
      refine ⟨_, ρ, g1, R1.step s1 G1, ?_⟩
      revert p
      cases mk ρ g1 with
      | bad => exact fun p => p
      | exc x g2 => exact fun p => p.elim
      | ok k g2 =>
        intro p y ι2 H2 s2 G2 r2
        have hP2 : H2 P = some o := s2.ext P _ hP1 n1
        have n2 : P ∉ ι2 := s2.not (by rw [hP1]; simp) n1
        refine ⟨_, ρ, g2, (R1.step s1 G1).step s2 G2, ?_⟩
        dsimp only at p
        revert p
        cases mv ρ g2 with
        | bad => exact fun p => p
        | exc x g3 => exact fun p => p.elim
        | ok v g3 =>
          intro p z ι3 H3 s3 G3 r3
          dsimp only at p
          have hP3 : H3 P = some o := s3.ext P _ hP2 n2
          have n3 : P ∉ ι3 := s3.not (by rw [hP2]; simp) n2
          have s123 := (s1.trans s2).trans s3
          have sc := cut s123
          have bars : ∀ a ∈ ι2, ((γ.to ι2).add P).bar a := fun a h => .inl h
          have r2' : RelD T ι3 ((γ.to ι3).add P).bar H3 k y := r2.keep s3 bars (Gho.grows (γ := (γ.add P).to ι2) s3)
          -- the entry is told at H3, where P stands
          have dE : DctA T ι3 ((γ.to ι3).add P).bar (era H3 P) P pp.1 pp.2 o := dA.keep sc biA (growA sc)
          have d3 : DctA T ι3 ((γ.to ι3).add P).bar H3 P pp.1 pp.2 o := dE.keep (.same era_same) (fun a h => .inl h) fun a h => .inl h
          have hroom := p.1
          have hfit := hroom.1
          have hsome := hroom.2
          have ek : tupK k = true := by
            rw [foldP_app, ef] at hsome
            cases q : tupK k with
            | true => rfl
            | false => simp [stepP, q] at hsome
          have hlen : pp.1.length < 16777216 := by
            have := foldP_le (p := ([], [])) ef
            unfold fits at hfit
            simp only [decide_eq_true_eq, List.length_append, List.length_cons, List.length_nil] at hfit this
            omega
          obtain ⟨o', hadd, ⟨bs', ws', eo, q1, q2⟩, hl', hk'⟩ := d3.put ok rm hP3 ek r2' r3 hlen
          refine ⟨o', hadd, ?_⟩
          rw [upd_era2]
          refine p.2 ι3 _ o' sc ((G3.era (γ.to ι3).add_self hP3 so n3).fewer add_fw) era_self n3 ⟨putK2 pp.1 pp.2 k v, ?_, ⟨bs', ws', eo, q1.era (γ.to ι3).add_self hP3 so, q2.era (γ.to ι3).add_self hP3 so⟩, hl', hk'⟩
          rw [foldP_app, ef]
          simp [stepP, ek]
theorem dc_test {T : Wd} {W : WX} {X : Cx} {mi : EvI} {vs sl : List Nat} {t : Tg} {mt : EvB} {mk mv : Ev} (ok : Ok T X) (rm : Rm X) (hs : ∀ i ∈ sl, i ∈ vs) {σ : L2.St} {H : Hp} {Q : VK} (h : tX T W (rD T) (mDc mi vs t (elD mt mk mv)) σ H Q) :
    tMk (tI T W Stays mi) (tG T sl t) (tX T W0 rB mt) (stD T X mk mv) vs (fun P => .ext (DctN T.P T.w P [] [] [])) σ H Q := by
  obtain ⟨γ, ρ, g, R, p⟩ := h
  refine ⟨γ, ρ, g, R, ?_⟩
  unfold mDc at p
  revert p
  cases mi ρ g with
  | bad => exact fun p => p
  | exc x g1 => exact fun p => p
  | ok dd g1 =>
    intro p J K ι1 H1 hK okJ s1 G1 k1 P nP
    dsimp only at p
    have R1 := R.step s1 G1
    have nι : P ∉ ι1 := fun z => G1.tracked P z nP
    have W := turns (C := accD T P) (st := stDT T X mt mk mv P) (g0 := tG T sl t) (vs := vs) (Qd := fun H => Q (.ref P) H) (P := P) (sl := sl) (t := t) (ms := elD mt mk mv) (dd := dd) (J := J) (a0 := []) (o0 := .ext (DctN T.P T.w P [] [] [])) hK okJ (fun _ _ _ _ h => h) hs (stg_dct ok rm) (R1.hides vs) wipe_wipe (fun i h => hides_oa h) nP (by rw [Gho.hides_ι]; exact nι) (by
        rw [Gho.hides_ι]
        exact hK _ _ _ _ _ _ .refl (γ.to ι1).bi (fun a h => .inl (Gho.hides_bar.mp h)) k1) ⟨([], []), rfl, ⟨⟨[], [], rfl, .nil, .nil⟩, rfl, rfl⟩⟩ (by
      revert p
      cases gaL t (elD mt mk mv) (wipeE ρ vs) dd g1 with
      | bad => exact fun p => p
      | exc x g' => exact fun p => p.elim
      | ok ys g' =>
        dsimp only
        cases hf : foldP ys with
        | none => exact fun p => p.elim
        | some pp =>
          dsimp only
          split
          · rename_i hfit
            refine fun p => ⟨⟨by simpa using hfit, by simp [hf]⟩, fun ι5 H5 o5 s5 G5 n5 np5 A5 => ?_⟩
            rw [Gho.hides_ι] at s5
            obtain ⟨pp', ef, dA⟩ := A5
            simp only [List.nil_append, hf, Option.some.injEq] at ef
            subst ef
            have dB : DctA T ι5 (γ.to ι5).bar H5 P pp.1 pp.2 o5 := dA.fewer (bar' := (γ.to ι5).bar) fun a h => Gho.add_bar.mpr (.inl (hides_bi (γ := γ.to ι1).mpr h))
            have G6 : GR T ι5 (γ.to ι5).bar H5 g' := G5.fewer fun a h => hides_bi.mpr h
            have gr : Grows H5 (γ.to ι5).bar (γ.to ι5).bar := fun a h => .inl h
            have nb : ¬ (γ.to ι5).bar P := fun z => (R.step (s1.trans s5) G6).bart P z n5
            refine p (.ref P) ι5 _ ((s1.trans s5).trans (.same (same_lay n5))) (G6.keep (same_lay n5) (γ.to ι5).bi gr) ?_
            obtain ⟨⟨bs, ws, eo, q1, q2⟩, hl, hk⟩ := dB
            have hkk : ∀ k ∈ pp.1, tupK k = true := fun k hk' => List.all_eq_true.mp hk k hk'
            simp only [RelD]
            refine ⟨P, bs.map V.ref, ws, rfl, nb, q1.keep (.same (same_lay n5)) (γ.to ι5).bi gr, q2.keep (.same (same_lay n5)) (γ.to ι5).bi gr, hl, .inr ⟨bs, rfl, ?_, ?_, by rw [upd_same, eo]⟩⟩
            · have : ∀ {l : List D}, (∀ k ∈ l, tupK k = true) → isKs l = true := by
                intro l
                induction l with
                | nil => intro _; rfl
                | cons x l ih => intro h; simp only [isKs, (tupK_isK (h x (List.mem_cons_self ..))).1, ih fun k hk => h k (List.mem_cons_of_mem _ hk), Bool.and_self]
              exact this hkk
            · have : ∀ {l : List D}, (∀ k ∈ l, tupK k = true) → ∀ k ∈ nks l, k.depth ≤ 8 := by
                intro l
                induction l with
                | nil => intro _ k hk; simp [nks] at hk
                | cons x l ih =>
                  intro h k hk
                  simp only [nks, List.mem_cons] at hk
                  rcases hk with rfl | hk
                  · exact (tupK_isK (h x (List.mem_cons_self ..))).2.1
                  · exact ih (fun k hk => h k (List.mem_cons_of_mem _ hk)) k hk
              exact this hkk
          · exact fun p => p.elim)
    obtain ⟨W1, w0, turn⟩ := W
    refine ⟨W1, w0, fun i m H w => ?_⟩
    rcases turn i m H w with t1 | ⟨t1, Nx, t2, t3⟩
    · exact .inl t1
    · exact .inr ⟨t1, Nx, t2, t3⟩
section
variable {T : Wd} {W : WX} {X : Cx} {kx vx tg iter : Expr} {ifs : List Expr} {scope : Scope} {pos : Pos} {mi : EvI} {t : Tg} {mt : EvB} {mk mv : Ev} {sl : List Nat}
theorem ee_dc (ok : Ok T X) (rm : Rm X) (hc : X.calm = true) (hN : X.N.Nodup) (hi : EIw T W X tg iter mi) (own : List (Str × Nat)) (bo : blkC X.N X.env.scope scope own = true)
    (hg : ∀ (s : Shared) (H : Hp) (C : Addr) (cl : List (Str × Addr)) (fp : List Addr), GT T (X.blk s H scope (compEnvC scope cl C X.env) fp) tg sl t)
    (ht : ∀ (s : Shared) (H : Hp) (C : Addr) (cl : List (Str × Addr)) (fp : List Addr), PTs (X.blk s H scope (compEnvC scope cl C X.env) fp) ifs (tX T W0 rB mt))
    (hk : ∀ (s : Shared) (H : Hp) (C : Addr) (cl : List (Str × Addr)) (fp : List Addr), EE T W0 (X.blk s H scope (compEnvC scope cl C X.env) fp) kx mk)
    (he : ∀ (s : Shared) (H : Hp) (C : Addr) (cl : List (Str × Addr)) (fp : List Addr), EE T W0 (X.blk s H scope (compEnvC scope cl C X.env) fp) vx mv)
    (hs : (sl.all fun i => decide (i ∈ own.map (·.2))) = true := by rfl) (hf : ∀ x, foldedSetIterable iter X.env x = pure x := by intro _; rfl) :
    EE T W X (.DictComp kx vx [⟨tg, iter, ifs, 0⟩] scope pos) (mDc mi (own.map (·.2)) t (elD mt mk mv)) := by
  refine PE.imp (pe_mk (new := newDict) (pos' := firstIterPos [⟨tg, iter, ifs, 0⟩] pos) (u0 := fun P => .ext (DctN T.P T.w P [] [] [])) (st := stD T X mk mv)
    (sw := fun cenv P N Er s => wpAny (model X.prog X.w) X.A (eval kx cenv) (fun kv s4 => wpAny (model X.prog X.w) X.A (eval vx cenv) (fun vv s5 => wpAny (model X.prog X.w) X.A (dictSet P kv vv) (fun _ s6 => N s6) Er s5) Er s4) Er s)
    hc hN hi (blkOk_by bo) hg ht rfl hf (arm_eval_DictComp ..) ?_ (fun cenv itv P R I turn n s hI => compLoop_anyD I turn n hI) (fun cenv itv P R s h1 h2 => codeAny_compStart_dict h1 h2) ?_) fun σ H Q h => dc_test ok rm (fun i h => of_decide_eq_true (List.all_eq_true.mp hs i h)) h
  · intro pins σ H s Q I hQ
    refine wpAny_newObj_type (hQ _ ?_ (fun b o e => Heap.get?_push_of_some _ e) (Heap.size_push ..))
    refine I.laid (t' := s.toks) (fun b o e => Heap.get?_push_of_some _ e) (Nat.le_refl _) ?_
    have big := I.big
    refine ⟨⟨by simpa using Nat.ne_of_gt big, [], .nil, _, #[], _, Heap.get?_push_size _ rfl, ⟨rfl, rfl, rfl⟩, rfl, rfl, List.nodup_nil⟩, ⟨_, Heap.get?_push_size _ rfl⟩, fun h1 h2 p k => ?_⟩
    obtain ⟨p1, us2, p2, o3, es3, ep3, p3, p4⟩ := p
    exact ⟨p1, us2, p2, o3, es3, ep3, k _ p3, p4⟩
  · intro s0 H0 C cl fp pins σ H s P Nx N Er I h hN
    refine thnF ((hk s0 H0 C cl fp).run pins s σ H _ I h) fun kv s4 ⟨y, H4, I4, r4, h4⟩ => ?_
    refine thnF ((he s0 H0 C cl fp).run pins s4 σ H4 _ I4 h4) fun vv s5 ⟨z, H5, I5, r5, o', hadd, nx⟩ => ?_
    exact hadd (X.blk s0 H0 scope (compEnvC scope cl C X.env) fp) pins σ s5 Er _ kv vv rfl rfl rfl rfl I5 r4 r5 fun s6 I6 => hN s6 _ I6 nx
end
end Z

namespace Z
open PySem PySem.Spec PyProof.Rows L2
set_option autoImplicit false

theorem tupK_leaf {k : D} (h : tupK k = true) : lf k = none := by
  obtain ⟨_, _, ds, rfl⟩ := tupK_isK h
  rfl
section
variable {T : Wd} {W : WX} {X : Cx} {pins : List (Addr × Obj)} {σ : L2.St} {H : Hp} {s : Shared} {ι : List Addr} {bar : Addr → Prop} {ks vs : List D} {x : V}
/-- a dict whose keys are tuples, read -/
theorem dct_read (ok : Ok T X) (I : Inv X pins σ H s) (r : RelW T ι bar H (.dct ks vs) x) (hk : ks.all tupK = true) :
    ∃ a, x = .ref a ∧ (a == sysModules) = false ∧ ∃ (bs : List Addr) (us : List Value) (ws : List V), Vals ws us ∧ RelDs T ι bar H vs ws ∧ s.heap.DictOfH (nestedKind T.P T.w) a (z3 (nks ks) bs us) ∧ (nks ks).length = bs.length ∧ (nks ks).length = us.length := by
  have core : ∀ (a : Addr) (us ws : List V), x = .ref a → RelDs T ι bar H ks us → RelDs T ι bar H vs ws → ks.length = vs.length → ((∃ ls, lfs ks = some ls ∧ H a = some (.ext (DctF T.P T.w a ls ws))) ∨ (∃ bs : List Addr, us = bs.map V.ref ∧ isKs ks = true ∧ (∀ k ∈ nks ks, k.depth ≤ 8) ∧ H a = some (.ext (DctN T.P T.w a (nks ks) bs ws)))) →
      ∃ a, x = .ref a ∧ (a == sysModules) = false ∧ ∃ (bs : List Addr) (us : List Value) (ws : List V), Vals ws us ∧ RelDs T ι bar H vs ws ∧ s.heap.DictOfH (nestedKind T.P T.w) a (z3 (nks ks) bs us) ∧ (nks ks).length = bs.length ∧ (nks ks).length = us.length := by
    intro a us ws e r1 r2 hl alt
    rcases alt with ⟨ls, el, hh⟩ | ⟨bs, eu, _, _, hh⟩
    · cases ks with
      | nil =>
        simp only [lfs, Option.some.injEq] at el
        subst el
        obtain ⟨h1, us2, rv, hd⟩ := ext_at I hh
        have ew : ws = [] := by
          have := r2.length
          rw [← hl] at this
          exact List.length_eq_zero_iff.mp this
        subst ew
        cases rv
        obtain ⟨o, es, ep, ho, he, hdt, hes, hpr, hrest⟩ := hd
        refine ⟨a, e, h1, [], [], [], .nil, r2, ⟨o, es, ep, ho, he, hdt, ?_, by simp [z3, nks], by simp [z3, nks]⟩, rfl, rfl⟩
        have hpr : Pairs (leafKind T.P T.w) es.toList [] := by simpa using hpr
        show es.toList = []
        generalize es.toList = l at hpr
        cases hpr
        rfl
      | cons k ks =>
        have hk : tupK k = true ∧ ks.all tupK = true := by simpa using hk
        simp only [lfs, tupK_leaf hk.1] at el
        cases el
    · subst eu
      obtain ⟨h1, us2, rv, hd, nd⟩ := dct_at ok I hh hk r1
      have l1 : bs.length = ks.length := by have := r1.length; rw [List.length_map] at this; exact this
      exact ⟨a, e, h1, bs, us2, ws, rv, r2, hd, by rw [nks_len, l1], by rw [nks_len, ← rv.length, r2.length, hl]⟩
  rcases r with r | ⟨a, e, _, r⟩
  · simp only [RelD] at r
    obtain ⟨a, us, ws, e, _, r1, r2, hl, alt⟩ := r
    exact core a us ws e r1 r2 hl alt
  · obtain ⟨us, ws, r1, r2, hl, alt⟩ := r
    exact core a us ws e r1 r2 hl alt
/-- the entry at a key -/
theorem entry_of {bs : List Addr} {us : List Value} {ws : List V} {k : NestedKey} {j : Nat} {d : D} (rv : Vals ws us) (r : RelDs T ι bar H vs ws) (h1 : (nks ks).length = bs.length) (h2 : (nks ks).length = us.length) (hj : ixN (nks ks) k = some j) (hd : vs[j]? = some d) :
    ∃ u w, valueAt (pairsH (z3 (nks ks) bs us)) k = some u ∧ L2.RelV w u ∧ RelD T ι bar H d w := by
  obtain ⟨w, e1, r1⟩ := r.get hd
  obtain ⟨u, e2, r2⟩ := rv.get e1
  refine ⟨u, w, ?_, r2, r1⟩
  rw [valueAt_pairsH, at_z3 h1 h2, hj]
  have hl := ixN_lt hj
  have : (bs.zip us)[j]? = some (bs[j]'(by omega), us[j]'(by omega)) := by
    rw [List.getElem?_eq_getElem (by rw [List.length_zip]; omega), List.getElem_zip]
  rw [Option.bind_some, this]
  have : us[j]? = some (us[j]'(by omega)) := List.getElem?_eq_getElem _
  rw [e2] at this
  simp only [Option.map_some, Option.some.injEq] at this ⊢
  exact this.symm
end
def mDix (o k : Ev) : Ev := fun ρ g => (o ρ g).bind fun d g1 => match d with
  | .dct ks vs => (k ρ g1).bind fun e g2 => if tupK e = true ∧ ks.all tupK = true then (match ixN (nks ks) (nk e) with
    | some j => ret (vs[j]?) g2
    | none => .bad) else .bad
  | _ => .bad
def mDgt (o k z : Ev) : Ev := fun ρ g => (o ρ g).bind fun d g1 => match d with
  | .dct ks vs => if ks.all tupK = true then ((k ρ g1).bind fun e g2 => (z ρ g2).bind fun f g3 => if tupK e = true ∧ ks.all tupK = true then (match ixN (nks ks) (nk e) with
    | some j => ret (vs[j]?) g3
    | none => .ok f g3) else .bad) else .bad
  | _ => .bad
section
variable {T : Wd} {W : WX} {X : Cx} {o i e f : Expr} {mo mk mz : Ev} {pos apos cpos : Pos}
theorem tup_ref {ι : List Addr} {bar : Addr → Prop} {H : Hp} {k : D} {y : V} (h : tupK k = true) (r : RelD T ι bar H k y) : ∃ b, y = .ref b := by
  obtain ⟨_, _, ds, rfl⟩ := tupK_isK h
  simp only [RelD] at r
  obtain ⟨b, _, e, _⟩ := r
  exact ⟨b, e⟩
theorem ee_dix (ok : Ok T X) (rm : Rm X) (ho : EW T W X o mo) (hi : EE T W X i mk) (hs : NoSl i := by exact fun _ _ => rfl) : EE T W X (.Subscript o i pos) (mDix mo mk) := by
  refine ⟨fun pins s σ H Q I h => ?_⟩
  obtain ⟨γ, ρ, g, S, p⟩ := h
  refine subD_of PySem.F.slot_dict_getitem.lookup hs (thn (ho.run pins s σ H (fun x H1 => ∃ γ1 g1 d, StR T γ1 H1 ρ σ g1 ∧ RelW T γ1.ι γ1.bar H1 d x ∧ Post T γ1 H1 σ W (rD T) Q (match d with
      | .dct ks vs => (mk ρ g1).bind fun e g2 => if tupK e = true ∧ ks.all tupK = true then (match ixN (nks ks) (nk e) with
        | some j => ret (vs[j]?) g2
        | none => .bad) else .bad
      | _ => .bad)) I ⟨γ, ρ, g, S, p.bind fun d g1 _ v ι1 H1 s1 G1 r1 p1 => ⟨γ.to ι1, g1, d, S.step s1 G1, r1, p1⟩⟩) fun u s1 ⟨x, H1, I1, rx, γ1, g1, d, S1, r1, p1⟩ => ?_)
  cases d with
  | dct ks vs =>
    refine thn (hi.run pins s1 σ H1 (fun y H2 => ∃ γ2 g2 e, StR T γ2 H2 ρ σ g2 ∧ RelW T γ2.ι γ2.bar H2 (.dct ks vs) x ∧ RelD T γ2.ι γ2.bar H2 e y ∧ Post T γ2 H2 σ W (rD T) Q (if tupK e = true ∧ ks.all tupK = true then (match ixN (nks ks) (nk e) with
        | some j => ret (vs[j]?) g2
        | none => .bad) else .bad)) I1 ⟨γ1, ρ, g1, S1, p1.bind fun e g2 _ v ι2 H2 s2 G2 r2 p2 => ⟨γ1.to ι2, g2, e, S1.step s2 G2, r1.keep s2 γ1.bi (Gho.grows s2), r2, p2⟩⟩) fun iv s2 ⟨y, H2, I2, ry, γ2, g2, e, S2, rx2, r2, p2⟩ => ?_
    split at p2
    · rename_i hc
      obtain ⟨a, ex, hsys, bs, us, ws, rv, rw_, hd, l1, l2⟩ := dct_read ok I2 rx2 hc.2
      subst ex
      cases rx
      refine ⟨hd.typeIs, ?_⟩
      cases hj : ixN (nks ks) (nk e) with
      | none => rw [hj] at p2; exact p2.elim
      | some j =>
        rw [hj] at p2
        dsimp only at p2
        cases hv : vs[j]? with
        | none => rw [hv] at p2; exact p2.elim
        | some dd =>
          rw [hv] at p2
          obtain ⟨u, w, e1, e2, e3⟩ := entry_of rv rw_ l1 l2 hj hv
          obtain ⟨b, rfl⟩ := tup_ref hc.1 r2
          cases ry
          obtain ⟨q1, q2, _⟩ := tupK_isK hc.1
          rw [ok.P, ok.w]
          refine getItem_keyed (knd := nestedKind T.P T.w) (k := nk e) ?_ ⟨nested_of ok I2 q1 r2 (show L2.RelV (.ref b) (.ref b) from rfl), q2⟩ ⟨_, hd, rfl⟩ e1 ?_
          · show X.A.in1.units + 8 < cLine
            have := rm.hu
            show X.A.units + 1 + 8 < cLine
            omega
          · exact ⟨w, H2, I2.tok _, e2, p2 w γ2.ι H2 .refl S2.cells e3⟩
    · exact p2.elim
  | _ => exact p1.elim
/-- d.get(k, z) -/
theorem ee_dgt (ok : Ok T X) (rm : Rm X) (ho : EW T W X o mo) (he : EE T W X e mk) (hf : EE T W X f mz) (m : M2 X o "get" apos e f cpos := by exact ⟨rfl, rfl, rfl, rfl⟩) : EE T W X (.Call (.Attribute o "get" apos) [e, f] [] cpos) (mDgt mo mk mz) := by
  refine ⟨fun pins s σ H Q I h => ?_⟩
  obtain ⟨γ, ρ, g, S, p⟩ := h
  refine wpAny_Call_method m.base m.few m.line PySem.F.plainAttrs_dict PySem.F.slot_dict_get PySem.F.type_dict_get (thn (ho.run pins s σ H (fun x H1 => ∃ γ1 g1 d, StR T γ1 H1 ρ σ g1 ∧ RelW T γ1.ι γ1.bar H1 d x ∧ Post T γ1 H1 σ W (rD T) Q (match d with
      | .dct ks vs => if ks.all tupK = true then ((mk ρ g1).bind fun e g2 => (mz ρ g2).bind fun f g3 => if tupK e = true ∧ ks.all tupK = true then (match ixN (nks ks) (nk e) with
        | some j => ret (vs[j]?) g3
        | none => .ok f g3) else .bad) else .bad
      | _ => .bad)) I ⟨γ, ρ, g, S, p.bind fun d g1 _ v ι1 H1 s1 G1 r1 p1 => ⟨γ.to ι1, g1, d, S.step s1 G1, r1, p1⟩⟩) fun u s1 ⟨x, H1, I1, rx, γ1, g1, d, S1, r1, p1⟩ => ?_)
  cases d with
  | dct ks vs =>
    by_cases hall : ks.all tupK = true
    · dsimp only at p1
      rw [if_pos hall] at p1
      obtain ⟨a, ex, hsys, bs0, us0, ws0, rv0, rw0, hd0, _, _⟩ := dct_read ok I1 r1 hall
      subst ex
      cases rx
      refine ⟨hd0.typeIs, fun b eb => ?_, ?_⟩
      · cases eb
        obtain ⟨ob, es, ep, h1, h2, _⟩ := hd0
        exact ⟨ob, h1, h2.2.1⟩
      rw [m.trees]
      refine Calls.callWith_builtin rfl (Calls.evalArgs_plain (Calls.spliced_cons (thn (he.run pins s1 σ H1 (fun y H2 => ∃ γ2 g2 e, StR T γ2 H2 ρ σ g2 ∧ RelW T γ2.ι γ2.bar H2 (.dct ks vs) (.ref a) ∧ RelD T γ2.ι γ2.bar H2 e y ∧ Post T γ2 H2 σ W (rD T) Q ((mz ρ g2).bind fun f g3 => if tupK e = true ∧ ks.all tupK = true then (match ixN (nks ks) (nk e) with
        | some j => ret (vs[j]?) g3
        | none => .ok f g3) else .bad)) I1 ⟨γ1, ρ, g1, S1, p1.bind fun e g2 _ v ι2 H2 s2 G2 r2 p2 => ⟨γ1.to ι2, g2, e, S1.step s2 G2, r1.keep s2 γ1.bi (Gho.grows s2), r2, p2⟩⟩) fun iv s2 ⟨y, H2, I2, ry, γ2, g2, e, S2, rx2, r2, p2⟩ => Calls.spliced_cons (thn (hf.run pins s2 σ H2 (fun z H3 => ∃ γ3 g3 f, StR T γ3 H3 ρ σ g3 ∧ RelW T γ3.ι γ3.bar H3 (.dct ks vs) (.ref a) ∧ RelD T γ3.ι γ3.bar H3 e y ∧ RelD T γ3.ι γ3.bar H3 f z ∧ Post T γ3 H3 σ W (rD T) Q (if tupK e = true ∧ ks.all tupK = true then (match ixN (nks ks) (nk e) with
        | some j => ret (vs[j]?) g3
        | none => .ok f g3) else .bad)) I2 ⟨γ2, ρ, g2, S2, p2.bind fun f g3 _ v ι3 H3 s3 G3 r3 p3 => ⟨γ2.to ι3, g3, f, S2.step s3 G3, rx2.keep s3 γ2.bi (Gho.grows s3), r2.keep s3 γ2.bi (Gho.grows s3), r3, p3⟩⟩) fun fv s3 ⟨z, H3, I3, rz, γ3, g3, f, S3, rx3, r3, rf, p3⟩ => Calls.spliced_nil ?_))))
      split at p3
      · rename_i hc
        obtain ⟨a', ex, hsys, bs, us, ws, rv, rw_, hd, l1, l2⟩ := dct_read ok I3 rx3 hc.2
        cases ex
        obtain ⟨b, rfl⟩ := tup_ref hc.1 r3
        cases ry
        obtain ⟨q1, q2, _⟩ := tupK_isK hc.1
        have isk : (nestedKind T.P T.w).is s3.heap (nk e) b := ⟨nested_of ok I3 q1 r3 (show L2.RelV (.ref b) (.ref b) from rfl), q2⟩
        have room : (nestedKind T.P T.w).room X.A.in1 := by
          show X.A.units + 1 + 8 < cLine
          have := rm.hu; omega
        rw [ok.P, ok.w]
        refine getOr_keyed (knd := nestedKind T.P T.w) (k := nk e) room isk hsys ⟨_, hd, rfl⟩ ?_
        cases hj : ixN (nks ks) (nk e) with
        | none =>
          rw [hj] at p3
          have : valueAt (pairsH (z3 (nks ks) bs us)) (nk e) = none := by rw [valueAt_pairsH, at_z3 l1 l2, hj]; rfl
          rw [this]
          exact ⟨z, H3, I3.tok _, rz, p3 z γ3.ι H3 .refl S3.cells rf⟩
        | some j =>
          rw [hj] at p3
          dsimp only at p3
          cases hv : vs[j]? with
          | none => rw [hv] at p3; exact p3.elim
          | some dd =>
            rw [hv] at p3
            obtain ⟨u, w, e1, e2, e3⟩ := entry_of rv rw_ l1 l2 hj hv
            rw [e1]
            exact ⟨w, H3, I3.tok _, e2, p3 w γ3.ι H3 .refl S3.cells e3⟩
      · exact p3.elim
    · dsimp only at p1
      rw [if_neg hall] at p1
      exact p1.elim
  | _ => exact p1.elim
end
end Z

namespace Z
open PySem PySem.Spec PyProof.Rows L2
set_option autoImplicit false

/-! ### tuple(range(n)) -/
section
variable {prog : Program} {w : World} {A : Around} {E : Value → Shared → Prop} {s : Shared} {r : Addr} {a b : Int} {t u v : Tok} {n : Nat}
theorem collect_range {Q : List Value → Shared → Prop} (hh : A.handled = none) (hr : IsRange s.heap r a b 1 t u v) (hs : Builtin.Range.small a b 1 = true) (hn : Builtin.Range.rangeSize a b 1 = n) (hl : n ≤ 2 ^ 24)
    (hQ : ∀ (h' : Heap) (tk : Nat) (acc : Array Value), (∀ b o, s.heap.get? b = some o → h'.get? b = some o) → ItemsOf (fun i v => ∃ t, v = .int (a + i * 1) t) acc n → Q acc.toList { s with heap := h', toks := tk }) : wpAny (model prog w) A (collect (.ref r)) Q E s := by
  unfold collect
  refine wpAny_bind (wpAny_runValue (codeAny_builtin F.entry_proto_collect ?_))
  rw [Around.under_plainId F.plain_proto_collect _]
  show wpAny _ A.in1 (newList [] >>= fun acc => again (.builtin "list.__iadd__" ⟨[acc, .ref r], []⟩)) _ _ s
  refine wpAny_bind (wpAny_newObj_type (wpAny_pure ⟨plainId_quiet F.plain_list_iadd _, codeAny_builtin F.entry_list_iadd ?_⟩))
  rw [Around.under_plainId F.plain_list_iadd _]
  have hS : (s.heap.push { cls := .type "list", data := .seq ([] : List Value).toArray }).get? s.heap.objs.size = some { cls := .type "list", data := .seq #[] } := Heap.get?_push_size _ rfl
  show wpAny _ A.in1 (Builtin.List.listExtendWith (.ref s.heap.objs.size) (.ref r) (.ref s.heap.objs.size)) _ _ _
  refine wpAny_extend_range (R := fun res s' => match res with
    | .ok (.ret v) => wpAny (model prog w) A (match v with
      | .ref p => (do
        let ob ← load p
        match ob.data with
        | .seq xs _ => pure xs.toList
        | _ => unsupported "internal:collect")
      | _ => unsupported "internal:collect") Q E s'
    | .ok _ => False
    | .error e => E e s') (s := { s with heap := s.heap.push { cls := .type "list", data := .seq ([] : List Value).toArray } }) hh (Heap.get?_push_of_some _ hr) hs hn hl s.heap.objs.size _ 0 hS fun h' tk acc' c' hk hS' hacc => ?_
  show wpAny _ A (load s.heap.objs.size >>= _) _ _ _
  refine wpAny_bind (wpAny_load hS' (wpAny_pure ?_))
  exact hQ h' tk acc' (fun b o e => hk b o (Nat.ne_of_lt (Heap.lt_size e)) (Heap.get?_push_of_some _ e)) hacc
theorem tuple_new_range {Q : Value → Shared → Prop} (hh : A.handled = none) (hr : IsRange s.heap r a b 1 t u v) (hs : Builtin.Range.small a b 1 = true) (hn : Builtin.Range.rangeSize a b 1 = n) (hl : n ≤ 2 ^ 24)
    (hQ : ∀ (h' : Heap) (tk : Nat) (acc : Array Value), (∀ b o, s.heap.get? b = some o → h'.get? b = some o) → ItemsOf (fun i v => ∃ t, v = .int (a + i * 1) t) acc n → Q (.ref h'.objs.size) { s with heap := h'.push { cls := .type "tuple", data := .seq acc }, toks := tk }) :
    codeAny (model prog w) A (.call (.builtin "tuple.__new__") ⟨[.type "tuple", .ref r], []⟩) (wants Q E) s := by
  refine codeAny_of_tree ?_
  show wpAny _ A.in1 (do checkBuiltinCall "tuple.__new__" ⟨[.type "tuple", .ref r], []⟩; again (.builtin "tuple.__new__" ⟨[.type "tuple", .ref r], []⟩)) _ _ s
  refine wpAny_bind (wpAny_of_eq (F.newCall_tuple_1 _) (wpAny_pure ⟨plainId_quiet F.plain_tuple_new _, codeAny_builtin F.entry_tuple_new ?_⟩))
  rw [Around.under_plainId F.plain_tuple_new _]
  have hsub := sub_tuple_self
  have hinit := init_tuple_lookup
  have hmh := madeHere_tuple
  have hTI : s.TypeIs (.ref r) "range" := ⟨_, hr, rfl⟩
  wp_walk using wpAny_typeOf hTI, collect_range (A := A.in1) hh hr hs hn hl
  intro h' tk acc hk hacc
  show wpAny _ _ (Builtin.Tuple.tupleExact acc.toList.toArray >>= fun v => PySem.ret v) _ _ _
  unfold Builtin.Tuple.tupleExact
  refine wpAny_bind (wpAny_newObj_type ?_ (by show acc.toList.toArray.size ≤ sizeLine; simp only [Array.toArray_toList]; rw [hacc.1, sizeLine_eq]; omega))
  refine wpAny_pure ?_
  have e : acc.toList.toArray = acc := by simp
  rw [e]
  exact hQ h' tk acc hk hacc
theorem call_tuple_range {Q : Value → Shared → Prop} (hh : A.handled = none) (hr : IsRange s.heap r a b 1 t u v) (hs : Builtin.Range.small a b 1 = true) (hn : Builtin.Range.rangeSize a b 1 = n) (hl : n ≤ 2 ^ 24)
    (hQ : ∀ (h' : Heap) (tk : Nat) (acc : Array Value), (∀ b o, s.heap.get? b = some o → h'.get? b = some o) → ItemsOf (fun i v => ∃ t, v = .int (a + i * 1) t) acc n → Q (.ref h'.objs.size) { s with heap := h'.push { cls := .type "tuple", data := .seq acc }, toks := tk }) :
    wpAny (model prog w) A (call (.type "tuple") [.ref r]) Q E s := by
  refine callType_codes (Q₁ := fun obj s₁ => s₁.TypeIs obj "tuple" ∧ Q obj s₁) F.called_tuple (F.typeCall_tuple_1 _) F.entry_object_init
    (tuple_new_range hh hr hs hn hl fun h' tk acc hk hacc => ⟨⟨_, Heap.get?_push_size _ rfl, rfl⟩, hQ h' tk acc hk hacc⟩) fun obj s₁ h₁ => ?_
  exact ⟨h₁.1, F.args_object_init_2 obj _, object_init_meets F.called_tuple.init.lookup F.called_tuple.made (by decide) prog w A.in1 _ s₁ ⟨h₁.1, rfl, h₁.2⟩⟩
end
theorem cr_range1 {X : Cx} : CallR X (.type "range") (fun vs H Q => ∃ j, vs = [V.int j] ∧ ∀ p, H p = none → Q (.ref p) (upd H p (.rng 0 j))) := by
  intro pins s σ H vs us Q I r h
  obtain ⟨j, rfl, q⟩ := h
  obtain ⟨u1, rfl, t, rfl⟩ := r.one
  exact call_range_1 ⟨.ref s.heap.objs.size, upd H s.heap.objs.size (.rng 0 j), I.laid (t' := s.toks + 1 + 1) (fun b o e => Heap.get?_push_of_some _ e) (Nat.le_refl _) ⟨s.toks, t, s.toks + 1, Heap.get?_push_size _ rfl⟩, rfl, q _ (I.hok.fresh (Nat.le_refl _))⟩
theorem items_range {a : Int} {n : Nat} {acc : Array Value} (h : ItemsOf (fun i v => ∃ t, v = Value.int (a + i * 1) t) acc n) : Vals ((List.range n).map fun (i : Nat) => V.int (a + (i : Int))) acc.toList := by
  have key : ∀ (l : List Value) (k : Nat), (∀ j v, l[j]? = some v → ∃ t, v = Value.int (a + ((k + j : Nat) : Int)) t) → Vals ((List.range' k l.length).map fun (i : Nat) => V.int (a + (i : Int))) l := by
    intro l
    induction l with
    | nil => intro k _; exact Paired.nil
    | cons x l ih =>
      intro k hj
      refine Paired.cons ?_ ?_
      · obtain ⟨t, e⟩ := hj 0 x rfl
        exact ⟨t, by simpa using e⟩
      · refine ih (k + 1) fun j v e => ?_
        obtain ⟨t, e⟩ := hj (j + 1) v (by simpa using e)
        exact ⟨t, by rw [e]; congr 3; omega⟩
  have := key acc.toList 0 fun j v e => by
    obtain ⟨t, e⟩ := h.2 j v (by simpa using e)
    exact ⟨t, by rw [e]; simp⟩
  rw [Array.length_toList, h.1, ← List.range_eq_range'] at this
  exact this
/-- tuple(r), list(r) of a range -/
theorem cr_tupR {X : Cx} (hc : X.calm = true) : CallR X (.type "tuple") (fun vs H Q => ∃ p lo hi, vs = [V.ref p] ∧ H p = some (.rng lo hi) ∧ (-(2 ^ 62) ≤ lo ∧ lo < 2 ^ 62 ∧ -(2 ^ 62) ≤ hi ∧ hi < 2 ^ 62) ∧ (hi - lo).toNat ≤ 2 ^ 24 ∧
    ∀ q, H q = none → Q (.ref q) (upd H q (.tup ((List.range (hi - lo).toNat).map fun (i : Nat) => V.int (lo + (i : Int)))))) := by
  intro pins s σ H vs us Q I r h
  obtain ⟨p, lo, hi, rfl, hp, ⟨b1, b2, b3, b4⟩, hz, q⟩ := h
  obtain ⟨u1, rfl, ru⟩ := r.one
  cases ru
  obtain ⟨t, u, v, ho⟩ := I.hok p _ hp
  refine call_tuple_range (a := lo) (b := hi) (t := t) (u := u) (v := v) (n := (hi - lo).toNat) (I.ok.hd hc) ho (small_one b1 b2 b3 b4) ?_ hz fun h' tk acc hk hacc => ?_
  · rw [rangeSize_one]; split <;> omega
  · have nf : H h'.objs.size = none := by
      cases c : H h'.objs.size with
      | none => rfl
      | some o =>
        have l := (I.hok _ o c).lt
        obtain ⟨ob, e⟩ : ∃ ob, s.heap.get? h'.objs.size = some ob := by
          cases z : s.heap.get? h'.objs.size with
          | some ob => exact ⟨ob, rfl⟩
          | none =>
            have := (I.kept (h' := h') (t' := tk) hk).hok h'.objs.size o c
            exact absurd this.lt (Nat.lt_irrefl _)
        exact absurd (Heap.lt_size (hk _ _ e)) (Nat.lt_irrefl _)
    have I1 : Inv X pins σ H { s with heap := h', toks := tk } := I.kept hk
    refine ⟨.ref h'.objs.size, upd H h'.objs.size (.tup ((List.range (hi - lo).toNat).map fun (i : Nat) => V.int (lo + (i : Int)))), I1.laid (t' := tk) (fun b o e => Heap.get?_push_of_some _ e) (Nat.le_refl _) ⟨?_, acc.toList, items_range hacc, _, Heap.get?_push_size _ rfl, rfl, 0, by simp⟩, rfl, q _ nf⟩
    rw [List.length_map, List.length_range, sizeLine_eq]; omega
theorem cr_lstR {X : Cx} (hc : X.calm = true) : CallR X (.type "list") (fun vs H Q => ∃ p lo hi, vs = [V.ref p] ∧ H p = some (.rng lo hi) ∧ (-(2 ^ 62) ≤ lo ∧ lo < 2 ^ 62 ∧ -(2 ^ 62) ≤ hi ∧ hi < 2 ^ 62) ∧ (hi - lo).toNat ≤ 2 ^ 24 ∧
    ∀ q, H q = none → Q (.ref q) (upd H q (.lst ((List.range (hi - lo).toNat).map fun (i : Nat) => V.int (lo + (i : Int)))))) := by
  intro pins s σ H vs us Q I r h
  obtain ⟨p, lo, hi, rfl, hp, ⟨b1, b2, b3, b4⟩, hz, q⟩ := h
  obtain ⟨u1, rfl, ru⟩ := r.one
  cases ru
  obtain ⟨t, u, v, ho⟩ := I.hok p _ hp
  refine call_list_range (a := lo) (b := hi) (c := 1) (t := t) (u := u) (v := v) (n := (hi - lo).toNat) (I.ok.hd hc) ho (small_one b1 b2 b3 b4) ?_ hz fun h' tk acc c' hk hS hacc => ?_
  · rw [rangeSize_one]; split <;> omega
  · have nf : H s.heap.objs.size = none := I.hok.fresh (Nat.le_refl _)
    refine ⟨.ref s.heap.objs.size, upd H s.heap.objs.size (.lst ((List.range (hi - lo).toNat).map fun (i : Nat) => V.int (lo + (i : Int)))), I.laid (t' := tk) hk (Nat.le_refl _) ⟨?_, acc.toList, c', items_range hacc, by simpa using hS⟩, rfl, q _ nf⟩
    rw [List.length_map, List.length_range, sizeLine_eq]; omega
def mRk (k : List D → D) (m : EvL) : Ev := fun ρ g => match m ρ g with
  | .ok [.int j] g' => if -(2 ^ 62) ≤ j ∧ j < 2 ^ 62 ∧ fits j.toNat = true then .ok (k (rngD 0 j.toNat)) g' else .bad
  | .exc x g' => .exc x g'
  | _ => .bad
theorem rel_rng {T : Wd} {ι : List Addr} {bar : Addr → Prop} {H : Hp} (lo : Int) (n : Nat) : RelDs T ι bar H (rngD lo n) ((List.range n).map fun (i : Nat) => V.int (lo + (i : Int))) := by
  unfold rngD
  induction List.range n with
  | nil => exact .nil
  | cons i l ih => exact .cons (RelD.ofInt _) ih
theorem rngD_len (lo : Int) (n : Nat) : (rngD lo n).length = n := by simp [rngD]
section
variable {T : Wd} {W : WX} {X : Cx} {a : Expr} {m : EvL} {p rp pos rpos : Pos}
/-- the reading of range(a), its object new -/
theorem rng1_imp {σ : L2.St} {H : Hp} {Q : VK} {k : List D → D} (kk : List V → HO) (hk : ∀ (ι : List Addr) (bar : Addr → Prop) (H : Hp) (P : Addr) (ds : List D) (vs : List V), (∀ a, bar a → H a ≠ none) → (∀ a ∈ ι, bar a) → H P = none → RelDs T ι bar H ds vs → RelD T ι bar (upd H P (kk vs)) (k ds) (.ref P))
    (h : tX T W (rD T) (mRk k m) σ H Q) : tCB (fun vs H Q => ∃ j, vs = [V.int j] ∧ ∀ p, H p = none → Q (.ref p) (upd H p (.rng 0 j))) (tX T W (rDs T) m) σ H fun x H1 => ∃ p lo hi, [x] = [V.ref p] ∧ H1 p = some (.rng lo hi) ∧ (-(2 ^ 62) ≤ lo ∧ lo < 2 ^ 62 ∧ -(2 ^ 62) ≤ hi ∧ hi < 2 ^ 62) ∧ (hi - lo).toNat ≤ 2 ^ 24 ∧
    ∀ q, H1 q = none → Q (.ref q) (upd H1 q (kk ((List.range (hi - lo).toNat).map fun (i : Nat) => V.int (lo + (i : Int))))) := by
  obtain ⟨γ, ρ, g, S, q⟩ := h
  refine ⟨γ, ρ, g, S, ?_⟩
  unfold mRk at q
  revert q
  split
  · rename_i j g' e
    rw [e]
    split
    · rename_i hb
      intro q v ι1 H1 s1 G1 r1
      obtain ⟨x, rfl, r2⟩ := RelDs.one r1
      have r3 : x = .int j := by simpa only [RelD] using r2
      subst r3
      refine ⟨j, rfl, fun P hP => ⟨P, 0, j, rfl, upd_same, ?_⟩⟩
      have hf := of_decide_eq_true hb.2.2
      refine ⟨⟨by omega, by omega, hb.1, hb.2.1⟩, by simpa using hf, fun P2 hP2 => ?_⟩
      have S1 := S.step s1 G1
      have S2 := S1.same (same_lay (o := .rng 0 j) hP)
      have := hk (γ.to ι1).ι (γ.to ι1).bar _ P2 (rngD 0 j.toNat) _ S2.bart (fun a h => .inl h) hP2 (rel_rng 0 j.toNat)
      have e0 : (j - 0).toNat = j.toNat := by simp
      rw [e0]
      exact q _ ι1 _ ((s1.trans (.same (same_lay hP))).trans (.same (same_lay hP2))) (S2.same (same_lay hP2)).cells this
    · exact fun q => q.elim
  · rename_i x g' e
    rw [e]
    exact fun q => q
  · exact fun q => q.elim
theorem ee_tupR (ok : Ok T X) (hc : X.calm = true) (ha : EAs T W X [a] m) (hg : Gl X "tuple") (hm : X.mg "tuple" = none) (hg2 : Gl X "range") (hm2 : X.mg "range" = none) (hs : starEach [a] X.env = (false, eval a X.env) :: starEach [] X.env := by rfl)
    (hs2 : starEach [.Call (.Name "range" rp) [a] [] rpos] X.env = (false, eval (.Call (.Name "range" rp) [a] [] rpos) X.env) :: starEach [] X.env := by rfl) : EE T W X (.Call (.Name "tuple" p) [.Call (.Name "range" rp) [a] [] rpos] [] pos) (mRk D.tup m) :=
  PE.imp (pe_callTy (cr_tupR hc) hg hm (by decide +kernel) (pa_cons (pe_callTy cr_range1 hg2 hm2 (by decide +kernel) ha (by decide) (by decide) hs rfl) pa_nil hs2) (by decide) (by decide) hs2 rfl) fun σ H Q h => rng1_imp (k := D.tup) HO.tup (fun ι bar H P ds vs _ hi hP r => RelD.newTup hi hP r) h
theorem ee_lstR (ok : Ok T X) (hc : X.calm = true) (ha : EAs T W X [a] m) (hg : Gl X "list") (hm : X.mg "list" = none) (hg2 : Gl X "range") (hm2 : X.mg "range" = none) (hs : starEach [a] X.env = (false, eval a X.env) :: starEach [] X.env := by rfl)
    (hs2 : starEach [.Call (.Name "range" rp) [a] [] rpos] X.env = (false, eval (.Call (.Name "range" rp) [a] [] rpos) X.env) :: starEach [] X.env := by rfl) : EE T W X (.Call (.Name "list" p) [.Call (.Name "range" rp) [a] [] rpos] [] pos) (mRk D.lst m) :=
  PE.imp (pe_callTy (cr_lstR hc) hg hm (by decide +kernel) (pa_cons (pe_callTy cr_range1 hg2 hm2 (by decide +kernel) ha (by decide) (by decide) hs rfl) pa_nil hs2) (by decide) (by decide) hs2 rfl) fun σ H Q h => rng1_imp (k := D.lst) HO.lst (fun ι bar H P ds vs hb hi hP r => RelD.newLst hb hi hP r) h
end
end Z

namespace Z
open PySem PySem.Spec PyProof.Rows L2
set_option autoImplicit false

/-! ### a, b, *c = a tuple -/
section
variable {prog : Program} {w : World} {A : Around} {E : Value → Shared → Prop} {s : Shared}
theorem star_tup {l : Addr} {items : Array Value} {n i : Nat} {Q : List Value → Shared → Prop} (hl : IsTup s.heap l items) (hh : A.handled = none) (hi : i < n) (hn : n ≤ items.size + 1) (hz : items.size ≤ 16384)
    (hQ : ∀ (h' : Heap) (tk : Nat), (∀ b o, s.heap.get? b = some o → h'.get? b = some o) → Q (items.toList.take i ++ [.ref h'.objs.size] ++ (items.toList.drop i).drop (items.size + 1 - n)) { s with heap := h'.push { cls := .type "list", data := .seq ((items.toList.drop i).take (items.size + 1 - n)).toArray }, toks := tk }) :
    wpAny (model prog w) A (unpackItems (.ref l) n (some i)) Q E s := by
  have ne : l ≠ s.heap.objs.size := by
    obtain ⟨o, ho, _⟩ := hl
    exact Nat.ne_of_lt (Heap.lt_size ho)
  unfold unpackItems
  refine wpAny_bind ?_
  unfold notIterableAtAll
  refine wpAny_bind (wpAny_specialOf hl.typeIs slot_tuple_iter.lookup (wpAny_pure ?_))
  simp only [Bool.false_eq_true, if_false]
  refine wpAny_bind (wpAny_holding (iter_tuple hl ?_))
  refine wpAny_bind (wpAny_holding (draw_tuple ne i 0 _ _ ⟨_, Heap.get?_push_size _ rfl, rfl, rfl⟩ (hl.push _) (by omega) fun h1 it1 same1 => ?_))
  have tl : IsTup h1 l items := (hl.push _).extBut same1.extBut ne
  rw [Nat.zero_add] at it1
  have it1' := it1
  have tl' := tl
  obtain ⟨oi, ei, _⟩ := it1'
  obtain ⟨ol, el, _⟩ := tl'
  rw [List.drop_zero]
  have len1 : (items.toList.take i).length = i := by rw [List.length_take, Array.length_toList]; omega
  have not1 : ¬ (items.toList.take i).length < i := by omega
  rw [if_neg not1]
  refine wpAny_bind (wpAny_holding (PySem.W.kun_collect (s := { s with heap := h1 }) (T := "tuple_iterator") (.inr (.inr (.inr rfl))) (PySem.Walks.tuple (A := A.in1) hh s.heap.objs.size l ne items) (fun j u st => st.1.typeIs) (k := i) (by omega) ⟨it1, tl⟩ (Heap.lt_size ei) (Heap.lt_size el) (fun h2 tk keep2 => ?_) (by rw [sizeLine_eq]; omega)))
  have len2 : (items.toList.drop i).length = items.size - i := by rw [List.length_drop, Array.length_toList]
  have mid : (items.toList.drop i).length - (n - 1 - i) = items.size + 1 - n := by rw [len2]; omega
  have not2 : ¬ (items.toList.drop i).length < n - 1 - i := by rw [len2]; omega
  show wpAny _ _ (if (items.toList.drop i).length < n - 1 - i then _ else _) _ _ _
  rw [if_neg not2]
  show wpAny _ _ (newList ((items.toList.drop i).take ((items.toList.drop i).length - (n - 1 - i))) >>= fun d => pure (items.toList.take i ++ [d] ++ (items.toList.drop i).drop ((items.toList.drop i).length - (n - 1 - i)))) _ _ _
  rw [mid]
  have old : ∀ b o, s.heap.get? b = some o → h2.get? b = some o := fun b o e => by
    have nb : b ≠ s.heap.objs.size := Nat.ne_of_lt (Heap.lt_size e)
    exact keep2 b o nb (same1.extBut b o nb (Heap.get?_push_of_some _ e))
  exact wpAny_bind (wpAny_newList (wpAny_pure (hQ h2 tk old)) (by rw [List.length_take, len2, sizeLine_eq]; omega))
end
/-- n targets, the i-th of them starred -/
def gSt (n i : Nat) (u : Tgs) : Tg := fun d ρ => match d with
  | .tup ds => if i < n ∧ n ≤ ds.length + 1 ∧ ds.length ≤ 16384 then u (ds.take i ++ [.lst ((ds.drop i).take (ds.length + 1 - n))] ++ (ds.drop i).drop (ds.length + 1 - n)) ρ else none
  | _ => none
theorem fresh_of {X : Cx} {pins : List (Addr × Obj)} {σ : L2.St} {H : Hp} {s : Shared} {h' : Heap} {tk : Nat} (I : Inv X pins σ H s) (hk : ∀ b o, s.heap.get? b = some o → h'.get? b = some o) : H h'.objs.size = none := by
  cases c : H h'.objs.size with
  | none => rfl
  | some o => exact absurd ((I.kept (t' := tk) hk).hok _ o c).lt (Nat.lt_irrefl _)
section
variable {T : Wd} {X : Cx} {es : List Expr} {pos : Pos} {u : Tgs} {sl : List Nat}
theorem gt_star {k n i : Nat} (hc : X.calm = true) (hK : X.K = T.K) (h : GTs T X es sl u) (hn : (assignEach es X.env).length = n := by rfl) (hst : (assignEach es X.env).findIdx? (·.1) = some i := by rfl) : GT T X (.Tuple es k pos) sl (gSt n i u) := by
  refine ⟨fun pins s σ H v w Q I rv q => ?_⟩
  obtain ⟨γ, ρ, g, d, ρ', R, r, e, q⟩ := q
  unfold gSt at e
  split at e
  · rename_i ds
    split at e
    · rename_i hb
      simp only [RelD] at r
      obtain ⟨a, vs, rfl, sq, rs⟩ := r
      cases rv
      obtain ⟨its, rvs, ht, _⟩ := I.tuple (hK ▸ sq)
      have l1 := rvs.length
      have l2 := rs.length
      have ls : its.toArray.size = ds.length := by rw [List.size_toArray, ← l1, l2]
      rw [PyProof.Rows.assign_Tuple]
      refine wpAny_bind (wpAny_standAt ?_)
      unfold unpack
      rw [hn, hst]
      refine wpAny_bind (wpAny_holding (star_tup ht (I.ok.hd hc) hb.1 (by rw [ls]; exact hb.2.1) (by rw [ls]; exact hb.2.2) fun h' tk hk => ?_))
      have nf : H h'.objs.size = none := fresh_of (tk := tk) I hk
      have I1 : Inv X pins σ H { s with heap := h', toks := tk } := I.kept hk
      have mids : Vals ((vs.drop i).take (ds.length + 1 - n)) ((its.drop i).take (ds.length + 1 - n)) := (rvs.drop i).take _
      have I2 : Inv X pins σ (upd H h'.objs.size (.lst ((vs.drop i).take (ds.length + 1 - n)))) { s with heap := h'.push { cls := .type "list", data := .seq ((its.drop i).take (ds.length + 1 - n)).toArray }, toks := tk } := by
        refine I1.laid (t' := tk) (fun b o e => Heap.get?_push_of_some _ e) (Nat.le_refl _) ⟨?_, _, 0, mids, Heap.get?_push_size _ rfl⟩
        rw [List.length_take, List.length_drop, l2, sizeLine_eq]
        omega
      have sm : Same H (upd H h'.objs.size (.lst ((vs.drop i).take (ds.length + 1 - n)))) := same_lay nf
      have gr : Grows H γ.bar γ.bar := fun a h => .inl h
      have rs2 := rs.keep (.same sm) γ.bi gr
      have big : RelDs T γ.ι γ.bar (upd H h'.objs.size (.lst ((vs.drop i).take (ds.length + 1 - n)))) (ds.take i ++ [.lst ((ds.drop i).take (ds.length + 1 - n))] ++ (ds.drop i).drop (ds.length + 1 - n)) (vs.take i ++ [.ref h'.objs.size] ++ (vs.drop i).drop (ds.length + 1 - n)) :=
        ((rs2.take i).append (.cons (RelD.newLst R.bart γ.bi nf ((rs.drop i).take _)) .nil)).append ((rs2.drop i).drop _)
      have vals : Vals (vs.take i ++ [V.ref h'.objs.size] ++ (vs.drop i).drop (ds.length + 1 - n)) (its.take i ++ [Value.ref h'.objs.size] ++ (its.drop i).drop (ds.length + 1 - n)) :=
        ((rvs.take i).append (.cons (show L2.RelV (.ref _) (.ref _) from rfl) .nil)).append ((rvs.drop i).drop _)
      rw [ls]
      simp only [List.size_toArray] at *
      refine h.run pins _ σ _ _ _ Q I2 (by simpa using vals) ⟨γ, ρ, g, _, ρ', R.same sm, big, e, fun γ' σ' H' sm' R' l' o' => q γ' σ' H' (fun b o h => sm' b o (sm b o h)) R' l' o'⟩
    · cases e
  · cases e
/-- the targets, a starred one among them -/
theorem gts_star {e : Expr} {p : Pos} {t : Tg} {sl' : List Nat} (h1 : GT T X e sl t) (h2 : GTs T X es sl' u) (hs : (assignEach (.Starred e p :: es) X.env).map (·.2) = assign e X.env :: (assignEach es X.env).map (·.2) := by rfl) : GTs T X (.Starred e p :: es) (sl ++ sl') (gCn t u) := by
  refine ⟨fun pins s σ H vs us Q I r h => ?_⟩
  obtain ⟨γ, ρ, g, d, ρ', R, rr, e1, q⟩ := h
  cases d with
  | nil => cases e1
  | cons d ds =>
    obtain ⟨x, xs, rfl, r1, r2⟩ := rr.uncons
    simp only [gCn] at e1
    split at e1
    · rename_i ρ1 e2
      cases r with
      | cons rv rvs =>
        rw [hs]
        refine assignInOrder_cons (thn (h1.run pins s σ H x _ (fun σ1 H1 => ∃ γ1, StR T γ1 H1 ρ1 σ1 g ∧ Less γ1 γ ∧ Only sl γ γ1 σ σ1 ∧ Same H H1) I rv ⟨γ, ρ, g, d, ρ1, R, r1, e2, fun γ1 σ1 H1 m1 R1 l1 k1 => ⟨γ1, R1, l1, k1, m1⟩⟩) fun _ s1 ⟨σ1, H1, I1, γ1, R1, l1, k1, m1⟩ => ?_)
        refine h2.run pins s1 σ1 H1 _ _ Q I1 rvs ⟨γ1, ρ1, g, ds, ρ', R1, l1.rels (r2.keep (.same m1) γ.bi fun a h => .inl h), e1, fun γ2 σ2 H2 m2 R2 l2 k2 => ?_⟩
        refine q _ _ H2 (fun a o h => m2 a o (m1 a o h)) R2 (l2.trans l1) ⟨k2.len.trans k1.len, fun j hj => ?_, fun j a hj h => ?_⟩
        · rw [k2.at_ j fun z => hj (List.mem_append_right _ z), k1.at_ j fun z => hj (List.mem_append_left _ z)]
        · exact k2.oa j a (fun z => hj (List.mem_append_right _ z)) (k1.oa j a (fun z => hj (List.mem_append_left _ z)) h)
    · cases e1
end
end Z

namespace Z
open PySem PySem.Spec PyProof.Rows L2
set_option autoImplicit false

/-! ### what a set's search asks of its members -/
section
variable (P : Program) (w : World)
def NoCls (n : Nat) (s : Shared) (v : Value) : Prop := ∀ (A : Around) (E : Value → Shared → Prop) (Q : Bool → Shared → Prop), Q false s → wpAny (model P w) A (ofAClassStatement n v) Q E s
def HashV (n : Nat) (s : Shared) (v : Value) : Prop := ∀ (A : Around) (E : Value → Shared → Prop) (Q : Bool → Shared → Prop), (∀ b, Q b s) → wpAny (model P w) A (hashByValue n v) Q E s
end
section
variable {P : Program} {w : World}
theorem NoCls.of {n : Nat} {s : Shared} {v : Value} (h : ofAClassStatement n v = pure false) : NoCls P w n s v := fun A E Q q => by rw [h]; exact wpAny_pure q
theorem HashV.of {n : Nat} {s : Shared} {v : Value} {b : Bool} (h : hashByValue n v = pure b) : HashV P w n s v := fun A E Q q => by rw [h]; exact wpAny_pure (q b)
theorem NoCls.tup {n : Nat} {s : Shared} {a : Addr} {o : Obj} {vs : Array Value} {m : Nat} (ho : s.heap.get? a = some o) (hc : o.cls = .type "tuple") (hd : o.data = .seq vs m) (hv : ∀ v ∈ vs.toList, NoCls P w n s v) : NoCls P w (n + 1) s (.ref a) := fun A E Q q => by
  have ty : s.TypeIs (.ref a) "tuple" := ⟨o, ho, hc⟩
  unfold ofAClassStatement
  refine wpAny_bind (wpAny_typeOf ty ?_)
  dsimp only
  simp only [show (("tuple" : String) == "tuple") = true from by decide, if_true]
  first
    | refine wpAny_bind (wpAny_pure ?_)
    | skip
  simp only [Bool.not_true, Bool.false_eq_true, if_false]
  show wpAny _ _ (seqItems? (.ref a) >>= _) _ _ s
  refine wpAny_bind (wpAny_seqItems ho hd ?_)
  dsimp only
  refine wpAny_bind ?_
  show wpAny _ _ (forIn vs _ _) _ _ s
  rw [← Array.forIn_toList]
  refine wpAny_forIn_list _ (fun more r s2 => (∀ v ∈ more, NoCls P w n s v) ∧ r.1 = none ∧ s2 = s) _ ?_ ?_ _ _ ⟨hv, rfl, rfl⟩
  · rintro v more r s2 ⟨all, _, rfl⟩
    refine wpAny_bind (all v List.mem_cons_self A E _ ?_)
    simp only [Bool.false_eq_true, if_false]
    exact wpAny_pure ⟨fun u hu => all u (List.mem_cons_of_mem _ hu), rfl, rfl⟩
  · rintro ⟨r1, r2⟩ s2 ⟨_, e, rfl⟩
    dsimp only at e
    subst e
    exact wpAny_pure q
theorem HashV.tup {n : Nat} {s : Shared} {a : Addr} {o : Obj} {vs : Array Value} {m : Nat} (ho : s.heap.get? a = some o) (hc : o.cls = .type "tuple") (hd : o.data = .seq vs m) (hv : ∀ v ∈ vs.toList, HashV P w n s v) : HashV P w (n + 1) s (.ref a) := fun A E Q q => by
  have ty : s.TypeIs (.ref a) "tuple" := ⟨o, ho, hc⟩
  unfold hashByValue
  refine wpAny_bind (wpAny_specialOf ty F.slot_tuple_hash.lookup ?_)
  show wpAny _ _ (seqItems? (.ref a) >>= _) _ _ s
  refine wpAny_bind (wpAny_seqItems ho hd ?_)
  refine wpAny_bind ?_
  show wpAny _ _ (forIn vs _ _) _ _ s
  rw [← Array.forIn_toList]
  refine wpAny_forIn_list _ (fun more r s2 => (∀ v ∈ more, HashV P w n s v) ∧ r.1 = none ∧ s2 = s) _ ?_ ?_ _ _ ⟨hv, rfl, rfl⟩
  · rintro v more r s2 ⟨all, _, rfl⟩
    refine wpAny_bind (all v List.mem_cons_self A E _ fun b => ?_)
    cases b with
    | true =>
      simp only [Bool.not_true, Bool.false_eq_true, if_false]
      exact wpAny_pure ⟨fun u hu => all u (List.mem_cons_of_mem _ hu), rfl, rfl⟩
    | false =>
      simp only [Bool.not_false, if_true]
      exact wpAny_pure (wpAny_pure (q false))
  · rintro ⟨r1, r2⟩ s2 ⟨_, e, rfl⟩
    dsimp only at e
    subst e
    exact wpAny_pure (q true)
mutual
theorem noCls_key : ∀ (k : NestedKey) (v : Value) (n : Nat) (s : Shared), NestedIs s.heap k v → k.depth ≤ n → NoCls P w n s v
  | .none, _, n, s, x, _ => by cases x; exact .of (by cases n <;> rfl)
  | .num i, _, n, s, x, _ => by cases x <;> exact .of (by cases n <;> rfl)
  | .text y, _, n, s, x, _ => by cases x; exact .of (by cases n <;> rfl)
  | .tup ks, _, n, s, x, hn => by
    cases x with
    | tup hg hc hd hk =>
      simp only [NestedKey.depth] at hn
      cases n with
      | zero => omega
      | succ n => exact .tup hg hc hd (noCls_keys ks _ n s hk (by omega))
theorem noCls_keys : ∀ (ks : List NestedKey) (vs : List Value) (n : Nat) (s : Shared), NestedAll s.heap ks vs → NestedKey.depthAll ks ≤ n → ∀ v ∈ vs, NoCls P w n s v
  | [], _, n, s, x, _, v, hv => by cases x; cases hv
  | k :: ks, _, n, s, x, hn, v, hv => by
    cases x with
    | cons x1 x2 =>
      simp only [NestedKey.depthAll] at hn
      rcases List.mem_cons.mp hv with e | hv
      · rw [e]; exact noCls_key k _ n s x1 (by omega)
      · exact noCls_keys ks _ n s x2 (by omega) v hv
end
mutual
theorem hashV_key : ∀ (k : NestedKey) (v : Value) (n : Nat) (s : Shared), NestedIs s.heap k v → k.depth ≤ n → HashV P w n s v
  | .none, _, n, s, x, _ => by cases x; exact .of (b := true) (by cases n <;> rfl)
  | .num i, _, n, s, x, _ => by cases x <;> exact .of (b := true) (by cases n <;> rfl)
  | .text y, _, n, s, x, _ => by cases x; exact .of (b := false) (by cases n <;> rfl)
  | .tup ks, _, n, s, x, hn => by
    cases x with
    | tup hg hc hd hk =>
      simp only [NestedKey.depth] at hn
      cases n with
      | zero => omega
      | succ n => exact .tup hg hc hd (hashV_keys ks _ n s hk (by omega))
theorem hashV_keys : ∀ (ks : List NestedKey) (vs : List Value) (n : Nat) (s : Shared), NestedAll s.heap ks vs → NestedKey.depthAll ks ≤ n → ∀ v ∈ vs, HashV P w n s v
  | [], _, n, s, x, _, v, hv => by cases x; cases hv
  | k :: ks, _, n, s, x, hn, v, hv => by
    cases x with
    | cons x1 x2 =>
      simp only [NestedKey.depthAll] at hn
      rcases List.mem_cons.mp hv with e | hv
      · rw [e]; exact hashV_key k _ n s x1 (by omega)
      · exact hashV_keys ks _ n s x2 (by omega) v hv
end
end
/-- the tuple at b is the key k -/
def KeyAt (h : Heap) (k : NestedKey) (b : Addr) : Prop := NestedIs h k (.ref b) ∧ k.depth ≤ 8
section
variable {P : Program} {w : World} {A : Around} {E : Value → Shared → Prop} {s : Shared}
theorem quiet_seen {x : Addr} {k : NestedKey} (hx : KeyAt s.heap k x) {ys : List Value} (hy : ∀ y ∈ ys, ∃ k' c, y = Value.ref c ∧ KeyAt s.heap k' c) {Q : Bool → Shared → Prop} (q : Q false s) : wpAny (model P w) A (searchCouldBeSeen (.ref x) ys) Q E s := by
  unfold searchCouldBeSeen
  refine wpAny_bind ?_
  refine wpAny_forIn_list _ (fun more r s2 => (∀ y ∈ more, ∃ k' c, y = Value.ref c ∧ KeyAt s.heap k' c) ∧ r.1 = none ∧ s2 = s) _ ?_ ?_ _ _ ⟨hy, rfl, rfl⟩
  · rintro v more r s2 ⟨all, _, rfl⟩
    have left : ∀ y ∈ more, ∃ k' c, y = Value.ref c ∧ KeyAt s2.heap k' c := fun u hu => all u (List.mem_cons_of_mem _ hu)
    obtain ⟨k', c, rfl, hc⟩ := all v List.mem_cons_self
    dsimp only
    by_cases same : (x == c || (carriedByValue (.ref x) && carriedByValue (.ref c))) = true
    · exact wp_if_pos same (wpAny_pure ⟨left, rfl, rfl⟩)
    · refine wp_if_neg same (wpAny_bind (quiet_key k _ 8 s2 hx.1 hx.2 A E _ ?_))
      simp only [Bool.not_true, Bool.false_eq_true, if_false]
      refine wpAny_bind (quiet_key k' _ 8 s2 hc.1 hc.2 A E _ ?_)
      simp only [Bool.not_true, Bool.false_eq_true, if_false]
      refine wpAny_bind (noCls_key k _ 8 s2 hx.1 hx.2 A E _ ?_)
      simp only [Bool.false_eq_true, if_false]
      refine wpAny_bind (noCls_key k' _ 8 s2 hc.1 hc.2 A E _ ?_)
      simp only [Bool.false_eq_true, if_false]
      exact wpAny_pure ⟨left, rfl, rfl⟩
  · rintro ⟨r1, r2⟩ s2 ⟨_, e, rfl⟩
    dsimp only at e
    subst e
    exact wpAny_pure q
/-! ### the table -/
abbrev KeysN (h : Heap) (L : List (Addr × NestedKey)) : Prop := ∀ p ∈ L, KeyAt h p.2 p.1
variable {a : Addr} {L : List (Addr × NestedKey)} {es : Array (Int × Value)} {ep : Nat} {t : SetTable}
theorem TabN.size (R : TabN w s.heap a L es ep t) : es.size = L.length := by
  have e := congrArg List.length R.rows
  simpa [rowsN] using e
theorem TabN.fits (R : TabN w s.heap a L es ep t) : t.fits es.size = true := by
  have e1 : t.place.size = L.length := by simpa [hsN] using R.tab.sz
  have e2 := R.size
  have e3 := R.room
  unfold SetTable.fits SetTable.fill
  rw [R.tab.dm, Bool.and_eq_true, beq_iff_eq, decide_eq_true_eq]
  constructor
  · show t.place.size = es.size; omega
  · show t.place.size + 0 ≤ t.mask; omega
theorem TabN.entry (R : TabN w s.heap a L es ep t) {i : Nat} {p : Addr × NestedKey} (e : L[i]? = some p) : es[i]? = some (p.2.hash w, Value.ref p.1) := by
  rw [← Array.getElem?_toList, R.rows, List.getElem?_map, e]; rfl
theorem TabN.ok (R : TabN w s.heap a L es ep t) : ¬ t.gaveWay = true := by
  unfold SetTable.gaveWay
  rw [mask_odd R.tab.mok]; decide
abbrev st0 (t : SetTable) (h : Int) : SetTable.Probe := runAt t.mask (SetTable.bits h % (t.mask + 1)) (SetTable.bits h)
theorem nth_plain (m : Nat) : ∀ (n : Nat) (p : SetTable.Probe), p.dummy = none → (nth m p n).dummy = none
  | 0, _, e => e
  | n + 1, p, e => nth_plain m n (adv m p) (by unfold adv; split <;> exact e)
/-- the search, from the c-th place of its way; K: the first free one -/
theorem seek (R : TabN w s.heap a L es ep t) (kL : KeysN s.heap L) {x : Addr} {k : NestedKey} (hx : KeyAt s.heap k x) (hu : A.units + 8 < cLine) (adding : Bool) {K : Nat} (hKf : K < 10 * SetTable.turns t.mask)
    (hK : way t.mask (k.hash w) K ∉ t.place.toList) (hKb : ∀ c, c < K → way t.mask (k.hash w) c ∈ t.place.toList) {Q : SetFound → Shared → Prop}
    (hin : k ∈ L.map (·.2) → ∀ r : Option Nat, (adding = false → r.isSome = true) → Q (.there r) s) (hout : k ∉ L.map (·.2) → Q (.free (way t.mask (k.hash w) K) false) s) :
    ∀ (f c : Nat) (stand : Option SetTable.Probe), stand.getD (t.probeStart (k.hash w)) = nth t.mask (st0 t (k.hash w)) c → c ≤ K → K - c < f →
      (∀ (i : Nat) p, L[i]? = some p → p.2 = k → ∃ c', c ≤ c' ∧ c' < K ∧ t.place.toList[i]? = some (way t.mask (k.hash w) c')) →
      wpAny (model P w) A (setSearchFrom a (.ref x) (k.hash w) adding f stand) Q E s
  | 0, c, stand, _, _, hf, _ => absurd hf (Nat.not_lt_zero _)
  | f + 1, c, stand, hst, hc, hf, hre => by
    obtain ⟨o, ho, hex, hd⟩ := R.ob
    have unf : setSearchFrom a (.ref x) (k.hash w) adding (f + 1) stand = (do
      let (es, _, t) ← setState a
      if t.gaveWay then unsupported "set:on-a-table-that-gave-way"
      let some met := t.probe (fun i => (es[i]?.map (·.1)).getD 0) (k.hash w) (stand.getD (t.probeStart (k.hash w))) | unsupported "internal:set-table-without-an-empty-slot"
      match met with
      | .empty j dummy =>
        match dummy with
        | none => return .free j false
        | some d =>
          if adding && t.slot d != .dummy then rule "set.search.the-dummy-was-taken"; return ← setSearchFrom a (.ref x) (k.hash w) adding f none
          return .free d true
      | .candidate j i next =>
        if !t.led then
          if ← searchCouldBeSeen (.ref x) ((es.filter (·.1 == k.hash w)).toList.map (·.2)) then unsupported "set:the-search-would-show-the-table"
        searchRest a (.ref x) (k.hash w) adding f es t j i next) := by rfl
    rw [unf]
    refine wpAny_bind (wpAny_setState_of ho hd R.fits ?_)
    dsimp only
    refine wp_if_neg R.ok ?_
    try refine wpAny_bind (wpAny_pure ?_)
    have plain0 := nth_plain t.mask c (st0 t (k.hash w)) rfl
    have at_ : ∀ q, nth t.mask (nth t.mask (st0 t (k.hash w)) c) q = nth t.mask (st0 t (k.hash w)) (c + q) := fun q => (nth_add t.mask c _ q).symm
    have atj : ∀ q, (nth t.mask (nth t.mask (st0 t (k.hash w)) c) q).j = way t.mask (k.hash w) (c + q) := fun q => congrArg SetTable.Probe.j (at_ q)
    have eK : c + (K - c) = K := by omega
    have told := go_spec t R.tab.ris R.tab.dm (fun i => (es[i]?.map (·.1)).getD 0) (k.hash w) (10 * SetTable.turns t.mask) (K - c) _ plain0 (by omega) (fun q hq => by rw [atj]; exact hKb (c + q) (by omega)) (by rw [atj, eK]; exact hK)
    have hsh : ∀ (i : Nat) p, L[i]? = some p → (fun i => (es[i]?.map (·.1)).getD 0) i = p.2.hash w := fun i p e => by
      show (es[i]?.map (·.1)).getD 0 = _
      rw [R.entry e]; rfl
    rcases told with ⟨q, i, hq, hi, hh, hno, hpr⟩ | ⟨hno, hpr⟩
    · have met : t.probe (fun i => (es[i]?.map (·.1)).getD 0) (k.hash w) (stand.getD (t.probeStart (k.hash w))) = some (.candidate (way t.mask (k.hash w) (c + q)) i (nth t.mask (st0 t (k.hash w)) (c + (q + 1)))) := by
        rw [hst, ← atj, ← at_]; exact hpr
      rw [met]
      dsimp only
      rw [atj] at hi
      have il : i < L.length := by
        have e1 : i < t.place.toList.length := (List.getElem?_eq_some_iff.mp hi).1
        have e2 : t.place.size = L.length := by simpa [hsN] using R.tab.sz
        rw [Array.length_toList] at e1
        omega
      obtain ⟨p, hp⟩ : ∃ p, L[i]? = some p := ⟨_, List.getElem?_eq_getElem il⟩
      have pin : p ∈ L := List.mem_of_getElem? hp
      have pk := kL p pin
      have rest : wpAny (model P w) A (searchRest a (.ref x) (k.hash w) adding f es t (way t.mask (k.hash w) (c + q)) i (nth t.mask (st0 t (k.hash w)) (c + (q + 1)))) Q E s := by
        unfold searchRest
        rw [R.entry hp]
        dsimp only
        refine wpAny_bind (wpAny_holding (eqAt_key p.2 k A s _ _ pk.1 hx.1 (by have := pk.2; omega) P w E _ ?_))
        refine wpAny_bind (wpAny_setState_of ho hd R.fits ?_)
        dsimp only
        have slot : t.slot (way t.mask (k.hash w) (c + q)) = .live i := slot_live R.tab.ris hi
        have eb : NestedKey.beq p.2 k = decide (p.2 = k) := (NestedKey.decide_eq _ _).symm
        rw [eb]
        by_cases hk : p.2 = k
        · have inL : k ∈ L.map (·.2) := List.mem_map.mpr ⟨p, pin, hk⟩
          cases adding with
          | true =>
            refine wp_if_pos (by simp [hk]) ?_
            exact wpAny_pure (hin inL none (fun z => by cases z))
          | false =>
            refine wp_if_neg (by simp) ?_
            try refine wpAny_bind (wpAny_pure ?_)
            rw [sameMem]
            dsimp only
            simp only [if_true, slot, R.entry hp]
            refine wpAny_bind (wpAny_isSame_ref_self (wpAny_bind (wpAny_pure ?_)))
            simp only [if_true]
            refine wp_if_pos (by simp [hk]) ?_
            exact wpAny_pure (hin inL (some i) (fun _ => rfl))
        · refine wp_if_neg (by simp [hk]) ?_
          try refine wpAny_bind (wpAny_pure ?_)
          rw [sameMem]
          dsimp only
          simp only [if_true, slot, R.entry hp]
          refine wpAny_bind (wpAny_isSame_ref_self (wpAny_bind (wpAny_pure ?_)))
          simp only [if_true]
          refine wp_if_neg (by simp [hk]) ?_
          refine seek R kL hx hu adding hKf hK hKb hin hout f (c + (q + 1)) _ rfl (by omega) (by omega) fun i0 p0 h0 hk0 => ?_
          obtain ⟨c', a1, a2, a3⟩ := hre i0 p0 h0 hk0
          refine ⟨c', ?_, a2, a3⟩
          by_cases lt : c' < c + q
          · exfalso
            refine hno (c' - c) i0 (by omega) (by rw [atj, show c + (c' - c) = c' by omega]; exact a3) ?_
            exact (hsh i0 p0 h0).trans (by rw [hk0])
          · by_cases eq : c' = c + q
            · exfalso
              subst eq
              have := slot_live R.tab.ris a3
              rw [slot] at this
              injection this with this
              subst this
              rw [hp] at h0
              cases h0
              exact hk hk0
            · omega
      by_cases led : t.led = true
      · refine wp_if_neg (by simp [led]) ?_
        try refine wpAny_bind (wpAny_pure ?_)
        exact rest
      · refine wp_if_pos (by simp [led]) (wpAny_bind (quiet_seen hx (fun y hy => ?_) ?_))
        · obtain ⟨e, he, ee⟩ := List.mem_map.mp hy
          have h1 : e ∈ es ∧ e.1 = k.hash w := by simpa using he
          have h2 : e ∈ es.toList := by simpa using h1.1
          rw [R.rows] at h2
          obtain ⟨p2, hp2, e2⟩ := List.mem_map.mp h2
          exact ⟨p2.2, p2.1, by rw [← ee, ← e2], kL p2 hp2⟩
        · refine wp_if_neg (by decide) ?_
          try refine wpAny_bind (wpAny_pure ?_)
          exact rest
    · have met : t.probe (fun i => (es[i]?.map (·.1)).getD 0) (k.hash w) (stand.getD (t.probeStart (k.hash w))) = some (.empty (way t.mask (k.hash w) K) none) := by
        have e2 : way t.mask (k.hash w) K = (nth t.mask (nth t.mask (st0 t (k.hash w)) c) (K - c)).j := by rw [atj, eK]
        rw [hst, e2]; exact hpr
      rw [met]
      dsimp only
      refine wpAny_pure (hout fun hm => ?_)
      obtain ⟨p0, h0, hk0⟩ := List.mem_map.mp hm
      obtain ⟨i0, hi0, e0⟩ := List.getElem_of_mem h0
      have h00 : L[i0]? = some p0 := by rw [List.getElem?_eq_getElem hi0, e0]
      obtain ⟨c', a1, a2, a3⟩ := hre i0 p0 h00 hk0
      refine hno (c' - c) i0 (by omega) (by rw [atj, show c + (c' - c) = c' by omega]; exact a3) ?_
      exact (hsh i0 p0 h00).trans (by rw [hk0])
/-- the whole search -/
theorem seek_all (R : TabN w s.heap a L es ep t) (kL : KeysN s.heap L) {x : Addr} {k : NestedKey} (hx : KeyAt s.heap k x) (hu : A.units + 8 < cLine) (adding : Bool) {Q : SetFound → Shared → Prop}
    (hin : k ∈ L.map (·.2) → ∀ r : Option Nat, (adding = false → r.isSome = true) → Q (.there r) s)
    (hout : ∀ K, k ∉ L.map (·.2) → way t.mask (k.hash w) K ∉ t.place.toList → (∀ c, c < K → way t.mask (k.hash w) c ∈ t.place.toList) → Q (.free (way t.mask (k.hash w) K) false) s) :
    wpAny (model P w) A (setSearch a (.ref x) (k.hash w) adding) Q E s := by
  have rm := R.room
  have len : (hsN w L).length = L.length := by simp [hsN]
  obtain ⟨K, hKf, hK, hKb⟩ := R.tab.first (by rw [len]; omega) (k.hash w)
  have few : 10 * SetTable.turns t.mask ≤ 1420 := by
    unfold SetTable.turns
    rcases R.tab.mok with e | e | e <;> omega
  refine seek R kL hx hu adding hKf hK hKb hin (fun hn => hout K hn hK hKb) 100000 0 none rfl (Nat.zero_le _) (by omega) fun i p hp hk => ?_
  have hi : (hsN w L)[i]? = some (k.hash w) := by
    simp only [hsN, List.getElem?_map, hp, Option.map_some, hk]
  have il : i < t.place.toList.length := by
    have e1 : i < L.length := (List.getElem?_eq_some_iff.mp hp).1
    have e2 : t.place.size = L.length := by simpa [hsN] using R.tab.sz
    rw [Array.length_toList]; omega
  have hj := List.getElem?_eq_getElem il
  obtain ⟨c, hc, e⟩ := R.tab.before hK hi hj
  exact ⟨c, Nat.zero_le _, hc, by rw [hj, e]⟩
/-- x in the set -/
theorem find_in (R : TabN w s.heap a L es ep t) (kL : KeysN s.heap L) {x : Addr} {k : NestedKey} (hx : KeyAt s.heap k x) (hu : A.units + 8 < cLine) {Q : Option Nat → Shared → Prop} (q : ∀ r : Option Nat, r.isSome = decide (k ∈ L.map (·.2)) → Q r s) : wpAny (model P w) A (setFind a (.ref x) (k.hash w)) Q E s := by
  obtain ⟨o, ho, hex, hd⟩ := R.ob
  show wpAny _ _ (setFindIn a (.ref x) (k.hash w) (99999 + 1)) _ _ _
  unfold setFindIn
  refine wpAny_bind (wpAny_setState_of ho hd R.fits ?_)
  dsimp only
  refine wp_if_neg (by simp [byScan, Value.scannable]) ?_
  try refine wpAny_bind (wpAny_pure ?_)
  refine wpAny_bind (seek_all R kL hx hu false (fun hm r hr => ?_) fun K hm _ _ => ?_)
  · dsimp only
    exact wpAny_pure (q r (by rw [hr rfl, decide_eq_true hm]))
  · dsimp only
    exact wpAny_pure (q none (by rw [decide_eq_false hm]; rfl))
end
end Z

namespace Z
open PySem PySem.Spec PyProof.Rows L2
set_option autoImplicit false

section
variable {P : Program} {w : World} {A : Around} {E : Value → Shared → Prop} {s : Shared} {a : Addr} {L : List (Addr × NestedKey)} {es : Array (Int × Value)} {ep : Nat} {t : SetTable}
theorem rowsN_ins (L : List (Addr × NestedKey)) (p : Nat) (x : Addr × NestedKey) : rowsN w (L.take p ++ x :: L.drop p) = (rowsN w L).take p ++ (x.2.hash w, Value.ref x.1) :: (rowsN w L).drop p := by
  simp only [rowsN, List.map_append, List.map_cons, List.map_take, List.map_drop]
theorem hsN_ins (L : List (Addr × NestedKey)) (p : Nat) (x : Addr × NestedKey) : hsN w (L.take p ++ x :: L.drop p) = (hsN w L).take p ++ x.2.hash w :: (hsN w L).drop p := by
  simp only [hsN, List.map_append, List.map_cons, List.map_take, List.map_drop]
theorem ins_perm {α : Type} (L : List α) (p : Nat) (x : α) : (L.take p ++ x :: L.drop p).Perm (x :: L) := by
  have e : (L.take p ++ x :: L.drop p).Perm (x :: (L.take p ++ L.drop p)) := List.perm_middle
  rwa [List.take_append_drop] at e
/-- the rows in another order -/
theorem rows_order (L : List (Addr × NestedKey)) (es : Array (Int × Value)) (order : Array Nat) (hr : es.toList = rowsN w L) (hp : order.toList.Perm (List.range L.length)) :
    ∃ M, (order.filterMap (es[·]?)).toList = rowsN w M ∧ M.Perm L ∧ hsN w M = order.toList.map fun i => (es.map (·.1)).getD i 0 := by
  have sz : es.size = L.length := by
    have e := congrArg List.length hr
    simpa [rowsN] using e
  have at_ : ∀ i (h : i < L.length), es[i]? = some (L[i].2.hash w, Value.ref L[i].1) := fun i h => by
    rw [← Array.getElem?_toList, hr]
    simp only [rowsN, List.getElem?_map, List.getElem?_eq_getElem h, Option.map_some]
  have each : ∀ l : List Nat, (∀ i ∈ l, i < L.length) → l.filterMap (fun i => es[i]?) = rowsN w (l.filterMap fun i => L[i]?) ∧ hsN w (l.filterMap fun i => L[i]?) = l.map fun i => (es.map (·.1)).getD i 0 := by
    intro l
    induction l with
    | nil => intro _; exact ⟨rfl, rfl⟩
    | cons i l ih =>
      intro hl
      have hi := hl i List.mem_cons_self
      obtain ⟨e1, e2⟩ := ih fun j hj => hl j (List.mem_cons_of_mem _ hj)
      have g : (es.map (·.1)).getD i 0 = L[i].2.hash w := by
        have : (es.map (·.1))[i]? = some (L[i].2.hash w) := by rw [Array.getElem?_map, at_ i hi]; rfl
        simp [Array.getD_eq_getD_getElem?, this]
      rw [List.filterMap_cons_some (at_ i hi), List.filterMap_cons_some (List.getElem?_eq_getElem hi), e1]
      refine ⟨rfl, ?_⟩
      rw [List.map_cons, g, ← e2]; rfl
  obtain ⟨e1, e2⟩ := each order.toList fun i hi => List.mem_range.mp (hp.mem_iff.mp hi)
  refine ⟨order.toList.filterMap fun i => L[i]?, ?_, ?_, e2⟩
  · first
      | (rw [Array.toList_filterMap]; exact e1)
      | simpa using e1
  · have q := hp.filterMap fun i => L[i]?
    have all : (List.range L.length).filterMap (fun i => L[i]?) = L := by
      have upto : ∀ n, n ≤ L.length → (List.range n).filterMap (fun i => L[i]?) = L.take n := by
        intro n
        induction n with
        | zero => intro _; rfl
        | succ n ih =>
          intro hn
          have lt : n < L.length := hn
          rw [List.range_succ, List.filterMap_append, ih (Nat.le_of_lt lt), List.take_succ, List.getElem?_eq_getElem lt, List.filterMap_cons_some (List.getElem?_eq_getElem lt)]
          rfl
      rw [upto L.length (Nat.le_refl _), List.take_length]
    rwa [all] at q
/-- a larger table -/
theorem relayN {o : Obj} (ho : s.heap.get? a = some o) (hex : o.ExactSet) (hd : o.data = .set es ep t) (hr : es.toList = rowsN w L) (sz : t.place.size = es.size) (dm : t.dummies = #[]) (fl : es.size ≤ t.mask)
    (nd : (L.map (·.2)).Nodup) (few : L.length < 64) {wanted M : Nat}
    (hw : SetTable.sizeAbove wanted - 1 = M) (hM : MaskOk M) (hw2 : SetTable.sizeAbove wanted ≤ 128) (hn : L.length * 5 < M * 3) {Q : Unit → Shared → Prop}
    (hQ : ∀ h' L' es' ep' t', Heap.SameBut a s.heap h' → TabN w h' a L' es' ep' t' → L'.Perm L → Q () { s with heap := h' }) : wpAny (model P w) A (setRelay a wanted) Q E s := by
  have len : es.size = L.length := by
    have e := congrArg List.length hr
    simpa [rowsN] using e
  have fit : t.fits es.size = true := by
    unfold SetTable.fits SetTable.fill
    rw [dm, Bool.and_eq_true, beq_iff_eq, decide_eq_true_eq]
    constructor
    · show t.place.size = es.size; omega
    · show t.place.size + 0 ≤ t.mask; omega
  obtain ⟨t', order, e, hp, T, em, el, _, _⟩ := relaid_ok t (hs := es.map (·.1)) (wanted := wanted) hw hM (by rw [Array.size_map, len]; omega)
  rw [Array.size_map, len] at hp
  obtain ⟨L2, r1, r2, r3⟩ := rows_order L es order hr hp
  rw [← r3] at T
  have sz2 : (order.filterMap (es[·]?)).size = es.size := by
    have e2 := congrArg List.length r1
    simp only [Array.length_toList, rowsN, List.length_map, r2.length_eq] at e2
    rw [e2, len]
  rw [setRelay_eq]
  refine wpAny_bind (wpAny_setState_of ho hd fit ?_)
  dsimp only
  refine wp_if_neg (by rw [sizeLine_eq]; omega) ?_
  try refine wpAny_bind (wpAny_pure ?_)
  rw [e]
  dsimp only
  refine wpAny_bind (wp_if_neg (by rw [sz2]; simp) ?_)
  try refine wpAny_bind (wpAny_pure ?_)
  refine wpAny_pure ?_
  dsimp only
  refine wpAny_storeSet_of ho hd ?_ (by rw [sz2, len, sizeLine_eq]; omega)
  have sb : Heap.SameBut a s.heap (s.heap.update a (Obj.putSet (order.filterMap (es[·]?)) t')) := Heap.SameBut.update ..
  exact hQ _ L2 (order.filterMap (es[·]?)) (ep + 1) t' sb ⟨⟨_, store_at ho hd, ⟨hex.1, hex.2.1, hex.2.2⟩, rfl⟩, r1, T, (r2.map (·.2)).nodup_iff.mpr nd, by rw [r2.length_eq, em]; exact hn, by rw [r2.length_eq]; exact few⟩ r2
/-- one put in -/
theorem addN (R : TabN w s.heap a L es ep t) (kL : KeysN s.heap L) {x : Addr} {k : NestedKey} (hx : KeyAt s.heap k x) (hu : A.units + 8 < cLine) (hfew : L.length + 1 < 64) {Q : Bool → Shared → Prop}
    (hQ : ∀ b h' L' es' ep' t', Heap.SameBut a s.heap h' → TabN w h' a L' es' ep' t' → (k ∈ L.map (·.2) → L' = L) → (k ∉ L.map (·.2) → L'.Perm ((x, k) :: L)) → Q b { s with heap := h' }) :
    wpAny (model P w) A (setAddHashed a (.ref x) (k.hash w)) Q E s := by
  obtain ⟨o, ho, hex, hd⟩ := R.ob
  have len := R.size
  have rm := R.room
  unfold setAddHashed
  refine wpAny_holding ?_
  rw [show (100000 : Nat) = 99999 + 1 from rfl, setAddHashedIn_succ]
  refine wpAny_bind (wpAny_setState_of ho hd R.fits ?_)
  dsimp only
  refine wp_if_neg (by simp [byScan, Value.scannable]) ?_
  try refine wpAny_bind (wpAny_pure ?_)
  refine wpAny_bind (seek_all R kL hx hu true (fun hm r _ => ?_) fun K hm hK hb => ?_)
  · dsimp only
    exact wpAny_pure (hQ false s.heap L es ep t (Heap.SameBut.refl a s.heap) R (fun _ => rfl) fun z => absurd hm z)
  · dsimp only
    refine wpAny_bind (wpAny_setState_of ho hd R.fits ?_)
    dsimp only
    obtain ⟨q1, q2, q3, q4, q5, _, _, _, q9⟩ := R.tab.put hK hb
    generalize hpt : t.put (way t.mask (k.hash w) K) = pt at q1 q3 q4 q5 q9 ⊢
    obtain ⟨t1, p⟩ := pt
    dsimp only at q1 q3 q4 q5 q9 ⊢
    subst q1
    have step : ∀ t2 : SetTable, t2.place = t1.place → t2.mask = t1.mask → t2.dummies = t1.dummies → t2.led = t1.led →
        wpAny (model P w) A (do
          storeSet a (SetTable.insertAt es (SetTable.below t.place (way t.mask (k.hash w) K)) (k.hash w, Value.ref x)) t2
          if !false && t2.tooFull then setRelay a (SetTable.grown (es.size + 1))
          return true) Q E s := by
      intro t2 g1 g2 g3 g4
      have T2 : TabOk t2 ((hsN w L).take (SetTable.below t.place (way t.mask (k.hash w) K)) ++ k.hash w :: (hsN w L).drop (SetTable.below t.place (way t.mask (k.hash w) K))) := ⟨by rw [g1]; exact q3.ris, by rw [g3]; exact q3.dm, by rw [g1]; exact q3.sz, by rw [g2]; exact q3.mok, by rw [g1, g2]; exact q3.bd, by rw [g1, g2]; exact q3.reach⟩
      have fill2 : t2.fill = L.length + 1 := by
        have : t1.fill = L.length + 1 := by rw [q9]; simp [hsN]
        unfold SetTable.fill at this ⊢
        rw [g1, g3]; exact this
      rw [← hsN_ins L _ (x, k)] at T2
      have rows2 : (SetTable.insertAt es (SetTable.below t.place (way t.mask (k.hash w) K)) (k.hash w, Value.ref x)).toList = rowsN w (L.take (SetTable.below t.place (way t.mask (k.hash w) K)) ++ (x, k) :: L.drop (SetTable.below t.place (way t.mask (k.hash w) K))) := by
        rw [SetTable.toList_insertAt, rowsN_ins, R.rows]
      have pm := ins_perm L (SetTable.below t.place (way t.mask (k.hash w) K)) (x, k)
      generalize SetTable.insertAt es (SetTable.below t.place (way t.mask (k.hash w) K)) (k.hash w, Value.ref x) = es1 at rows2 ⊢
      generalize L.take (SetTable.below t.place (way t.mask (k.hash w) K)) ++ (x, k) :: L.drop (SetTable.below t.place (way t.mask (k.hash w) K)) = L1 at rows2 pm T2
      have len1 : L1.length = L.length + 1 := pm.length_eq
      have es1s : es1.size = L.length + 1 := by
        have e := congrArg List.length rows2
        simp only [Array.length_toList, rowsN, List.length_map] at e
        rw [e, len1]
      have nd1 : (L1.map (·.2)).Nodup := by
        refine (pm.map (·.2)).nodup_iff.mpr ?_
        rw [List.map_cons]
        exact List.nodup_cons.mpr ⟨hm, R.nd⟩
      refine wpAny_bind (wpAny_storeSet_of ho hd ?_ (by rw [es1s, sizeLine_eq]; omega))
      have sb : Heap.SameBut a s.heap (s.heap.update a (Obj.putSet es1 t2)) := Heap.SameBut.update ..
      have ho1 := store_at (es' := es1) (t' := t2) ho hd
      generalize s.heap.update a (Obj.putSet es1 t2) = h1 at sb ho1 ⊢
      have mk2 : t2.mask = t.mask := g2.trans q4
      by_cases full : t2.tooFull = true
      · have fullN : (L.length + 1) * 5 ≥ t2.mask * 3 := by
          unfold SetTable.tooFull at full
          rw [decide_eq_true_eq, fill2] at full
          exact full
        have c1 : (!false && t2.tooFull) = true := by simp [full]
        refine wp_if_pos c1 (wpAny_bind ?_)
        rw [len]
        have szp : t2.place.size = es1.size := by
          have e := T2.sz
          simp only [hsN, List.length_map] at e
          rw [e, len1, es1s]
        have two : (t.mask = 7 ∧ L.length = 4) ∨ (t.mask = 31 ∧ L.length = 18) := by
          rcases R.tab.mok with e | e | e
          · left; rw [mk2, e] at fullN; rw [e] at rm; exact ⟨e, by omega⟩
          · right; rw [mk2, e] at fullN; rw [e] at rm; exact ⟨e, by omega⟩
          · exfalso; rw [mk2, e] at fullN; omega
        have go : ∀ M, SetTable.sizeAbove (SetTable.grown (L.length + 1)) - 1 = M → MaskOk M → SetTable.sizeAbove (SetTable.grown (L.length + 1)) ≤ 128 → (L.length + 1) * 5 < M * 3 →
            wpAny (model P w) A (setRelay a (SetTable.grown (L.length + 1))) (fun _ s' => wpAny (model P w) A (pure true) Q E s') E { s with heap := h1 } := fun M z1 z2 z3 z4 => by
          refine relayN (s := { s with heap := h1 }) ho1 ⟨hex.1, hex.2.1, hex.2.2⟩ rfl rows2 szp T2.dm (by rw [es1s, mk2]; rcases two with ⟨e, e2⟩ | ⟨e, e2⟩ <;> omega) nd1 (by rw [len1]; exact hfew) z1 z2 z3 (by rw [len1]; exact z4) ?_
          exact fun h2 L2 es2 ep2 t3 sb2 R2 pm2 => wpAny_pure (hQ true h2 L2 es2 ep2 t3 (sb.trans sb2) R2 (fun z => absurd z hm) fun _ => pm2.trans pm)
        rcases two with ⟨_, e2⟩ | ⟨_, e2⟩
        · exact go 31 (by rw [e2, size_20]) (.inr (.inl rfl)) (by rw [e2, size_20]; decide) (by omega)
        · exact go 127 (by rw [e2, size_76]) (.inr (.inr rfl)) (by rw [e2, size_76]; decide) (by omega)
      · have c1 : ¬ (!false && t2.tooFull) = true := by simp [full]
        refine wp_if_neg c1 ?_
        refine wpAny_pure (hQ true h1 L1 es1 (ep + 1) t2 sb ⟨⟨_, ho1, ⟨hex.1, hex.2.1, hex.2.2⟩, rfl⟩, rows2, T2, nd1, ?_, by rw [len1]; exact hfew⟩ (fun z => absurd z hm) fun _ => pm)
        unfold SetTable.tooFull at full
        rw [decide_eq_true_eq, fill2] at full
        rw [len1]
        omega
    by_cases pl : t1.plain = true
    · first
        | (refine wpAny_bind (wp_if_pos pl ?_); refine hashV_key k _ 8 s hx.1 hx.2 A E _ fun b => ?_)
        | refine wp_if_pos pl (wpAny_bind (hashV_key k _ 8 s hx.1 hx.2 A E _ fun b => ?_))
      cases b with
      | true =>
        simp only [if_true]
        exact step t1 rfl rfl rfl rfl
      | false =>
        simp only [Bool.false_eq_true, if_false]
        exact step { t1 with plain := false } rfl rfl rfl rfl
    · first
        | (refine wpAny_bind (wp_if_neg pl (wpAny_pure ?_)); simp only [if_true]; exact step t1 rfl rfl rfl rfl)
        | (refine wp_if_neg pl ?_; simp only [if_true]; exact step t1 rfl rfl rfl rfl)
        | (refine wp_if_neg pl (wpAny_bind (wpAny_pure ?_)); simp only [if_true]; exact step t1 rfl rfl rfl rfl)
end
end Z

namespace Z
open PySem PySem.Spec PyProof.Rows L2
set_option autoImplicit false

/-! ### sets of tuples, as data -/
def SAdd (X : Cx) (H : Hp) (a : Addr) (y : V) (o' : HO) : Prop :=
  ∀ (X' : Cx) (pins : List (Addr × Obj)) (σ : L2.St) (s : Shared) (E : Value → Shared → Prop) (Q : Value → Shared → Prop) (u : Value), X'.prog = X.prog → X'.w = X.w → X'.K = X.K → X'.A = X.A → Inv X' pins σ H s → L2.RelV y u →
    (∀ s', Inv X' pins σ (upd H a o') s' → Q .none s') → wpAny (model X.prog X.w) X.A (call (.builtin "set.add") [.ref a, u]) Q E s
def putS (ds : List D) (k : D) : List D := match ixN (nks ds) (nk k) with
  | some _ => ds
  | none => ds ++ [k]
structure SetA (T : Wd) (ι : List Addr) (bar : Addr → Prop) (H : Hp) (a : Addr) (ds : List D) (o : HO) : Prop where
  ex : ∃ bs : List Addr, o = .ext (SetNh T.w a (nks ds) bs) ∧ RelDs T ι bar H ds (bs.map V.ref)
  keys : ds.all tupK = true
section
variable {T : Wd} {X : Cx} {H : Hp} {ι : List Addr} {bar : Addr → Prop} {a : Addr} {ds : List D} {k : D} {y : V} {o : HO}
theorem SetA.soft (d : SetA T ι bar H a ds o) : Soft o := by
  obtain ⟨bs, rfl, _⟩ := d.ex
  exact fun i => i
theorem SetA.keep {ι' : List Addr} {bar' : Addr → Prop} {H' : Hp} (s : Stp ι ι' H H') (hi : ∀ a ∈ ι, bar a) (hb : Grows H bar bar') (d : SetA T ι bar H a ds o) : SetA T ι' bar' H' a ds o := by
  obtain ⟨⟨bs, e, r1⟩, k⟩ := d
  exact ⟨⟨bs, e, r1.keep s hi hb⟩, k⟩
theorem SetA.fewer {bar' : Addr → Prop} (hb : ∀ a, bar' a → bar a) (d : SetA T ι bar H a ds o) : SetA T ι bar' H a ds o := by
  obtain ⟨⟨bs, e, r1⟩, k⟩ := d
  exact ⟨⟨bs, e, r1.fewer hb⟩, k⟩
theorem SetA.era {p : Addr} {u : HO} (hb : bar p) (hp : H p = some u) (so : Soft u) (d : SetA T ι bar H a ds o) : SetA T ι bar (Z.era H p) a ds o := by
  obtain ⟨⟨bs, e, r1⟩, k⟩ := d
  exact ⟨⟨bs, e, r1.era hb hp so⟩, k⟩
theorem keysN_of (ok : Ok T X) {pins : List (Addr × Obj)} {σ : L2.St} {s : Shared} (I : Inv X pins σ H s) : ∀ {ds : List D} {bs : List Addr}, ds.all tupK = true → RelDs T ι bar H ds (bs.map V.ref) → KeysN s.heap (bs.zip (nks ds))
  | [], bs, _, _, p, hp => absurd hp (by simp [nks])
  | k :: ds, [], _, _, p, hp => absurd hp (by simp)
  | k :: ds, b :: bs, hk, r, p, hp => by
    have hk : tupK k = true ∧ ds.all tupK = true := by simpa using hk
    obtain ⟨v, rs, e, r1, r2⟩ := RelDs.uncons r
    simp only [List.map_cons, List.cons.injEq] at e
    obtain ⟨e1, e2⟩ := e
    subst e2
    have hp : p ∈ (b, nk k) :: bs.zip (nks ds) := hp
    rcases List.mem_cons.mp hp with rfl | hp
    · obtain ⟨q1, q2, _⟩ := tupK_isK hk.1
      exact ⟨nested_of ok I q1 (v := .ref b) (by rw [e1]; exact r1) (show L2.RelV (.ref b) (.ref b) from rfl), q2⟩
    · exact keysN_of ok I hk.2 r2 p hp
theorem ixN_mem : ∀ {ks : List NestedKey} {k : NestedKey}, (ixN ks k).isSome = decide (k ∈ ks)
  | [], k => by simp [ixN]
  | x :: ks, k => by
    simp only [ixN]
    by_cases e : x = k
    · simp [e]
    · have e' : ¬ k = x := fun z => e z.symm
      rw [if_neg e, Option.isSome_map, ixN_mem]
      simp [e']
theorem snd_zip {α β : Type} : ∀ {xs : List α} {ys : List β}, xs.length = ys.length → (xs.zip ys).map (·.2) = ys
  | [], [], _ => rfl
  | x :: xs, y :: ys, h => by simp only [List.zip_cons_cons, List.map_cons]; rw [snd_zip (by simpa using h)]
/-- adding -/
theorem SetA.put (ok : Ok T X) (rm : Rm X) (d : SetA T ι bar H a ds o) (hp : H a = some o) (hk : tupK k = true) (rk : RelD T ι bar H k y) (hz : ds.length < 63) :
    ∃ o', SAdd X H a y o' ∧ (∃ bs : List Addr, o' = .ext (SetNh T.w a (nks (putS ds k)) bs) ∧ RelDs T ι bar H (putS ds k) (bs.map V.ref)) ∧ (putS ds k).all tupK = true := by
  obtain ⟨⟨bs, rfl, r1⟩, hks⟩ := d
  obtain ⟨q1, q2, kd, rfl⟩ := tupK_isK hk
  obtain ⟨b, rfl⟩ := tup_ref hk rk
  have l1 : bs.length = ds.length := by have := r1.length; rw [List.length_map] at this; exact this
  have l2 : bs.length = (nks ds).length := by rw [nks_len, l1]
  let bs' := match ixN (nks ds) (nk (.tup kd)) with | some _ => bs | none => bs ++ [b]
  refine ⟨.ext (SetNh T.w a (nks (putS ds (.tup kd))) bs'), fun X' pins σ s E Q u e1 e2 e3 e4 I ru hQ => ?_, ⟨bs', rfl, ?_⟩, ?_⟩
  · have ok' : Ok T X' := ⟨e1.trans ok.P, e2.trans ok.w, e3.trans ok.K⟩
    obtain ⟨L, es, ep, t, pm, R⟩ := ext_at I hp
    cases ru
    have kL : KeysN s.heap L := fun p hm => keysN_of ok' I hks r1 p (pm.mem_iff.mp hm)
    have hx : KeyAt s.heap (nk (.tup kd)) b := ⟨nested_of ok' I q1 rk (show L2.RelV (.ref b) (.ref b) from rfl), q2⟩
    have inL : (nk (.tup kd)) ∈ L.map (·.2) ↔ (nk (.tup kd)) ∈ nks ds := by
      rw [(pm.map (·.2)).mem_iff, snd_zip l2]
    obtain ⟨ob, hob, hex, hd⟩ := R.ob
    have ty : s.TypeIs (.ref a) "set" := ⟨ob, hob, hex.1⟩
    rw [ok.P, ok.w]
    refine wpAny_call_entry F.slot_set_add ty F.entry_set_add ?_ (F.args_set_add_2 _ _)
    unfold Builtin.«set.add» Builtin.Frozenset.oneOther
    simp only [List.isEmpty_nil, bind_assoc]
    unfold Builtin.Frozenset.addrOf setAdd
    refine wpAny_bind (wpAny_pure ?_)
    try dsimp only
    refine wpAny_bind (wpAny_pure ?_)
    try dsimp only
    refine wpAny_bind (wpAny_holding (wpAny_bind (pyHash_key _ _ _ s _ hx.1 (by have := rm.hu; have := hx.2; show X.A.units + 1 + _ < _; omega) ?_)))
    have lenL : L.length = ds.length := by rw [pm.length_eq, List.length_zip, l2, Nat.min_self, nks_len]
    refine addN (s := { s with toks := s.toks + (nk (.tup kd)).draws }) R kL hx (by have := rm.hu; show X.A.units + 1 + 8 < _; omega) (by rw [lenL]; omega) fun bb h' L' es' ep' t' sb R' in1 out1 => ?_
    show wpAny _ _ (PySem.ret Value.none) _ _ _
    refine wpAny_pure ⟨_, rfl, hQ _ ?_⟩
    have pm' : L'.Perm (bs'.zip (nks (putS ds (.tup kd)))) := by
      show L'.Perm ((match ixN (nks ds) (nk (.tup kd)) with | some _ => bs | none => bs ++ [b]).zip _)
      cases hj : ixN (nks ds) (nk (.tup kd)) with
      | some j =>
        have hm : nk (.tup kd) ∈ nks ds := by
          have := ixN_mem (ks := nks ds) (k := nk (.tup kd)); rw [hj] at this; exact of_decide_eq_true this.symm
        rw [in1 (inL.mpr hm)]
        simp only [putS, hj]
        exact pm
      | none =>
        have hm : nk (.tup kd) ∉ nks ds := by
          have := ixN_mem (ks := nks ds) (k := nk (.tup kd)); rw [hj] at this; exact of_decide_eq_false this.symm
        have q := out1 fun z => hm (inL.mp z)
        simp only [putS, hj, nks_app]
        rw [List.zip_append l2]
        refine q.trans ((List.Perm.cons _ pm).trans ?_)
        exact (List.perm_append_comm (l₁ := [(b, nk (.tup kd))]) (l₂ := bs.zip (nks ds)))
    have hob' : ∃ q, h'.get? a = some q := let ⟨q, e, _⟩ := R'.ob; ⟨q, e⟩
    exact d_write (t' := s.toks + (nk (.tup kd)).draws) (I.tok _) (by rw [hp]; trivial) sb hob' ⟨⟨L', es', ep', t', pm', R'⟩, hob', fun h1 h2 z kk => by
      obtain ⟨L2, es2, ep2, t2, z1, z2⟩ := z
      obtain ⟨o2, y1, y2⟩ := z2.ob
      exact ⟨L2, es2, ep2, t2, z1, ⟨⟨o2, kk _ y1, y2⟩, z2.rows, z2.tab, z2.nd, z2.room, z2.few⟩⟩⟩
  · show RelDs T ι bar H (putS ds (.tup kd)) (List.map V.ref (match ixN (nks ds) (nk (.tup kd)) with | some _ => bs | none => bs ++ [b]))
    cases hj : ixN (nks ds) (nk (.tup kd)) with
    | some j => simp only [putS, hj]; exact r1
    | none => simp only [putS, hj, List.map_append, List.map_cons, List.map_nil]; exact r1.append (.cons rk .nil)
  · cases hj : ixN (nks ds) (nk (.tup kd)) with
    | some j => simp only [putS, hj]; exact hks
    | none => simp only [putS, hj, List.all_append, hks, Bool.true_and]; simpa using hk
end
end Z

namespace Z
open PySem PySem.Spec PyProof.Rows L2
set_option autoImplicit false

/-! ### a set comprehension of tuples -/
def stepS (acc : Option (List D)) (d : D) : Option (List D) := match acc with
  | some ds => if tupK d then some (putS ds d) else none
  | none => none
def foldS (ds : List D) : Option (List D) := ds.foldl stepS (some [])
theorem foldS_none : ∀ es : List D, es.foldl stepS none = none
  | [] => rfl
  | e :: es => foldS_none es
theorem foldS_app (ds es : List D) : foldS (ds ++ es) = es.foldl stepS (foldS ds) := by simp [foldS, List.foldl_append]
theorem putS_le (ds : List D) (k : D) : (putS ds k).length ≤ ds.length + 1 := by
  unfold putS
  split <;> simp
theorem foldS_le : ∀ {es : List D} {p q : List D}, es.foldl stepS (some p) = some q → q.length ≤ p.length + es.length
  | [], p, q, h => by cases h; simp
  | e :: es, p, q, h => by
    simp only [List.foldl_cons] at h
    cases hs : stepS (some p) e with
    | none => rw [hs, foldS_none] at h; cases h
    | some p' =>
      rw [hs] at h
      have := foldS_le h
      unfold stepS at hs
      dsimp only at hs
      split at hs
      · cases hs
        have := putS_le p e
        simp only [List.length_cons]
        omega
      · cases hs
def accS (T : Wd) (P : Addr) : Acc T where
  A := fun ι bar H ds o => ∃ p, foldS ds = some p ∧ SetA T ι bar H P p o
  soft := fun ι bar H ds o ⟨p, _, d⟩ => d.soft
  keep := fun ι ι' bar bar' H H' ds o s hi hb ⟨p, e, d⟩ => ⟨p, e, d.keep s hi hb⟩
  era := fun ι bar H ds o p u hb hp so ⟨q, e, d⟩ => ⟨q, e, d.era hb hp so⟩
  fewer := fun ι bar bar' H ds o hb ⟨p, e, d⟩ => ⟨p, e, d.fewer hb⟩
  room := fun ds => ds.length ≤ 63 ∧ (foldS ds).isSome = true
  less := fun ds es ⟨h, h2⟩ => by
    constructor
    · rw [List.length_append] at h; omega
    · rw [foldS_app] at h2
      cases q : foldS ds with
      | none => rw [q, foldS_none] at h2; cases h2
      | some _ => rfl
def mSc (mi : EvI) (vs : List Nat) (t : Tg) (ms : ElM) : Ev := fun ρ g => match mi ρ g with
  | .ok ds g1 => match gaL t ms (wipeE ρ vs) ds g1 with
    | .ok ys g2 => match foldS ys with
      | some p => if ys.length ≤ 63 then .ok (.set p) g2 else .bad
      | none => .bad
    | _ => .bad
  | .exc x g1 => .exc x g1
  | .bad => .bad
abbrev stS (T : Wd) (X : Cx) (mk : Ev) (P : Addr) : Stage := fun σ H Nx => tX T W0 (rD T) mk σ H fun y H4 => ∃ o', SAdd X H4 P y o' ∧ Nx (upd H4 P o')
abbrev stST (T : Wd) (X : Cx) (mt : EvB) (mk : Ev) (P : Addr) : Stage := fun σ H Nx => tX T W0 rB mt σ H fun b H3 => if b = true then stS T X mk P σ H3 Nx else Nx H3
theorem stg_set {T : Wd} {X : Cx} {P : Addr} {mt : EvB} {mk : Ev} (ok : Ok T X) (rm : Rm X) : Stg T (accS T P) P (el1 mt mk) (stST T X mt mk P) := by
  intro γ ρ σ H g ds o Nx R nP nι nv A p
  obtain ⟨pp, ef, dA⟩ := A
  have so : Soft o := dA.soft
  have R1 := R.lay (o := o) nP
  refine ⟨_, ρ, g, R1, ?_⟩
  have growA : ∀ {ι2 : List Addr} {H2 : Hp}, Stp γ.ι ι2 H H2 → Grows H (γ.add P).bar ((γ.to ι2).add P).bar := fun s a h => by
    rcases Gho.add_bar.mp h with h | h
    · rcases Gho.grows s a h with q | q
      · exact .inl (add_fw a q)
      · exact .inr q
    · exact .inl (Gho.add_bar.mpr (.inr h))
  have biA : ∀ a ∈ γ.ι, (γ.add P).bar a := fun a h => add_fw a (γ.bi a h)
  unfold el1 at p
  revert p
  cases mt ρ g with
  | bad => exact fun p => p
  | exc x g1 => exact fun p => p.elim
  | ok c g1 =>
    intro p b ι1 H1 s1 G1 e1
    subst e1
    have hP1 : H1 P = some o := s1.ext P _ upd_same nι
    have n1 : P ∉ ι1 := s1.not (by rw [upd_same]; simp) nι
    have cut : ∀ {ι2 : List Addr} {H2 : Hp}, Stp γ.ι ι2 (upd H P o) H2 → Stp γ.ι ι2 H (era H2 P) := fun s => by
      have := s.era (p := P)
      rw [upd_era nP] at this
      exact this
    cases b with
    | false =>
      simp only [Bool.false_eq_true, if_false, List.append_nil] at p ⊢
      rw [← era_upd hP1]
      exact p.2 ι1 _ o (cut s1) ((G1.era (γ.to ι1).add_self hP1 so n1).fewer add_fw) era_self n1 ⟨pp, ef, dA.keep (cut s1) biA (growA (cut s1))⟩
    | true =>
      simp only [if_true] at p ⊢
      refine ⟨_, ρ, g1, R1.step s1 G1, ?_⟩
      revert p
      cases mk ρ g1 with
      | bad => exact fun p => p
      | exc x g2 => exact fun p => p.elim
      | ok k g2 =>
        intro p y ι2 H2 s2 G2 r2
        dsimp only at p
        have hP2 : H2 P = some o := s2.ext P _ hP1 n1
        have n2 : P ∉ ι2 := s2.not (by rw [hP1]; simp) n1
        have sc := cut (s1.trans s2)
        have dE : SetA T ι2 ((γ.to ι2).add P).bar (era H2 P) P pp o := dA.keep sc biA (growA sc)
        have d3 : SetA T ι2 ((γ.to ι2).add P).bar H2 P pp o := dE.keep (.same era_same) (fun a h => .inl h) fun a h => .inl h
        have hroom := p.1
        have hfit := hroom.1
        have hsome := hroom.2
        have ek : tupK k = true := by
          rw [foldS_app, ef] at hsome
          cases q : tupK k with
          | true => rfl
          | false => simp [stepS, q] at hsome
        have hlen : pp.length < 63 := by
          have := foldS_le (p := []) ef
          simp only [List.length_append, List.length_cons, List.length_nil] at hfit this
          omega
        obtain ⟨o', hadd, ⟨bs', eo, q1⟩, hk'⟩ := d3.put ok rm hP2 ek r2 hlen
        refine ⟨o', hadd, ?_⟩
        rw [upd_era2]
        refine p.2 ι2 _ o' sc ((G2.era (γ.to ι2).add_self hP2 so n2).fewer add_fw) era_self n2 ⟨putS pp k, ?_, ⟨bs', eo, q1.era (γ.to ι2).add_self hP2 so⟩, hk'⟩
        rw [foldS_app, ef]
        simp [stepS, ek]
theorem tupKs_keys : ∀ {l : List D}, l.all tupK = true → isKs l = true ∧ ∀ k ∈ nks l, k.depth ≤ 8
  | [], _ => ⟨rfl, fun k hk => by simp [nks] at hk⟩
  | x :: l, h => by
    have h : tupK x = true ∧ l.all tupK = true := by simpa using h
    obtain ⟨a, b⟩ := tupKs_keys h.2
    obtain ⟨c, d, _⟩ := tupK_isK h.1
    refine ⟨by simp only [isKs, c, a, Bool.and_self], fun k hk => ?_⟩
    simp only [nks, List.mem_cons] at hk
    rcases hk with rfl | hk
    · exact d
    · exact b k hk
theorem sc_test {T : Wd} {W : WX} {X : Cx} {mi : EvI} {vs sl : List Nat} {t : Tg} {mt : EvB} {mk : Ev} (ok : Ok T X) (rm : Rm X) (hs : ∀ i ∈ sl, i ∈ vs) {σ : L2.St} {H : Hp} {Q : VK} (h : tX T W (rD T) (mSc mi vs t (el1 mt mk)) σ H Q) :
    tMk (tI T W Stays mi) (tG T sl t) (tX T W0 rB mt) (stS T X mk) vs (fun P => .ext (SetNh T.w P [] [])) σ H Q := by
  obtain ⟨γ, ρ, g, R, p⟩ := h
  refine ⟨γ, ρ, g, R, ?_⟩
  unfold mSc at p
  revert p
  cases mi ρ g with
  | bad => exact fun p => p
  | exc x g1 => exact fun p => p
  | ok dd g1 =>
    intro p J K ι1 H1 hK okJ s1 G1 k1 P nP
    dsimp only at p
    have R1 := R.step s1 G1
    have nι : P ∉ ι1 := fun z => G1.tracked P z nP
    have W := turns (C := accS T P) (st := stST T X mt mk P) (g0 := tG T sl t) (vs := vs) (Qd := fun H => Q (.ref P) H) (P := P) (sl := sl) (t := t) (ms := el1 mt mk) (dd := dd) (J := J) (a0 := []) (o0 := .ext (SetNh T.w P [] [])) hK okJ (fun _ _ _ _ h => h) hs (stg_set ok rm) (R1.hides vs) wipe_wipe (fun i h => hides_oa h) nP (by rw [Gho.hides_ι]; exact nι) (by
        rw [Gho.hides_ι]
        exact hK _ _ _ _ _ _ .refl (γ.to ι1).bi (fun a h => .inl (Gho.hides_bar.mp h)) k1) ⟨[], rfl, ⟨⟨[], rfl, .nil⟩, rfl⟩⟩ (by
      revert p
      cases gaL t (el1 mt mk) (wipeE ρ vs) dd g1 with
      | bad => exact fun p => p
      | exc x g' => exact fun p => p.elim
      | ok ys g' =>
        dsimp only
        cases hf : foldS ys with
        | none => exact fun p => p.elim
        | some pp =>
          dsimp only
          split
          · rename_i hfit
            refine fun p => ⟨⟨by simpa using hfit, by simp [hf]⟩, fun ι5 H5 o5 s5 G5 n5 np5 A5 => ?_⟩
            rw [Gho.hides_ι] at s5
            obtain ⟨pp', ef, dA⟩ := A5
            simp only [List.nil_append, hf, Option.some.injEq] at ef
            subst ef
            have dB : SetA T ι5 (γ.to ι5).bar H5 P pp o5 := dA.fewer (bar' := (γ.to ι5).bar) fun a h => Gho.add_bar.mpr (.inl (hides_bi (γ := γ.to ι1).mpr h))
            have G6 : GR T ι5 (γ.to ι5).bar H5 g' := G5.fewer fun a h => hides_bi.mpr h
            have gr : Grows H5 (γ.to ι5).bar (γ.to ι5).bar := fun a h => .inl h
            have nb : ¬ (γ.to ι5).bar P := fun z => (R.step (s1.trans s5) G6).bart P z n5
            refine p (.ref P) ι5 _ ((s1.trans s5).trans (.same (same_lay n5))) (G6.keep (same_lay n5) (γ.to ι5).bi gr) ?_
            obtain ⟨⟨bs, eo, q1⟩, hk⟩ := dB
            obtain ⟨c1, c2⟩ := tupKs_keys hk
            simp only [RelD]
            exact ⟨P, bs.map V.ref, rfl, nb, q1.keep (.same (same_lay n5)) (γ.to ι5).bi gr, .inr (.inr ⟨bs, rfl, c1, c2, by rw [upd_same, eo]⟩)⟩
          · exact fun p => p.elim)
    obtain ⟨W1, w0, turn⟩ := W
    refine ⟨W1, w0, fun i m H w => ?_⟩
    rcases turn i m H w with t1 | ⟨t1, Nx, t2, t3⟩
    · exact .inl t1
    · exact .inr ⟨t1, Nx, t2, t3⟩
theorem fresh_tab {w : World} {h : Heap} {a : Addr} {led : Bool} (e : h.get? a = some { cls := .type "set", dict := none, data := .set #[] 0 (.fresh 0 0 led) }) : TabN w h a [] #[] 0 (.fresh 0 0 led) :=
  ⟨⟨_, e, ⟨rfl, rfl, rfl⟩, rfl⟩, rfl, ⟨List.Pairwise.nil, rfl, rfl, .inl rfl, fun x hx => (by cases hx), fun i h j hi => (by simp [hsN] at hi)⟩, List.nodup_nil, (by show 0 * 5 < 7 * 3; decide), (by show 0 < 64; decide)⟩
section
variable {T : Wd} {W : WX} {X : Cx} {kx tg iter : Expr} {ifs : List Expr} {scope : Scope} {pos : Pos} {mi : EvI} {t : Tg} {mt : EvB} {mk : Ev} {sl : List Nat}
theorem ee_sc (ok : Ok T X) (rm : Rm X) (hc : X.calm = true) (hN : X.N.Nodup) (hi : EIw T W X tg iter mi) (own : List (Str × Nat)) (bo : blkC X.N X.env.scope scope own = true)
    (hg : ∀ (s : Shared) (H : Hp) (C : Addr) (cl : List (Str × Addr)) (fp : List Addr), GT T (X.blk s H scope (compEnvC scope cl C X.env) fp) tg sl t)
    (ht : ∀ (s : Shared) (H : Hp) (C : Addr) (cl : List (Str × Addr)) (fp : List Addr), PTs (X.blk s H scope (compEnvC scope cl C X.env) fp) ifs (tX T W0 rB mt))
    (hk : ∀ (s : Shared) (H : Hp) (C : Addr) (cl : List (Str × Addr)) (fp : List Addr), EE T W0 (X.blk s H scope (compEnvC scope cl C X.env) fp) kx mk)
    (hs : (sl.all fun i => decide (i ∈ own.map (·.2))) = true := by rfl) (hf : ∀ x, foldedSetIterable iter X.env x = pure x := by intro _; rfl) :
    EE T W X (.SetComp kx [⟨tg, iter, ifs, 0⟩] scope pos) (mSc mi (own.map (·.2)) t (el1 mt mk)) := by
  refine PE.imp (pe_mk (new := newSet (.type "set")) (pos' := firstIterPos [⟨tg, iter, ifs, 0⟩] pos) (u0 := fun P => .ext (SetNh T.w P [] [])) (st := stS T X mk)
    (sw := fun cenv P N Er s => wpAny (model X.prog X.w) X.A (eval kx cenv) (fun kv s4 => wpAny (model X.prog X.w) X.A (call (.builtin "set.add") [.ref P, kv]) (fun _ s6 => N s6) Er s4) Er s)
    hc hN hi (blkOk_by bo) hg ht rfl hf (arm_eval_SetComp ..) ?_ (fun cenv itv P R I turn n s hI => compLoop_set_any I turn n hI) (fun cenv itv P R s h1 h2 => codeAny_compStart_set h1 h2) ?_) fun σ H Q h => sc_test ok rm (fun i h => of_decide_eq_true (List.all_eq_true.mp hs i h)) h
  · intro pins σ H s Q I hQ
    refine wpAny_newSet_raw fun led _ => hQ _ ?_ (fun b o e => Heap.get?_push_of_some _ e) (Heap.size_push ..)
    refine I.laid (t' := s.toks) (fun b o e => Heap.get?_push_of_some _ e) (Nat.le_refl _) ?_
    refine ⟨⟨[], #[], 0, _, .nil, fresh_tab (Heap.get?_push_size _ rfl)⟩, ⟨_, Heap.get?_push_size _ rfl⟩, fun h1 h2 z kk => ?_⟩
    obtain ⟨L2, es2, ep2, t2, z1, z2⟩ := z
    obtain ⟨o2, y1, y2⟩ := z2.ob
    exact ⟨L2, es2, ep2, t2, z1, ⟨⟨o2, kk _ y1, y2⟩, z2.rows, z2.tab, z2.nd, z2.room, z2.few⟩⟩
  · intro s0 H0 C cl fp pins σ H s P Nx N Er I h hN
    refine thnF ((hk s0 H0 C cl fp).run pins s σ H _ I h) fun kv s4 ⟨y, H4, I4, r4, o', hadd, nx⟩ => ?_
    exact hadd (X.blk s0 H0 scope (compEnvC scope cl C X.env) fp) pins σ s4 Er _ kv rfl rfl rfl rfl I4 r4 fun s6 I6 => hN s6 _ I6 nx
end
/-! ### x in it -/
theorem set_read {T : Wd} {X : Cx} {pins : List (Addr × Obj)} {σ : L2.St} {H : Hp} {s : Shared} {ι : List Addr} {bar : Addr → Prop} {ds : List D} {x : V} (ok : Ok T X) (I : Inv X pins σ H s) (r : RelW T ι bar H (.set ds) x) (hk : ds.all tupK = true) :
    ∃ a L es ep t, x = .ref a ∧ TabN T.w s.heap a L es ep t ∧ KeysN s.heap L ∧ ∀ k, k ∈ L.map (·.2) ↔ k ∈ nks ds := by
  have core : ∀ (a : Addr) (us : List V), x = .ref a → RelDs T ι bar H ds us → ((∃ led, ds = [] ∧ H a = some (.ext (SetE a led))) ∨ (∃ ls, ds ≠ [] ∧ lfs ds = some ls ∧ ls.Nodup ∧ H a = some (.ext (SetF T.P T.w a ls us))) ∨ (∃ bs : List Addr, us = bs.map V.ref ∧ isKs ds = true ∧ (∀ k ∈ nks ds, k.depth ≤ 8) ∧ H a = some (.ext (SetNh T.w a (nks ds) bs)))) →
      ∃ a L es ep t, x = .ref a ∧ TabN T.w s.heap a L es ep t ∧ KeysN s.heap L ∧ ∀ k, k ∈ L.map (·.2) ↔ k ∈ nks ds := by
    intro a us e r1 alt
    rcases alt with ⟨led, ed, hh⟩ | ⟨ls, ne, el, _, hh⟩ | ⟨bs, eu, _, _, hh⟩
    · subst ed
      exact ⟨a, [], #[], 0, _, e, fresh_tab (ext_at I hh), fun p hp => by simp at hp, fun k => by simp [nks]⟩
    · cases ds with
      | nil => exact absurd rfl ne
      | cons k ds =>
        have hk : tupK k = true ∧ ds.all tupK = true := by simpa using hk
        simp only [lfs, tupK_leaf hk.1] at el
        cases el
    · subst eu
      obtain ⟨L, es, ep, t, pm, R⟩ := ext_at I hh
      have l1 : bs.length = (nks ds).length := by have := r1.length; rw [List.length_map] at this; rw [nks_len, this]
      refine ⟨a, L, es, ep, t, e, R, fun p hm => keysN_of ok I hk r1 p (pm.mem_iff.mp hm), fun k => ?_⟩
      rw [(pm.map (·.2)).mem_iff, snd_zip l1]
  rcases r with r | ⟨a, e, _, r⟩
  · simp only [RelD] at r
    obtain ⟨a, us, e, _, r1, alt⟩ := r
    exact core a us e r1 alt
  · obtain ⟨us, r1, alt⟩ := r
    exact core a us e r1 alt
def inS (d e : D) : Option Bool := match e with
  | .set ds => if tupK d = true ∧ ds.all tupK = true then some (ixN (nks ds) (nk d)).isSome else none
  | _ => inB d e
def inO2 (d e : D) : Option D := (inS d e).map .bl
def notInO2 (d e : D) : Option D := (inS d e).map fun b => .bl !b
section
variable {T : Wd} {X : Cx}
theorem contains_set {pins : List (Addr × Obj)} {σ : L2.St} {H : Hp} {s : Shared} {ι : List Addr} {bar : Addr → Prop} {d : D} {ds : List D} {x y : V} {v u : Value} {E : Value → Shared → Prop} {Q : Bool → Shared → Prop} (ok : Ok T X) (rm : Rm X) (I : Inv X pins σ H s) (rd : RelW T ι bar H d x) (re : RelW T ι bar H (.set ds) y) (rv : L2.RelV x v) (ru : L2.RelV y u)
    (hd : tupK d = true) (hk : ds.all tupK = true) (q : ∀ s', Inv X pins σ H s' → Q (ixN (nks ds) (nk d)).isSome s') : wpAny (model X.prog X.w) X.A (contains u v) Q E s := by
  obtain ⟨q1, q2, kd, rfl⟩ := tupK_isK hd
  have rd : RelD T ι bar H (.tup kd) x := by
    rcases rd with rd | ⟨_, _, _, rd⟩
    · exact rd
    · exact rd.elim
  obtain ⟨b, rfl⟩ := tup_ref hd rd
  cases rv
  obtain ⟨a, L, es, ep, t, rfl, R, kL, hmem⟩ := set_read ok I re hk
  cases ru
  have hx : KeyAt s.heap (nk (.tup kd)) b := ⟨nested_of ok I q1 rd (show L2.RelV (.ref b) (.ref b) from rfl), q2⟩
  obtain ⟨ob, hob, hex, hdt⟩ := R.ob
  have ty : s.TypeIs (.ref a) "set" := ⟨ob, hob, hex.1⟩
  rw [ok.P, ok.w]
  unfold contains
  try with_reducible refine wpAny_holding ?_
  refine wpAny_bind (wpAny_specialOf ty F.slot_set_contains.lookup ?_)
  show wpAny _ _ (if (some (Value.builtin "set.__contains__") == some Value.none) = true then _ else _) _ E s
  rw [if_neg (by rw [beq_builtin_none]; exact Bool.false_ne_true)]
  refine wpAny_bind (wpAny_callSpecialUnlessNone?_slot (name := Str.ofString "__contains__") ty F.slot_set_contains (wpAny_call_entry F.slot_set_contains ty entry_set_contains ?_ (F.args_set_contains_2 _ _)))
  unfold Builtin.«frozenset.__contains__» Builtin.Frozenset.oneOther
  simp only [List.isEmpty_nil, bind_assoc]
  unfold Builtin.Frozenset.addrOf Builtin.Frozenset.withSetAsKey setContains
  refine wpAny_bind (wpAny_pure ?_)
  try dsimp only
  refine wpAny_bind (wpAny_pure ?_)
  try dsimp only
  refine wpAny_bind (wpAny_tryCatch (wpAny_holding (wpAny_bind (pyHash_key _ _ _ s _ hx.1 (by have := rm.hu; have := hx.2; show X.A.units + 1 + _ < _; omega) ?_))))
  refine wpAny_bind (find_in (s := { s with toks := s.toks + (nk (.tup kd)).draws }) R kL hx (by have := rm.hu; show X.A.units + 1 + 8 < _; omega) fun r hr => wpAny_pure ?_)
  show wpAny _ _ (PySem.ret (Value.bool r.isSome)) _ _ _
  have e : r.isSome = (ixN (nks ds) (nk (.tup kd))).isSome := by
    rw [hr, ixN_mem]
    exact decide_eq_decide.mpr (hmem _)
  rw [e]
  exact wpAny_pure ⟨_, rfl, wpAny_truthy_bool (q _ (I.tok _))⟩
theorem od_in2 (ok : Ok T X) (rm : Rm X) : OpD T X (compareOp .In) inO2 := by
  intro pins s σ H x y v u Q I rx ry ⟨ι, bar, d, e, r, hb, hi, rd, re, hk, q⟩
  by_cases he : ∃ ds, e = .set ds
  · obtain ⟨ds, rfl⟩ := he
    unfold inO2 inS at hk
    dsimp only at hk
    split at hk
    · rename_i hc
      cases hk
      show wpAny _ _ (do return Value.bool (← contains u v)) _ _ s
      exact wpAny_bind (contains_set ok rm I rd re rx ry hc.1 hc.2 fun s' I' => wpAny_pure ⟨.bl _, H, I', rfl, q _ H (Same.refl H) (RelD.ofBl _)⟩)
    · cases hk
  · refine od_in ok rm pins s σ H x y v u Q I rx ry ⟨ι, bar, d, e, r, hb, hi, rd, re, ?_, q⟩
    unfold inO2 inS at hk
    split at hk
    · exact absurd ⟨_, rfl⟩ he
    · exact hk
theorem od_notIn2 (ok : Ok T X) (rm : Rm X) : OpD T X (compareOp .NotIn) notInO2 := by
  intro pins s σ H x y v u Q I rx ry ⟨ι, bar, d, e, r, hb, hi, rd, re, hk, q⟩
  by_cases he : ∃ ds, e = .set ds
  · obtain ⟨ds, rfl⟩ := he
    unfold notInO2 inS at hk
    dsimp only at hk
    split at hk
    · rename_i hc
      cases hk
      show wpAny _ _ (do return Value.bool (!(← contains u v))) _ _ s
      exact wpAny_bind (contains_set ok rm I rd re rx ry hc.1 hc.2 fun s' I' => wpAny_pure ⟨.bl _, H, I', rfl, q _ H (Same.refl H) (RelD.ofBl _)⟩)
    · cases hk
  · refine od_notIn ok rm pins s σ H x y v u Q I rx ry ⟨ι, bar, d, e, r, hb, hi, rd, re, ?_, q⟩
    unfold notInO2 inS at hk
    split at hk
    · exact absurd ⟨_, rfl⟩ he
    · exact hk
end
end Z

namespace Z
open PySem PySem.Spec PyProof.Rows L2
set_option autoImplicit false

/-! ### repr and == in a form that reduces well -/
def sl (x : Str) : List Nat := x.cps.toList
theorem sl_append (x y : Str) : sl (x ++ y) = sl x ++ sl y := Array.toList_append
theorem sl_inj {x y : Str} (h : sl x = sl y) : x = y := by
  cases x; cases y
  exact congrArg Str.mk (Array.ext' h)
theorem sl_mk (l : List Nat) : sl ⟨l.toArray⟩ = l := rfl
mutual
def shF : PyData → List Nat → List Nat
  | .none, r => 78 :: 111 :: 110 :: 101 :: r
  | .bool b, r => sl (if b then "True" else "False") ++ r
  | .int i, r => sl (toString i) ++ r
  | .str x, r => sl (reprText x) ++ r
  | .list xs, r => 91 :: shFs xs (93 :: r)
  | .tuple xs, r => 40 :: shFs xs (match xs with
    | [_] => 44 :: 41 :: r
    | _ => 41 :: r)
  | .dict kvs, r => sl (dictText (PyData.shownKv kvs)) ++ r
def shFs : List PyData → List Nat → List Nat
  | [], r => r
  | x :: xs, r => shF x (shFt xs r)
def shFt : List PyData → List Nat → List Nat
  | [], r => r
  | x :: xs, r => 44 :: 32 :: shF x (shFt xs r)
end
def flatT (ts : List Str) : List Nat := ts.flatMap fun t => 44 :: 32 :: sl t
theorem sl_textFrom : ∀ (ts : List Str) (k : Nat) (acc : Str), sl (textFrom (k + 1) acc ts) = sl acc ++ flatT ts
  | [], k, acc => by simp [textFrom, flatT]
  | t :: ts, k, acc => by
    rw [textFrom, sl_textFrom ts (k + 1), sl_append, sl_append, if_pos (Nat.succ_pos k)]
    have e : sl ((", " : String) : Str) = [44, 32] := by decide +kernel
    rw [e]
    simp [flatT]
theorem sl_listText : ∀ ts : List Str, sl (listText ts) = match ts with
    | [] => [91, 93]
    | t :: r => 91 :: (sl t ++ flatT r ++ [93])
  | [] => by decide +kernel
  | t :: r => by
    have e1 : sl ("]" : Str) = [93] := by decide +kernel
    have e2 : sl ("[" : Str) = [91] := by decide +kernel
    have e3 : sl (("" : String) : Str) = [] := by decide +kernel
    rw [listText, textFrom, sl_append, sl_textFrom, sl_append, sl_append, if_neg (Nat.lt_irrefl 0), e1, e2, e3]
    simp
theorem sl_join : ∀ (t : Str) (r : List Str), sl (Str.join ", " (t :: r)) = sl t ++ flatT r
  | t, [] => by simp [Str.join, flatT]
  | t, u :: r => by
    have e : sl ((", " : String) : Str) = [44, 32] := by decide +kernel
    rw [Str.join, sl_append, sl_append, sl_join u r, e]
    · simp [flatT]
    · simp
theorem sl_tupleText (ts : List Str) : sl (tupleText ts) = 40 :: ((match ts with
    | [] => []
    | t :: r => sl t ++ flatT r) ++ (if ts.length == 1 then [44, 41] else [41])) := by
  have e1 : sl ("(" : Str) = [40] := by decide +kernel
  have e2 : sl ((if ts.length == 1 then ",)" else ")" : String) : Str) = (if ts.length == 1 then [44, 41] else [41]) := by
    split <;> decide +kernel
  rw [tupleText, sl_append, sl_append, e1, e2]
  cases ts with
  | nil => simp [Str.join, sl, Str.empty]
  | cons t r => rw [sl_join]; simp
mutual
theorem shF_eq : ∀ (d : PyData) (r : List Nat), shF d r = sl d.shown ++ r
  | .none, r => by
    have e : sl (("None" : String) : Str) = [78, 111, 110, 101] := by decide +kernel
    simp only [shF, PyData.shown, e]
    rfl
  | .bool b, r => by simp only [shF, PyData.shown]
  | .int i, r => by simp only [shF, PyData.shown]
  | .str x, r => by simp only [shF, PyData.shown]
  | .list xs, r => by
    simp only [shF, PyData.shown]
    rw [sl_listText]
    cases xs with
    | nil => simp [shFs, PyData.shownAll]
    | cons x xs =>
      simp only [shFs, PyData.shownAll]
      rw [shF_eq x, shFt_eq xs]
      simp
  | .tuple xs, r => by
    simp only [shF, PyData.shown]
    rw [sl_tupleText]
    cases xs with
    | nil => simp [shFs, PyData.shownAll]
    | cons x xs =>
      simp only [shFs, PyData.shownAll]
      rw [shF_eq x, shFt_eq xs]
      cases xs with
      | nil => simp [PyData.shownAll]
      | cons y ys => simp [PyData.shownAll]
  | .dict kvs, r => by simp only [shF, PyData.shown]
theorem shFt_eq : ∀ (xs : List PyData) (r : List Nat), shFt xs r = flatT (PyData.shownAll xs) ++ r
  | [], r => by simp [shFt, PyData.shownAll, flatT]
  | x :: xs, r => by
    simp only [shFt, PyData.shownAll]
    rw [shF_eq x, shFt_eq xs]
    simp [flatT]
end
def shT (d : PyData) : List Nat := shF d []
theorem shT_eq (d : PyData) : shT d = sl d.shown := by rw [shT, shF_eq, List.append_nil]
def reprF (d : D) : Option D := match d with
  | .tup ds => let p := py (.tup ds)
    if isD (.tup ds) && sh (.tup ds) && p.showable && fits (shT p).length then some (.str ⟨(shT p).toArray⟩) else none
  | .lst ds => let p := py (.lst ds)
    if isD (.lst ds) && sh (.lst ds) && p.showable && fits (shT p).length then some (.str ⟨(shT p).toArray⟩) else none
  | _ => none
theorem shT_mk (p : PyData) : (⟨(shT p).toArray⟩ : Str) = p.shown := sl_inj (by rw [sl_mk, shT_eq])
theorem shT_len (p : PyData) : (shT p).length = p.shown.length := by rw [shT_eq]; rfl
theorem reprF_eq (d : D) : reprF d = reprO d := by
  cases d with
  | tup ds => simp only [reprF, reprO, reprOk, shT_mk, shT_len]; congr
  | lst ds => simp only [reprF, reprO, reprOk, shT_mk, shT_len]; congr
  | _ => rfl
theorem ud_reprF {T : Wd} {X : Cx} (ok : Ok T X) (rm : Rm X) : Call1 T X (.builtin "repr") reprF := by
  have e : reprF = reprO := funext reprF_eq
  rw [e]
  exact ud_repr ok rm
def lEq : List Nat → List Nat → Bool
  | [], [] => true
  | x :: xs, y :: ys => Nat.beq x y && lEq xs ys
  | _, _ => false
theorem lEq_iff : ∀ xs ys : List Nat, lEq xs ys = true ↔ xs = ys
  | [], [] => by simp [lEq]
  | x :: xs, y :: ys => by
    simp only [lEq, Bool.and_eq_true, lEq_iff xs ys, List.cons.injEq, Nat.beq_eq]
  | [], _ :: _ => by simp [lEq]
  | _ :: _, [] => by simp [lEq]
def sEq (x y : Str) : Bool := lEq (sl x) (sl y)
theorem sEq_eq (x y : Str) : sEq x y = (x == y) := by
  by_cases h : x = y
  · subst h
    rw [beq_self_eq_true]
    exact (lEq_iff _ _).mpr rfl
  · rw [beq_false_of_ne h]
    exact Bool.eq_false_iff.mpr fun z => h (sl_inj ((lEq_iff _ _).mp z))
def eqF (d e : D) : Option D := match d, e with
  | .str x, .str y => some (.bl (sEq x y))
  | d, e => eqO d e
def neF (d e : D) : Option D := match d, e with
  | .str x, .str y => some (.bl !(sEq x y))
  | d, e => neO d e
theorem eqF_eq (d e : D) : eqF d e = eqO d e := by
  unfold eqF
  split
  · rw [sEq_eq]; rfl
  · rfl
theorem neF_eq (d e : D) : neF d e = neO d e := by
  unfold neF
  split
  · rw [sEq_eq]; rfl
  · rfl
theorem od_eqF {T : Wd} {X : Cx} (ok : Ok T X) (rm : Rm X) : OpD T X (compareOp .Eq) eqF := by
  have e : eqF = eqO := funext fun d => funext fun e => eqF_eq d e
  rw [e]
  exact od_eq ok rm
theorem od_neF {T : Wd} {X : Cx} (ok : Ok T X) (rm : Rm X) : OpD T X (compareOp .NotEq) neF := by
  have e : neF = neO := funext fun d => funext fun e => neF_eq d e
  rw [e]
  exact od_ne ok rm
end Z

namespace Z
open PySem PySem.Spec PyProof.Rows L2
set_option autoImplicit false

/-! ### sorted(a tuple) -/
section
variable {prog : Program} {w : World} {A : Around} {E : Value → Shared → Prop} {s : Shared}
abbrev cpT (h : Heap) (vs : List Value) : Heap := (h.push (seqObj "list" #[] 0)).update h.objs.size (Obj.mapSeq (· ++ vs.toArray))
theorem collect_tp {l : Addr} {vs : List Value} {Q : List Value → Shared → Prop} (hl : IsTup s.heap l vs.toArray) (hsz : vs.length ≤ sizeLine) (h : Q vs { s with heap := cpT s.heap vs }) : wpAny (model prog w) A (collect (.ref l)) Q E s := by
  obtain ⟨o, q1, q2, k, q3⟩ := id hl
  have fr : (s.heap.push (seqObj "list" #[] 0)).get? s.heap.objs.size = some (seqObj "list" #[] 0) := Heap.get?_push_size _ rfl
  have up : (#[] ++ vs.toArray).size ≤ sizeLine + 1 := by simp only [Array.size_append, List.size_toArray, List.length_nil]; omega
  unfold collect
  refine wpAny_bind (wpAny_runValue (codeAny_builtin entry_proto_collect' ?_))
  show wpAny _ _ (do again (.builtin "list.__iadd__" ⟨[← newList [], .ref l], []⟩)) _ _ s
  refine wpAny_bind (wpAny_newList (wpAny_pure ⟨Code.quiet_builtin _ (by decide +kernel), codeAny_builtin entry_list_iadd' ?_⟩))
  show wpAny _ _ (Builtin.List.listExtendWith (.ref s.heap.objs.size) (.ref l) (.ref s.heap.objs.size)) _ _ { s with heap := s.heap.push (seqObj "list" #[] 0) }
  unfold Builtin.List.listExtendWith
  have q1' : (s.heap.push (seqObj "list" #[] 0)).get? l = some o := Heap.get?_push_of_some _ q1
  refine wpAny_bind (wpAny_typeOf (T := "tuple") ⟨o, q1', q2⟩ ?_)
  have tt : (Value.type "tuple" == Value.type "tuple") = true := by rfl
  rw [if_pos (by rw [tt, Bool.or_true])]
  refine wpAny_bind (listItems_at q1' q3 ?_)
  refine wpAny_bind (listItems_at (xs := #[]) (n := 0) fr rfl ?_)
  rw [if_neg (by simp)]
  refine wpAny_bind (listUpdate_at (xs := #[]) (n := 0) fr rfl ?_ (Nat.zero_le _) up)
  refine wpAny_pure ?_
  show wpAny (model prog w) A (do
      let ob ← load s.heap.objs.size
      match ob.data with
      | .seq xs _ => pure xs.toList
      | _ => unsupported "internal:collect") Q E { s with heap := cpT s.heap vs }
  refine wpAny_bind (wpAny_load (get?_update_seq fr _) ?_)
  show wpAny _ _ (pure ((#[] : Array Value) ++ vs.toArray).toList) Q E _
  rw [show ((#[] : Array Value) ++ vs.toArray).toList = vs by simp]
  exact wpAny_pure h
theorem sorted_tp {l : Addr} {vs : List Value} {κ : PyProof.Rows.KeyKind} {Q : Value → Shared → Prop} (hl : IsTup s.heap l vs.toArray) (S : PySem.W.SortsAt prog w A.in1.in1 { s with heap := PySem.W.sortingHeap (PySem.W.copyHeap s.heap vs) (s.heap.objs.size + 1) vs } κ vs) (hL : vs.length ≤ sizeLine)
    (h : Q (.ref (s.heap.objs.size + 1)) { s with heap := sortedAll s.heap vs (PySem.W.sortVals κ false vs vs).toArray }) : wpAny (model prog w) A (call (.builtin "sorted") [.ref l]) Q E s := by
  refine Calls.call_function_entry kind_sorted plain_sorted entry_sorted (args_sorted1 _) ?_
  unfold Builtin.«sorted»
  refine wpAny_bind (m := checkCount "sorted" 1 1 _) (wpAny_pure ?_)
  refine wpAny_bind (collect_tp hl hL ?_)
  refine wpAny_bind (wpAny_newList ?_ hL)
  have z : (cpT s.heap vs).objs.size = s.heap.objs.size + 1 := by rw [Heap.size_update, size_push']
  show wpAny _ _ _ _ _ { s with heap := PySem.W.copyHeap s.heap vs }
  rw [z]
  refine wpAny_bind (wpAny_holding (PyProof.Rows.wpAny_call_entry_kw slot_list_sort ⟨_, PySem.W.copyHeap_at s.heap vs, rfl⟩ entry_list_sort ?body (args_list_sort _)))
  case body =>
    refine wpAny_mono (PySem.W.list_sort_vals (s := { s with heap := PySem.W.copyHeap s.heap vs }) (P := fun f s' => f = .done (.ret .none) ∧ Q (.ref (s.heap.objs.size + 1)) s') (PySem.W.copyHeap_at s.heap vs) S hL ⟨rfl, h⟩) (fun f s' hf => ?_) fun _ _ e => e
    obtain ⟨rfl, hq⟩ := hf
    exact ⟨_, rfl, wpAny_pure ⟨_, rfl, hq⟩⟩
theorem sorted_dtp {β : Type} {enc : β → PyData} {bs : List β} {R : Value → β → Prop} {l : Addr} {vs : List Value} {Q : Value → Shared → Prop} (hl : IsTup s.heap l vs.toArray) (e : PySem.W.EachIs R vs bs) (er : PySem.W.EachIs (fun v b => ∃ as, Reads s.heap v (enc b) as) vs bs) (hal : PySem.W.AllAlike (bs.map enc)) (hk : PySem.W.Sortable (bs.map enc)) (hL : bs.length ≤ sizeLine)
    (hu : ∀ b, b ∈ bs → A.units + 2 + (enc b).depth < cLine) (h : ∀ out, out.length = bs.length → PySem.W.EachIs R out (bs.mergeSort (PySem.W.dataLe false enc)) → Q (.ref (s.heap.objs.size + 1)) { s with heap := sortedAll s.heap vs (List.toArray out) }) :
    wpAny (model prog w) A (call (.builtin "sorted") [.ref l]) Q E s := by
  have er2 : PySem.W.EachIs (fun v b => ∃ as, Reads (PySem.W.sortingHeap (PySem.W.copyHeap s.heap vs) (s.heap.objs.size + 1) vs) v (enc b) as) vs bs := er.mono fun _ _ ⟨as, r⟩ => ⟨as, PyProof.Rows.Reads.keeps (fun _ _ => PySem.W.sorting_copy_old) r⟩
  exact sorted_tp hl (PySem.W.SortsAt.data (s := { s with heap := PySem.W.sortingHeap (PySem.W.copyHeap s.heap vs) (s.heap.objs.size + 1) vs }) (PySem.W.each_map (R := fun v d => ∃ as, Reads (PySem.W.sortingHeap (PySem.W.copyHeap s.heap vs) (s.heap.objs.size + 1) vs) v d as) enc er2) hal hk (PySem.W.bound_map hu)) (by rw [e.length]; exact hL)
    (h _ (by rw [PySem.W.sortVals_length false rfl]; exact e.length) (PySem.W.sortVals_data false e er2 hal))
end
def sortedF : D → Option D
  | .lst ds => if sortOk ds then some (.lst (sortD ds)) else none
  | .tup ds => if sortOk ds then some (.lst (sortD ds)) else none
  | _ => none
theorem ud_sortedF {T : Wd} {X : Cx} (ok : Ok T X) (rm : Rm X) : Call1 T X (.builtin "sorted") sortedF := by
  intro pins s σ H x v Q I rx ⟨ι, bar, d, r, hb, hi, rd, hk, q⟩
  by_cases ht : ∃ ds, d = .tup ds
  · obtain ⟨ds, rfl⟩ := ht
    have hu := rm.hu
    have hk : (if sortOk ds = true then some (D.lst (sortD ds)) else none) = some r := hk
    split at hk
    · rename_i hc
      cases hk
      obtain ⟨a, vs, rfl, h1, rs⟩ := rd.tup
      rw [← ok.K] at h1
      cases rx
      obtain ⟨its, rv, pl, hz⟩ := I.tuple h1
      obtain ⟨p1, p2, p3, p4, p5⟩ := sort_prem hc
      obtain ⟨as, hr⟩ := rs.reads ok I rv p4
      have ea : PySem.W.EachIs (fun v b => ∃ as, Reads s.heap v (py b) as) its ds := by
        rw [pys_map] at hr
        exact PySem.W.readsAll_each py hr
      exact sort_core ok rm I hb hi rs rv hc q fun {Q'} hq => sorted_dtp pl (each_of rs rv) ea p1 p2 p3 (fun b hbm => by have := depth_mem hbm; omega) hq
    · cases hk
  · refine ud_sorted ok rm pins s σ H x v Q I rx ⟨ι, bar, d, r, hb, hi, rd, ?_, q⟩
    cases d with
    | tup ds => exact absurd ⟨_, rfl⟩ ht
    | _ => exact hk
end Z

namespace Z
open PySem PySem.Spec PyProof.Rows L2
set_option autoImplicit false

/-! ### the feed's draws: what the operations say at whole numbers -/
abbrev feedC (cs : List Int) (i r t : Int) : Cell := .dk ["cells", "index", "rest", "turn"] [.lst (cs.map D.int), .int i, .int r, .int t]
section
variable {a b c d : D} {x y z : Int}
theorem lu_cells : luS ["cells", "index", "rest", "turn"] [a, b, c, d] "cells" = some a := by kernel_rfl
theorem lu_index : luS ["cells", "index", "rest", "turn"] [a, b, c, d] "index" = some b := by kernel_rfl
theorem lu_rest : luS ["cells", "index", "rest", "turn"] [a, b, c, d] "rest" = some c := by kernel_rfl
theorem lu_turn : luS ["cells", "index", "rest", "turn"] [a, b, c, d] "turn" = some d := by kernel_rfl
theorem sc_index {e : D} : setC [.dk ["cells", "index", "rest", "turn"] [a, b, c, d]] 0 "index" e = some [.dk ["cells", "index", "rest", "turn"] [a, e, c, d]] := by kernel_rfl
theorem sc_rest {e : D} : setC [.dk ["cells", "index", "rest", "turn"] [a, b, c, d]] 0 "rest" e = some [.dk ["cells", "index", "rest", "turn"] [a, b, e, d]] := by kernel_rfl
theorem sc_turn {e : D} : setC [.dk ["cells", "index", "rest", "turn"] [a, b, c, d]] 0 "turn" e = some [.dk ["cells", "index", "rest", "turn"] [a, b, c, e]] := by kernel_rfl
theorem cmp_ii : cmpOk (.int x) (.int y) = true := rfl
theorem gtO_ii : gtO (.int x) (.int y) = some (.bl (decide (y < x))) := by simp only [gtO, cmp_ii, if_true, py, PySem.W.dataLt_int]
theorem geO_ii : geO (.int x) (.int y) = some (.bl (!decide (x < y))) := by simp only [geO, cmp_ii, if_true, py, PySem.W.dataLt_int]
theorem ltO_ii : ltO (.int x) (.int y) = some (.bl (decide (x < y))) := by simp only [ltO, cmp_ii, if_true, py, PySem.W.dataLt_int]
theorem leO_ii : leO (.int x) (.int y) = some (.bl (!decide (y < x))) := by simp only [leO, cmp_ii, if_true, py, PySem.W.dataLt_int]
theorem addO_ii : addO (.int x) (.int y) = some (.int (x + y)) := rfl
theorem intO_i : intO (.int x) = some (.int x) := rfl
theorem modO_ii (h : 0 < y) : modO (.int x) (.int y) = some (.int (x % y)) := by
  simp only [modO, decide_eq_true h, if_true]
theorem divO_ii (h : 0 < y) (h2 : y.natAbs.log2 < 9000) : divO (.int x) (.int y) = some (.int (x / y)) := by
  simp only [divO, decide_eq_true h, decide_eq_true h2, Bool.and_self, if_true]
theorem mulO_ii (h : x.natAbs < 18446744073709551616) : mulO (.int x) (.int y) = some (.int (x * y)) := by
  simp only [mulO, decide_eq_true h, Bool.or_true, if_true]
theorem log_small (h0 : 0 < x) (h : x < 18446744073709551616) : x.natAbs.log2 < 9000 := by
  have : x.natAbs < 2 ^ 64 := by omega
  have := (Nat.log2_lt (n := x.natAbs) (k := 64) (by omega)).mpr this
  omega
theorem divO_jj (h0 : 0 < y) (h : y < 18446744073709551616) : divO (.int x) (.int y) = some (.int (x / y)) := divO_ii h0 (log_small h0 h)
theorem isDs_ints : ∀ cs : List Int, isDs (cs.map D.int) = true
  | [] => rfl
  | c :: cs => by simp [isDs, isD, isDs_ints cs]
theorem neF_nil (cs : List Int) : neF (.lst (cs.map D.int)) (.lst []) = some (.bl (!cs.isEmpty)) := by
  cases cs with
  | nil => rfl
  | cons c cs =>
    have h := isDs_ints cs
    show neO (.lst (.int c :: cs.map D.int)) (.lst []) = _
    simp only [neO, isD, isDs, h, Bool.and_self, Bool.and_true, Bool.true_and]
    have e2 : sh (.lst []) = true := rfl
    rw [e2, Bool.or_true]
    rfl
theorem idx_ints (cs : List Int) (j : Int) (h0 : 0 ≤ j) (h1 : j < cs.length) : ∃ c : Int, idxO (.lst (cs.map D.int)) (.int j) = some (.int c) := by
  have e : L2.ixN (cs.map D.int).length j = some j.toNat := by
    unfold L2.ixN
    rw [if_pos h0, if_pos (by rw [List.length_map]; exact h1)]
  have hj : j.toNat < cs.length := by omega
  refine ⟨cs[j.toNat], ?_⟩
  show atI (cs.map D.int) j = _
  unfold atI
  rw [e]
  simp [hj]
theorem pow18 : powO (.int 10) (.int 18) = some (.int 1000000000000000000) := by kernel_rfl
theorem cell_ok {ρ : Z.Env} {g : G} {cs : List Int} {i e : Int} (h3 : ρ[3]? = some (.val (.int i))) (h4 : ρ[4]? = some (.val (.lst (cs.map D.int)))) : ∃ c : Int, mIf (mB (mOp neF (mV 4) (mLst mNil))) (mOp idxO (mV 4) (mOp modO (mUn intO (mV 3)) (mUn lenO (mV 4)))) (mC (.int e)) ρ g = .ok (.int c) g := by
  have f0 : fits 0 = true := rfl
  cases cs with
  | nil =>
    refine ⟨e, ?_⟩
    have hn := neF_nil []
    simp only [List.map_nil] at hn h4
    simp only [mIf, mB, mOp, mV, h4, mLst, mNil, Res.bind, ret, List.length_nil, f0, if_true, hn, isB, List.isEmpty_nil, Bool.not_true, Bool.false_eq_true, if_false, mC]
  | cons c cs =>
    have hp : (0 : Int) < ((c :: cs).length : Int) := by simp only [List.length_cons]; omega
    obtain ⟨d, hd⟩ := idx_ints (c :: cs) (i % ((c :: cs).length : Int)) (Int.emod_nonneg _ (by omega)) (Int.emod_lt_of_pos _ hp)
    refine ⟨d, ?_⟩
    have hn := neF_nil (c :: cs)
    have hl : lenO (.lst ((c :: cs).map D.int)) = some (.int ((c :: cs).length : Int)) := by simp [lenO]
    simp only [mIf, mB, mOp, mUn, mV, h3, h4, mLst, mNil, Res.bind, ret, List.length_nil, f0, if_true, hn, isB, List.isEmpty_cons, Bool.not_false, intO_i, hl, modO_ii hp, hd]
theorem lenO_ints (cs : List Int) : lenO (.lst (cs.map D.int)) = some (.int cs.length) := by simp [lenO]
end
end Z

namespace Z
open PySem PySem.Spec PyProof.Rows L2
set_option autoImplicit false

/-! ### an error class whose __init__ says super().__init__(..) and sets its fields -/
abbrev iEnv (q : Str) (sc : Scope) (L fI cda cc : Addr) : PySem.Env := PySem.W.ksEnv q sc L fI (.ref cda) cc
structure InitK (P : Program) (K : PySem.W.Frag) (C fI cda cc : Addr) (qual : Str) (params : Arguments) (body : List Stmt) (sc : Scope) (fs : List Str) : Prop where
  oex : OexC K C
  ini : PySem.W.findIn K (.ref C) "__init__" = some (some (.ref fI))
  tyI : PySem.W.typeIn K (.ref fI) = some (.type "function")
  fn : ∃ oc od osl kV doc pm an ct, K.lookup fI = some ⟨oc, od, .func (PySem.W.ksFn "__init__" qual params body sc .none kV doc pm an (.ref cda) ct cc), osl⟩
  code : PySem.W.codeIn K (.ref cda) qual = true
  file : ∃ ccl cdd vs ccs tf, K.lookup cda = some ⟨ccl, cdd, .fields vs, ccs⟩ ∧ vs[2]? = some (.str P.main.file tf)
  cell : ∃ cl cld csl, K.lookup cc = some ⟨cl, cld, .cell (some (.ref C)), csl⟩
  msub : PySem.W.mroIn K C (.ref C) = some true
  sup : PySem.W.ks_superIn K C C "__init__" = some (some (.builtin "ValueError.__init__"))
  isV : PySem.W.subIn K (.ref C) (.type "ValueError") = some true
  opq : PySem.W.nsIn K cStatics "thirdparty.any" = some none
  noat : ∀ f ∈ fs, PySem.W.findIn K (.ref C) f = some none
/-- what a module's heap gives to names -/
structure GlH (h : Heap) : Prop where
  sup : ∃ mg, h.Ns mainGlobals mg ∧ mg "super" = none
  blt : ∃ mb, h.Ns builtinsNs mb ∧ mb "super" = some (.type "super")
section
variable {P : Program} {w : World} {A : Around} {E : Value → Shared → Prop} {K : PySem.W.Frag} {C fI cda cc : Addr} {qual : Str} {params : Arguments} {body : List Stmt} {sc : Scope} {fs : List Str}
theorem InitK.excObj (I : InitK P K C fI cda cc qual params body sc fs) {h : Heap} (X : K.In h) : ∃ nm q N bs bm sn sub ab col dd k0 k1 k2 k3 k5, h.get? C = some (excClassObj nm q C N bs bm true sn sub ab col dd k0 k1 k2 k3 k5 "ValueError.__new__") ∧ PySem.HandSPX.refsVE bm = true := by
  obtain ⟨nm, q, N, bs, bm, sn, sub, ab, col, dd, k0, k1, k2, k3, k5, hC, hbm⟩ := I.oex.cls
  exact ⟨nm, q, N, bs, bm, sn, sub, ab, col, dd, k0, k1, k2, k3, k5, X _ _ hC, hbm⟩
/-- super().__init__(u, ..), the error new -/
theorem super_run (I : InitK P K C fI cda cc qual params body sc fs) {s : Shared} {L e t0 : Addr} {m : Str → Option Value} {p0 p1 p2 p3 p4 : Pos} {e1 : Expr} {es : List Expr} {us : List Value} {Q : Flow → Shared → Prop} {ar : Arg} {pl : Sem Bool}
    (X : K.In s.heap) (G : GlH s.heap) (hL : s.heap.Ns L m) (he : s.heap.get? e = some (PySem.HandSPX.excO C t0)) (hself : m "self" = some (.ref e)) (har : (params.posonlyargs ++ params.args).head? = some ar) (ha : ar.arg = "self")
    (hks : sc.names.lookup ("super" : Str) = some .globalImplicit) (hkc : sc.names.lookup ("__class__" : Str) = some .free) (hka : sc.names.lookup ("self" : Str) = some .local) (hk : sc.kind = .function) (htop : (P.main.scope.names.lookup ("super" : Str)).isSome = false)
    (hsp : ∀ (s1 : Shared) (Q1 : List Value → Shared → Prop) (E1 : Value → Shared → Prop), s1.heap.Ns L m → Q1 us s1 → wpAny (model P w) A (spliced (backTo p3 (starEach (e1 :: es) (iEnv qual sc L fI cda cc)))) Q1 E1 s1)
    (hus : us.length ≤ sizeLine)
    (hev : eval (.Call (.Attribute (.Call (.Name "super" p0) [] [] p1) "__init__" p2) (e1 :: es) [] p3) (iEnv qual sc L fI cda cc) = (do
      let ov ← attributeBase (.Call (.Name "super" p0) [] [] p1) "__init__" (iEnv qual sc L fI cda cc) (eval (.Call (.Name "super" p0) [] [] p1) (iEnv qual sc L fI cda cc))
      standAt p2.atName
      let (f, first) ← holding [ov] (getMethod ov "__init__" pl)
      callWith p3 f first (backTo p3 (starEach (e1 :: es) (iEnv qual sc L fI cda cc))) []))
    (hst : starEach (e1 :: es) (iEnv qual sc L fI cda cc) = (false, eval e1 (iEnv qual sc L fI cda cc)) :: starEach es (iEnv qual sc L fI cda cc)) (hpl : (backTo p3 (starEach es (iEnv qual sc L fI cda cc))).any (·.1) = false)
    (hsw : swapsWith (.Call (.Attribute (.Call (.Name "super" p0) [] [] p1) "__init__" p2) (e1 :: es) [] p3) none p4.line (iEnv qual sc L fI cda cc) = pure false) (hint : interactive (iEnv qual sc L fI cda cc) = false)
    (hq : ∀ h' tk t1, (∀ b o, b ≠ e → s.heap.get? b = some o → h'.get? b = some o) → h'.get? e = some (PySem.HandSPX.excO C t1) → Q .next { s with heap := h', toks := tk }) :
    PySem.wpAt (model P w) A (.func body (iEnv qual sc L fI cda cc)) (exec (.Expr (.Call (.Attribute (.Call (.Name "super" p0) [] [] p1) "__init__" p2) (e1 :: es) [] p3) p4) (iEnv qual sc L fI cda cc)) Q E s := by
  obtain ⟨oc, od, osl, kV, doc, pm, an, ct, hfI⟩ := I.fn
  obtain ⟨ccl, cdd, vs, ccs, tf, hcode, hvs⟩ := I.file
  obtain ⟨cl, cld, csl, hcell⟩ := I.cell
  obtain ⟨nm, q, N, bs, bm, sn, sub, ab, col, dd, k0, k1, k2, k3, k5, hC, hbm⟩ := I.excObj X
  obtain ⟨mg, hg, hgs⟩ := G.sup
  obtain ⟨mb, hb, hbs⟩ := G.blt
  obtain ⟨cd, hcd⟩ : ∃ cd, PySem.W.clsIn K C = some cd := by
    have := I.sup
    unfold PySem.W.ks_superIn at this
    cases hc : PySem.W.clsIn K C with
    | none => rw [hc] at this; cases this
    | some cd => exact ⟨cd, rfl⟩
  have hal : PySem.W.alongIn K "__init__" ((cd.mro.dropWhile (· != .ref C)).drop 1) = some (some (.builtin "ValueError.__init__")) := by
    have := I.sup
    unfold PySem.W.ks_superIn at this
    rw [hcd] at this
    exact this
  obtain ⟨hh, g, d, t, os⟩ := s
  have IA : PySem.W.InstAt hh e (PySem.HandSPX.excO C t0) C none := ⟨he, rfl, rfl, trivial⟩
  refine ks_wpAt_Expr_any ?_ hint hsw
  refine ks_wpAt_MethodCall (pl := pl) ?_ hev
  refine ks_wpAt_super_base (f := fI) (cc := cda) (ar := ar) (file := P.main.file) (tf := tf) hks hkc rfl rfl (X _ _ hfI) rfl har rfl (X _ _ hcode) rfl hvs (by simp) htop ?_
  refine PySem.W.ks_loadName_global hk hks (Calls.loadGlobal_builtin (env := iEnv qual sc L fI cda cc) hg hgs hb hbs ⟨rfl, ?_⟩)
  refine wpAny_loadName_free hk hkc rfl ⟨_, X _ _ hcell, rfl⟩ ?_
  rw [ha]
  refine wpAny_loadName_local hk hka hL hself ?_
  refine ks_wpAny_isType_cls hC rfl ⟨rfl, ?_⟩
  refine ks_wpAny_call_super hC rfl he rfl (fun c z => by cases z) (PySem.W.looks_mroIn X I.msub) (fun h' e' k => ?_)
  have X' : K.In h' := fun b o z => k _ _ (X b o z)
  have IA' : PySem.W.InstAt h' e (PySem.HandSPX.excO C t0) C none := ⟨k _ _ he, rfl, rfl, trivial⟩
  refine PySem.W.kxs_getMethod PySem.W.kxs_ValueError e' (PySem.W.looks_opaque X' I.opq) (l₀ := cd.mro) ?_ rfl X' hal (IA'.type.andThen (PySem.W.looks_subIn X' I.isV)) (PySem.W.ks_ne X IA hcd) (by decide) ?_
  · exact fun A Q E s k q => wpAny_bind ((PySem.W.looks_clsIn X' hcd) A _ E s k (wpAny_pure q))
  rw [hst]
  refine PySem.W.kxs_callWith (i := "ValueError.__init__") (x := e) (by show (false || (backTo p3 (starEach es (iEnv qual sc L fI cda cc))).any (·.1)) = false; rw [hpl]; rfl) ?_
  refine Calls.evalArgs_plain ?_
  have k2 : ∀ b o, hh.get? b = some o → (h'.push (PySem.W.kxs_mw "ValueError.__init__" e)).get? b = some o := fun b o z => Heap.get?_push_of_some _ (k b o z)
  have hu : (h'.push (PySem.W.kxs_mw "ValueError.__init__" e)).get? h'.objs.size = some (PySem.W.kxs_mw "ValueError.__init__" e) := Heap.get?_push_at rfl rfl
  have hsp1 := hsp ⟨h'.push (PySem.W.kxs_mw "ValueError.__init__" e), g, d, t + 1, os⟩
  rw [hst] at hsp1
  refine hsp1 _ _ (hL.at fun o z => k2 _ _ z) ?_
  refine ⟨hu, ?_⟩
  refine wpAny_call (codeAny_of_tree ?_)
  show wpAny _ A.in1 (callAny (.ref h'.objs.size) ⟨us, []⟩) _ _ _
  simp only [callAny]
  refine wpAny_bind (wpAny_load hu ?_)
  simp only [PySem.W.kxs_mw, show (Value.type "method-wrapper" == Value.type "method" || Value.type "method-wrapper" == Value.type "builtin_function_or_method" || Value.type "method-wrapper" == Value.type "method-wrapper") = true by decide, if_true]
  refine PySem.W.KFB.if_so (by decide) ?_
  refine wpAny_bind (PySem.W.check_bound_init F.excBase_ValueError.toExcCallFacts (k2 _ _ hC) (k2 _ _ he) rfl ?_)
  refine wpAny_bind (wpAny_pure (wpAny_pure ?_))
  refine ⟨plainId_quiet F.excBase_ValueError.init.plain _, codeAny_builtin F.excBase_ValueError.initEntry ?_⟩
  refine PySem.W.exc_init_tree (cls := .ref C) (t0 := t0) (dv := none) (c2 := .none) (c3 := .none) (b4 := .bool false) (k2 _ _ he) hus (fun h2 kk e2 _ => ?_)
  exact hq h2 _ _ (fun b o hb z => kk b o hb (k2 b o z)) e2
/-- self.f = f -/
theorem store_1 (I : InitK P K C fI cda cc qual params body sc fs) {s : Shared} {L e t0 : Addr} {m : Str → Option Value} {p0 p1 p2 p3 : Pos} {f : Str} {u : Value} {Q : Flow → Shared → Prop}
    (X : K.In s.heap) (hL : s.heap.Ns L m) (he : s.heap.get? e = some (PySem.HandSPX.excO C t0)) (hself : m "self" = some (.ref e)) (hf : m f = some u) (hka : sc.names.lookup ("self" : Str) = some .local) (hkf : sc.names.lookup f = some .local) (hk : sc.kind = .function) (hff : f ∈ fs) (hd : (f == ("__debug__" : Str)) = false)
    (hsw : swapsWith (.Name f p2) (some (.Attribute (.Name "self" p0) f p1)) p3.line (iEnv qual sc L fI cda cc) = pure false)
    (hq : ∀ h' tk dx, (∀ b o, b ≠ e → s.heap.get? b = some o → h'.get? b = some o) → s.heap.objs.size ≤ dx → dx ≠ e → h'.get? e = some { cls := .ref C, dict := some dx, data := .fields #[.ref t0, .none, .none, .none, .bool false, .none] } →
      h'.Ns1 dx (fun y => if y = f then some u else none) → Q .next { s with heap := h', toks := tk }) :
    wpAny (model P w) A (exec (.Assign [.Attribute (.Name "self" p0) f p1] (.Name f p2) p3) (iEnv qual sc L fI cda cc)) Q E s := by
  obtain ⟨nm, q, N, bs, bm, sn, sub, ab, col, dd, k0, k1, k2, k3, k5, hC, hbm⟩ := I.oex.cls
  have hcl : PySem.W.clsIn K C = some { name := nm, bases := bs, mro := .ref C :: bm, ns := N, qualname := q, hasDict := true, slotNames := sn, subclasses := sub, abstract := ab, collection := col, hasDel := false } := by unfold PySem.W.clsIn; rw [hC] <;> rfl
  obtain ⟨hp, g, d, t, os⟩ := s
  refine plainObj_wpAny_Assign_Attribute ?_ hsw
  refine wpAny_Name (wpAny_loadName_local hk hkf hL hf ?_) hd
  refine wpAny_Name (wpAny_loadName_local hk hka hL hself ?_) (by decide)
  refine PySem.W.set_plain X (ox := PySem.HandSPX.excO C t0) (od := none) ⟨he, rfl, rfl, trivial⟩ I.oex.sa ?_
  refine PySem.HandSPX.exc_osa X he hcl (show PySem.HandSPX.refsVE (.ref C :: bm) = true from hbm) rfl (I.noat f hff) (fun h' tk' dx k dn dne hx hn => ?_)
  exact hq h' tk' dx k dn dne hx hn
theorem store_2 (I : InitK P K C fI cda cc qual params body sc fs) {s : Shared} {L e t0 dx : Addr} {m m0 : Str → Option Value} {p0 p1 p2 p3 : Pos} {f : Str} {u : Value} {Q : Flow → Shared → Prop} {ns : List Str}
    (X : K.In s.heap) (hL : s.heap.Ns L m) (he : s.heap.get? e = some { cls := .ref C, dict := some dx, data := .fields #[.ref t0, .none, .none, .none, .bool false, .none] }) (hns : s.heap.Ns1 dx m0) (hw : Within m0 ns) (hz : ns.length ≤ 1000)
    (hself : m "self" = some (.ref e)) (hf : m f = some u) (hka : sc.names.lookup ("self" : Str) = some .local) (hkf : sc.names.lookup f = some .local) (hk : sc.kind = .function) (hff : f ∈ fs) (hd : (f == ("__debug__" : Str)) = false)
    (hsw : swapsWith (.Name f p2) (some (.Attribute (.Name "self" p0) f p1)) p3.line (iEnv qual sc L fI cda cc) = pure false)
    (hq : ∀ h' tk, (∀ b o, b ≠ dx → s.heap.get? b = some o → h'.get? b = some o) → h'.Ns1 dx (fun y => if y = f then some u else m0 y) → Q .next { s with heap := h', toks := tk }) :
    wpAny (model P w) A (exec (.Assign [.Attribute (.Name "self" p0) f p1] (.Name f p2) p3) (iEnv qual sc L fI cda cc)) Q E s := by
  obtain ⟨nm, q, N, bs, bm, sn, sub, ab, col, dd, k0, k1, k2, k3, k5, hC, hbm⟩ := I.oex.cls
  have hcl : PySem.W.clsIn K C = some { name := nm, bases := bs, mro := .ref C :: bm, ns := N, qualname := q, hasDict := true, slotNames := sn, subclasses := sub, abstract := ab, collection := col, hasDel := false } := by unfold PySem.W.clsIn; rw [hC] <;> rfl
  obtain ⟨hp, g, d, t, os⟩ := s
  obtain ⟨oD, _, _, hoD, _, _⟩ := hns.count hw
  refine plainObj_wpAny_Assign_Attribute ?_ hsw
  refine wpAny_Name (wpAny_loadName_local hk hkf hL hf ?_) hd
  refine wpAny_Name (wpAny_loadName_local hk hka hL hself ?_) (by decide)
  refine PySem.W.set_plain X (od := some oD) ⟨he, rfl, rfl, hoD⟩ I.oex.sa ?_
  refine PySem.OEX.osa_old X he hns hw hz hcl (show PySem.HandSPX.refsVE (.ref C :: bm) = true from hbm) rfl (I.noat f hff) (fun h' tk' k hn => ?_)
  exact hq h' tk' k hn
end
end Z

namespace Z
open PySem PySem.Spec PyProof.Rows L2
set_option autoImplicit false

section
variable {P : Program} {w : World} {A : Around} {E : Value → Shared → Prop} {K : PySem.W.Frag} {C fI cda cc : Addr} {qual : Str} {params : Arguments} {body : List Stmt} {sc : Scope} {fs : List Str}
/-- what is asked of the scope of an __init__ -/
structure InitS (P : Program) (params : Arguments) (qual : Str) (sc : Scope) (fs : List Str) : Prop where
  ks : sc.names.lookup ("super" : Str) = some .globalImplicit
  kc : sc.names.lookup ("__class__" : Str) = some .free
  ka : sc.names.lookup ("self" : Str) = some .local
  kf : ∀ f ∈ fs, sc.names.lookup f = some .local
  kd : ∀ f ∈ fs, (f == ("__debug__" : Str)) = false
  k : sc.kind = .function
  co : sc.isCoroutine = false
  gen : sc.isGenerator = false
  cell : ∀ x ∈ sc.names, x.2 ≠ .cell
  top : (P.main.scope.names.lookup ("super" : Str)).isSome = false
  ar : ∃ ar, (params.posonlyargs ++ params.args).head? = some ar ∧ ar.arg = "self"
  nd : ((("self" : Str)) :: fs).Nodup
  bind : ∀ (kV doc pm : Value) (an : Option Addr) (cdv ct : Value) (cc : Addr) (us : List Value), us.length = fs.length + 1 → bindArgs (PySem.W.ksFn "__init__" qual params [] sc .none kV doc pm an cdv ct cc) ⟨us, []⟩ = pure (((("self" : Str)) :: fs).zip us)
theorem bind_body {q : Str} {kV doc pm : Value} {an : Option Addr} {cdv ct : Value} {cc : Addr} {a : Args} : bindArgs (PySem.W.ksFn "__init__" q params body sc .none kV doc pm an cdv ct cc) a = bindArgs (PySem.W.ksFn "__init__" q params [] sc .none kV doc pm an cdv ct cc) a := rfl
/-- the entry of the __init__ -/
theorem init_enter (I : InitK P K C fI cda cc qual params body sc fs) (S : InitS P params qual sc fs) {s : Shared} {e t0 : Addr} {us : List Value} {R : Result → Shared → Prop} (hl : us.length = fs.length)
    (X : K.In s.heap) (nl : s.heap.NoLimit) (hroom : A.depth < recursionLimit)
    (h : ∀ h1 (m : Str → Option Value), h1.Ns s.heap.objs.size m → (∀ b o, s.heap.get? b = some o → h1.get? b = some o) → m "self" = some (.ref e) → (∀ (i : Nat) (f : Str) (u : Value), fs[i]? = some f → us[i]? = some u → m f = some u) →
      PySem.wpAt (model P w) (A.deeper (iEnv qual sc s.heap.objs.size fI cda cc)) (.func body (iEnv qual sc s.heap.objs.size fI cda cc)) (execs body (iEnv qual sc s.heap.objs.size fI cda cc)) (fun f s' => R (.ok (.ret (match f with | .ret v => v | _ => .none))) s')
        (fun e s' => wpAny (model P w) (A.deeper (iEnv qual sc s.heap.objs.size fI cda cc)) (leaving (iEnv qual sc s.heap.objs.size fI cda cc) e) (fun _ s'' => R (.error e) s'') (fun e' s'' => R (.error e') s'') s')
        { s with heap := h1, toks := s.toks + (((("self" : Str)) :: fs).zip (Value.ref e :: us)).length }) : codeAny (model P w) A (.call (.ref fI) ⟨.ref e :: us, []⟩) R s := by
  obtain ⟨oc, od, osl, kV, doc, pm, an, ct, hfI⟩ := I.fn
  refine ks_codeAny_call_defAt (binds := ((("self" : Str)) :: fs).zip (Value.ref e :: us)) hroom (X _ _ hfI) rfl nl (PySem.W.codeRec_of X I.code) rfl (.of_eq (bind_body.trans (S.bind _ _ _ _ _ _ _ _ (by simp [hl])))) S.cell ?_ (fun h1 hns k1 => ?_) S.co S.gen S.k
  · intro x hx
    have := (List.of_mem_zip (show (x.1, x.2) ∈ _ from hx)).1
    rcases List.mem_cons.mp this with e | hm
    · rw [e]; exact S.ka
    · exact S.kf _ hm
  · refine h h1 _ hns k1 ?_ ?_
    · have nd := (List.nodup_cons.mp S.nd).1
      have : ∀ (l : List (Str × Value)), (∀ p ∈ l, p.1 ≠ ("self" : Str)) → (l ++ [(("self" : Str), Value.ref e)]).lookup ("self" : Str) = some (.ref e) := by
        intro l
        induction l with
        | nil => intro _; rfl
        | cons p l ih =>
          intro hp
          obtain ⟨a, b⟩ := p
          have h1 := hp (a, b) List.mem_cons_self
          rw [List.cons_append, List.lookup_cons, show (("self" : Str) == a) = false from by simpa using fun z => h1 z.symm]
          exact ih fun q hq => hp q (List.mem_cons_of_mem _ hq)
      show (List.reverse ((("self" : Str), Value.ref e) :: fs.zip us)).lookup ("self" : Str) = _
      rw [List.reverse_cons]
      refine this _ fun p hp z => nd ?_
      have := (List.of_mem_zip (show (p.1, p.2) ∈ fs.zip us from List.mem_reverse.mp hp)).1
      rw [z] at this; exact this
    · intro i f u hf hu
      have key : ∀ (l : List (Str × Value)) (i : Nat), (l.map (·.1)).Nodup → l[i]? = some (f, u) → l.reverse.lookup f = some u := by
        intro l
        induction l with
        | nil => intro i _ h; simp at h
        | cons p l ih =>
          intro i nd h
          obtain ⟨a, b⟩ := p
          obtain ⟨nd1, nd2⟩ : a ∉ l.map (·.1) ∧ (l.map (·.1)).Nodup := List.nodup_cons.mp nd
          have app : ∀ (r : List (Str × Value)) (x : Str) (y : Str × Value), (r ++ [y]).lookup x = match r.lookup x with | some z => some z | none => if x = y.1 then some y.2 else none := by
            intro r x y
            induction r with
            | nil =>
              obtain ⟨y1, y2⟩ := y
              rw [List.nil_append, List.lookup_cons]
              by_cases e : x = y1
              · subst e; simp
              · simp [show (x == y1) = false by simpa using e, e]
            | cons q r ihr =>
              obtain ⟨q1, q2⟩ := q
              rw [List.cons_append, List.lookup_cons, List.lookup_cons]
              cases x == q1 with
              | true => rfl
              | false => exact ihr
          rw [List.reverse_cons, app]
          cases i with
          | zero =>
            have h : (a, b) = (f, u) := by simpa using h
            cases h
            cases z : l.reverse.lookup f with
            | none => simp
            | some v =>
              exfalso
              refine nd1 ?_
              have mem : ∀ (r : List (Str × Value)), r.lookup f = some v → f ∈ r.map (·.1) := by
                intro r
                induction r with
                | nil => intro h; cases h
                | cons q r ihr =>
                  obtain ⟨q1, q2⟩ := q
                  intro h
                  rw [List.lookup_cons] at h
                  cases e : f == q1 with
                  | true => simp [eq_of_beq e]
                  | false => rw [e] at h; exact List.mem_cons_of_mem _ (ihr h)
              have := mem _ z
              simpa using this
          | succ i =>
            rw [ih i nd2 (by simpa using h)]
      refine key ((("self" : Str), Value.ref e) :: fs.zip us) (i + 1) ?_ ?_
      · rw [List.map_cons, List.map_fst_zip (by omega)]
        exact S.nd
      · rw [List.getElem?_cons_succ, List.getElem?_zip_eq_some]
        exact ⟨hf, hu⟩
end
end Z

namespace Z
open PySem PySem.Spec PyProof.Rows L2
set_option autoImplicit false

abbrev supB (p0 p1 p2 p3 p4 : Pos) (es : List Expr) : Stmt := .Expr (.Call (.Attribute (.Call (.Name "super" p0) [] [] p1) "__init__" p2) es [] p3) p4
abbrev EvS (p0 p1 p2 p3 : Pos) (es : List Expr) (pl : Sem Bool) : Prop := ∀ (qual : Str) (sc : Scope) (L fI cda cc : Addr), eval (.Call (.Attribute (.Call (.Name "super" p0) [] [] p1) "__init__" p2) es [] p3) (iEnv qual sc L fI cda cc) = (do
      let ov ← attributeBase (.Call (.Name "super" p0) [] [] p1) "__init__" (iEnv qual sc L fI cda cc) (eval (.Call (.Name "super" p0) [] [] p1) (iEnv qual sc L fI cda cc))
      standAt p2.atName
      let (f, first) ← holding [ov] (getMethod ov "__init__" pl)
      callWith p3 f first (backTo p3 (starEach es (iEnv qual sc L fI cda cc))) [])
abbrev stB (f : Str) (p0 p1 p2 p3 : Pos) : Stmt := .Assign [.Attribute (.Name "self" p0) f p1] (.Name f p2) p3
/-- what the making of an error leaves -/
structure MadeE (h h' : Heap) (C e dx : Addr) (fvs : List (Str × Value)) : Prop where
  keep : ∀ b o, h.get? b = some o → h'.get? b = some o
  ne : h.objs.size ≤ e
  ndx : h.objs.size ≤ dx
  dne : dx ≠ e
  at_ : ∃ t1 : Addr, h'.get? e = some { cls := .ref C, dict := some dx, data := .fields #[.ref t1, .none, .none, .none, .bool false, .none] }
  ns : ∃ m, h'.Ns1 dx m ∧ ∀ f, m f = fvs.lookup f
section
variable {P : Program} {w : World} {A : Around} {E : Value → Shared → Prop} {K : PySem.W.Frag} {C fI cda cc : Addr} {qual : Str} {params : Arguments} {body : List Stmt} {sc : Scope} {fs : List Str}
/-- a name of the entry -/
theorem ld_par {e : PySem.Env} {L : Addr} {m : Str → Option Value} {s : Shared} {f : Str} {u : Value} {p : Pos} {M : Model} {Q : Value → Shared → Prop} (hk : e.scope.kind = .function) (hl : e.kindOf f = some .local) (hL : e.locals = L) (hn : s.heap.Ns L m) (hf : m f = some u) (hd : (f == ("__debug__" : Str)) = false) (q : Q u s) : wpAny M A (eval (.Name f p) e) Q E s := by
  subst hL
  exact wpAny_Name (wpAny_loadName_local hk hl hn hf q) hd
theorem init_2 {f1 f2 : Str} {p0 p1 p2 p3 p4 q0 q1 q2 q3 r0 r1 r2 r3 n1 n2 : Pos}
    (I : InitK P K C fI cda cc qual params [supB p0 p1 p2 p3 p4 [.Name f1 n1, .Name f2 n2], stB f1 q0 q1 q2 q3, stB f2 r0 r1 r2 r3] sc [f1, f2]) (S : InitS P params qual sc [f1, f2]) {pl : Sem Bool} (hev : EvS p0 p1 p2 p3 [.Name f1 n1, .Name f2 n2] pl) {s : Shared} {e t0 : Addr} {u1 u2 : Value} {R : Result → Shared → Prop}
    (X : K.In s.heap) (G : GlH s.heap) (nl : s.heap.NoLimit) (hroom : A.depth < recursionLimit) (he : s.heap.get? e = some (PySem.HandSPX.excO C t0)) (hKe : ∀ b o, K.lookup b = some o → b ≠ e)
    (hq : ∀ h' tk dx, (∀ b o, b ≠ e → s.heap.get? b = some o → h'.get? b = some o) → s.heap.objs.size ≤ dx → dx ≠ e → (∃ t1 : Addr, h'.get? e = some { cls := .ref C, dict := some dx, data := .fields #[.ref t1, .none, .none, .none, .bool false, .none] }) →
      (∃ m, h'.Ns1 dx m ∧ ∀ f, m f = [(f1, u1), (f2, u2)].lookup f) → R (.ok (.ret .none)) { s with heap := h', toks := tk }) :
    codeAny (model P w) A (.call (.ref fI) ⟨[.ref e, u1, u2], []⟩) R s := by
  obtain ⟨ar, har, hara⟩ := S.ar
  have nd1 : f1 ≠ f2 := by
    have := (List.nodup_cons.mp (List.nodup_cons.mp S.nd).2).1
    intro z; exact this (by rw [z]; exact List.mem_singleton.mpr rfl)
  refine init_enter (t0 := t0) I S rfl X nl hroom fun h1 m hns k1 hself hfs => ?_
  have g1 : m f1 = some u1 := hfs 0 f1 u1 rfl rfl
  have g2 : m f2 = some u2 := hfs 1 f2 u2 rfl rfl
  have X1 : K.In h1 := fun b o z => k1 _ _ (X b o z)
  have G1 : GlH h1 := ⟨let ⟨mg, a, b⟩ := G.sup; ⟨mg, a.at fun o z => k1 _ _ z, b⟩, let ⟨mg, a, b⟩ := G.blt; ⟨mg, a.at fun o z => k1 _ _ z, b⟩⟩
  refine ks_wpAt_execs_cons ?_
  refine super_run I X1 G1 hns (k1 _ _ he) hself har hara S.ks S.kc S.ka S.k S.top (us := [u1, u2]) ?_ (by rw [sizeLine_eq]; simp) (hev _ _ _ _ _ _) rfl rfl (by rfl) ?_ fun h2 tk t1 k2 e2 => ?_
  · intro s1 Q1 E1 hn q1
    refine Calls.spliced_cons (ld_par (L := s.heap.objs.size) S.k (S.kf f1 (by simp)) rfl hn g1 (S.kd f1 (by simp)) ?_)
    refine Calls.spliced_cons (ld_par (L := s.heap.objs.size) S.k (S.kf f2 (by simp)) rfl hn g2 (S.kd f2 (by simp)) ?_)
    exact Calls.spliced_nil q1
  · unfold interactive
    have := S.k
    simp [this]
  have xL : s.heap.objs.size ≠ e := Nat.ne_of_gt (Heap.lt_size he)
  have L2' : h2.Ns s.heap.objs.size m := hns.at fun o z => k2 _ _ xL z
  have X2 : K.In h2 := fun b o z => k2 _ _ (hKe b o z) (X1 b o z)
  show PySem.wpAt _ _ _ (execs [stB f1 q0 q1 q2 q3, stB f2 r0 r1 r2 r3] (iEnv qual sc s.heap.objs.size fI cda cc)) _ _ _
  refine wpAt_of_wpAny (wpAny_execs_cons ?_)
  refine store_1 I X2 L2' e2 hself g1 S.ka (S.kf f1 (by simp)) S.k (by simp) (S.kd f1 (by simp)) (by rfl) fun h3 tk3 dx k3 ndx ne3 e3 ns3 => ?_
  have X3 : K.In h3 := fun b o z => k3 _ _ (hKe b o z) (X2 b o z)
  have L3 : h3.Ns s.heap.objs.size m := L2'.at fun o z => k3 _ _ xL z
  have sz2 : s.heap.objs.size ≤ dx := by
    obtain ⟨oL, esL, epL, hL, _⟩ := L2'
    exact Nat.le_trans (Nat.le_of_lt (Heap.lt_size hL)) ndx
  have dL : s.heap.objs.size ≠ dx := by
    obtain ⟨oL, esL, epL, hL, _⟩ := L2'
    have := Heap.lt_size hL
    have : s.heap.objs.size < dx := Nat.lt_of_lt_of_le this ndx
    omega
  show wpAny _ _ (execs [stB f2 r0 r1 r2 r3] (iEnv qual sc s.heap.objs.size fI cda cc)) _ _ _
  refine wpAny_execs_cons ?_
  refine store_2 I X3 L3 e3 ns3 (ns := [f1]) (fun y hy => ?_) (by simp) hself g2 S.ka (S.kf f2 (by simp)) S.k (by simp) (S.kd f2 (by simp)) (by rfl) fun h4 tk4 k4 ns4 => ?_
  · by_cases e : y = f1
    · rw [e]; exact List.mem_singleton.mpr rfl
    · exact absurd (if_neg e) hy
  show wpAny _ _ (execs [] (iEnv qual sc s.heap.objs.size fI cda cc)) _ _ _
  refine wpAny_execs_nil ?_
  refine hq h4 _ dx (fun b o hb z => ?_) sz2 ne3 ⟨_, k4 _ _ (Ne.symm ne3) e3⟩ ⟨_, ns4, fun f => ?_⟩
  · have z3 := k3 _ _ hb (k2 _ _ hb (k1 _ _ z))
    have : b ≠ dx := Nat.ne_of_lt (Nat.lt_of_lt_of_le (Heap.lt_size z) sz2)
    exact k4 _ _ this z3
  · simp only [List.lookup_cons, List.lookup_nil]
    by_cases e1 : f = f1
    · subst e1
      simp [nd1]
    · have : (f == f1) = false := by simpa using e1
      rw [this]
      by_cases e2 : f = f2
      · subst e2; simp
      · have : (f == f2) = false := by simpa using e2
        rw [this, if_neg e2, if_neg e1]
theorem init_1 {f1 : Str} {p0 p1 p2 p3 p4 q0 q1 q2 q3 n1 : Pos}
    (I : InitK P K C fI cda cc qual params [supB p0 p1 p2 p3 p4 [.Name f1 n1], stB f1 q0 q1 q2 q3] sc [f1]) (S : InitS P params qual sc [f1]) {pl : Sem Bool} (hev : EvS p0 p1 p2 p3 [.Name f1 n1] pl) {s : Shared} {e t0 : Addr} {u1 : Value} {R : Result → Shared → Prop}
    (X : K.In s.heap) (G : GlH s.heap) (nl : s.heap.NoLimit) (hroom : A.depth < recursionLimit) (he : s.heap.get? e = some (PySem.HandSPX.excO C t0)) (hKe : ∀ b o, K.lookup b = some o → b ≠ e)
    (hq : ∀ h' tk dx, (∀ b o, b ≠ e → s.heap.get? b = some o → h'.get? b = some o) → s.heap.objs.size ≤ dx → dx ≠ e → (∃ t1 : Addr, h'.get? e = some { cls := .ref C, dict := some dx, data := .fields #[.ref t1, .none, .none, .none, .bool false, .none] }) →
      (∃ m, h'.Ns1 dx m ∧ ∀ f, m f = [(f1, u1)].lookup f) → R (.ok (.ret .none)) { s with heap := h', toks := tk }) :
    codeAny (model P w) A (.call (.ref fI) ⟨[.ref e, u1], []⟩) R s := by
  obtain ⟨ar, har, hara⟩ := S.ar
  refine init_enter (t0 := t0) I S rfl X nl hroom fun h1 m hns k1 hself hfs => ?_
  have g1 : m f1 = some u1 := hfs 0 f1 u1 rfl rfl
  have X1 : K.In h1 := fun b o z => k1 _ _ (X b o z)
  have G1 : GlH h1 := ⟨let ⟨mg, a, b⟩ := G.sup; ⟨mg, a.at fun o z => k1 _ _ z, b⟩, let ⟨mg, a, b⟩ := G.blt; ⟨mg, a.at fun o z => k1 _ _ z, b⟩⟩
  refine ks_wpAt_execs_cons ?_
  refine super_run I X1 G1 hns (k1 _ _ he) hself har hara S.ks S.kc S.ka S.k S.top (us := [u1]) ?_ (by rw [sizeLine_eq]; simp) (hev _ _ _ _ _ _) rfl rfl (by rfl) ?_ fun h2 tk t1 k2 e2 => ?_
  · intro s1 Q1 E1 hn q1
    refine Calls.spliced_cons (ld_par (L := s.heap.objs.size) S.k (S.kf f1 (by simp)) rfl hn g1 (S.kd f1 (by simp)) ?_)
    exact Calls.spliced_nil q1
  · unfold interactive
    have := S.k
    simp [this]
  have xL : s.heap.objs.size ≠ e := Nat.ne_of_gt (Heap.lt_size he)
  have L2' : h2.Ns s.heap.objs.size m := hns.at fun o z => k2 _ _ xL z
  have X2 : K.In h2 := fun b o z => k2 _ _ (hKe b o z) (X1 b o z)
  show PySem.wpAt _ _ _ (execs [stB f1 q0 q1 q2 q3] (iEnv qual sc s.heap.objs.size fI cda cc)) _ _ _
  refine wpAt_of_wpAny (wpAny_execs_cons ?_)
  refine store_1 I X2 L2' e2 hself g1 S.ka (S.kf f1 (by simp)) S.k (by simp) (S.kd f1 (by simp)) (by rfl) fun h3 tk3 dx k3 ndx ne3 e3 ns3 => ?_
  have sz2 : s.heap.objs.size ≤ dx := by
    obtain ⟨oL, esL, epL, hL, _⟩ := L2'
    exact Nat.le_trans (Nat.le_of_lt (Heap.lt_size hL)) ndx
  show wpAny _ _ (execs [] (iEnv qual sc s.heap.objs.size fI cda cc)) _ _ _
  refine wpAny_execs_nil ?_
  refine hq h3 _ dx (fun b o hb z => k3 _ _ hb (k2 _ _ hb (k1 _ _ z))) sz2 ne3 ⟨_, e3⟩ ⟨_, ns3, fun f => ?_⟩
  simp only [List.lookup_cons, List.lookup_nil]
  by_cases e1 : f = f1
  · subst e1
    simp
  · have : (f == f1) = false := by simpa using e1
    rw [this, if_neg e1]
end
end Z

namespace Z
open PySem PySem.Spec PyProof.Rows L2
set_option autoImplicit false

/-- an error class whose making is known -/
structure ErrC (P : Program) (K : PySem.W.Frag) (C fI : Addr) (fs : List Str) : Prop where
  oex : OexC K C
  ini : PySem.W.findIn K (.ref C) "__init__" = some (some (.ref fI))
  tyI : PySem.W.typeIn K (.ref fI) = some (.type "function")
  few : fs.length ≤ 2
  run : ∀ (w : World) (A : Around) (R : Result → Shared → Prop) (s : Shared) (e t0 : Addr) (us : List Value), us.length = fs.length → K.In s.heap → GlH s.heap → s.heap.NoLimit → A.depth < recursionLimit → s.heap.get? e = some (PySem.HandSPX.excO C t0) → (∀ b o, K.lookup b = some o → b ≠ e) →
    (∀ h' tk dx, (∀ b o, b ≠ e → s.heap.get? b = some o → h'.get? b = some o) → s.heap.objs.size ≤ dx → dx ≠ e → (∃ t1 : Addr, h'.get? e = some { cls := .ref C, dict := some dx, data := .fields #[.ref t1, .none, .none, .none, .bool false, .none] }) →
      (∃ m, h'.Ns1 dx m ∧ ∀ f, m f = (fs.zip us).lookup f) → R (.ok (.ret .none)) { s with heap := h', toks := tk }) →
    codeAny (model P w) A (.call (.ref fI) ⟨.ref e :: us, []⟩) R s
theorem zip_relO : ∀ {fs : List Str} {vs : List V} {us : List Value}, Vals vs us → ∀ f, RelO ((fs.zip vs).lookup f) ((fs.zip us).lookup f)
  | [], _, _, _, f => trivial
  | _ :: _, [], [], _, f => trivial
  | g :: fs, v :: vs, u :: us, .cons r t, f => by
    rw [List.zip_cons_cons, List.zip_cons_cons, List.lookup_cons, List.lookup_cons]
    cases f == g with
    | true => exact r
    | false => exact zip_relO t f
theorem glH_of {X : Cx} {pins : List (Addr × Obj)} {σ : L2.St} {H : Hp} {s : Shared} (I : Inv X pins σ H s) (hm : X.mg "super" = none) {h : Heap} (k : ∀ b o, s.heap.get? b = some o → h.get? b = some o) : GlH h := by
  obtain ⟨mb, h1, h2⟩ := I.mod.blt
  exact ⟨⟨_, I.mod.glob.keeps fun b o z => k _ _ (I.bk b o z), hm⟩, ⟨mb, h1.keeps fun b o z => k _ _ (I.bk b o z), (h2 _ (by decide)).trans (by decide +kernel)⟩⟩
def tMkE (C : Addr) (fs : List Str) (ta : TA) : L2.St → Hp → XK → Prop := fun σ H Q => ta σ H fun vs H1 => vs.length = fs.length ∧ ∀ d, H1 d = none → Q (.ref C) (some d) (upd H1 d (.xd (fs.zip vs)))
section
variable {X : Cx} {C fI : Addr} {fs : List Str} {x : Str} {e : Expr} {es : List Expr} {ta : TA} {p pos : Pos}
theorem made_mkP {pins : List (Addr × Obj)} {σ : L2.St} {H1 : Hp} {Q : XK} {s1 : Shared} {h' : Heap} {tk : Nat} {a dx t1 : Addr} {vs : List V} {us : List Value} {m : Str → Option Value} (T : Raises X (.ref C)) (I1 : Inv X pins σ H1 s1) (r1 : Vals vs us)
    (k : ∀ b o, s1.heap.get? b = some o → h'.get? b = some o) (ha : s1.heap.objs.size ≤ a) (hd : s1.heap.objs.size ≤ dx) (dne : dx ≠ a) (hat : h'.get? a = some ({ cls := .ref C, dict := some dx, data := .fields #[.ref t1, .none, .none, .none, .bool false, .none] } : Obj))
    (hns : h'.Ns1 dx m) (hmf : ∀ f, m f = (fs.zip us).lookup f) (q : Q (.ref C) (some dx) (upd H1 dx (.xd (fs.zip vs)))) : MkP X pins σ Q (.ref a) { s1 with heap := h', toks := tk } := by
  obtain ⟨G, g1', g2'⟩ := restrict h' fun b => decide (b ≠ a)
  have gk : ∀ b, b ≠ a → G.get? b = h'.get? b := fun b hb => g1' b (decide_eq_true hb)
  have ge : G.get? a = none := g2' a (by simp)
  have nb : ∀ b o, s1.heap.get? b = some o → b ≠ a := fun b o z => Nat.ne_of_lt (Nat.lt_of_lt_of_le (Heap.lt_size z) ha)
  have J : Inv X pins σ (upd H1 dx (.xd (fs.zip vs))) { s1 with heap := G, toks := tk } := I1.laid (t' := tk) (a := dx) (o := .xd (fs.zip vs)) (h' := G) (fun b o z => (gk b (nb b o z)).trans (k b o z)) hd
    ⟨m, hns.at fun o y => (gk dx dne).trans y, fun f => by rw [hmf f]; exact zip_relO r1 f⟩
  refine ⟨a, _, _, { s1 with heap := G, toks := tk }, _, .ref C, some dx, rfl, J, fun b o z => ?_, ge, hat, ⟨rfl, rfl⟩, rfl, rfl, ?_, rfl, I1.bare, T, q⟩
  · by_cases hba : b = a
    · rw [hba, ge] at z; cases z
    · exact (gk b hba).symm.trans z
  · rw [upd_ne (Ne.symm dne)]; exact I1.hok.fresh ha
theorem pmk_err (T : ErrC X.prog X.K C fI fs) (hms : X.mg "super" = none) (hr : Room 1 X.A) (hg : Gl X x) (hm : X.mg x = some (.ref C)) (ha : PA X (e :: es) ta)
    (hdb : (x == ("__debug__" : Str)) = false := by decide) (he : starEach (e :: es) X.env = (false, eval e X.env) :: starEach es X.env := by rfl) (hpl : (backTo pos (starEach es X.env)).any (·.1) = false := by rfl) :
    PMk X (.Call (.Name x p) (e :: es) [] pos) (tMkE C fs ta) := by
  intro pins s σ H Q I h
  obtain ⟨nm, q, N, bs, bm, sn, sub, ab, col, dd, k0, k1, k2, k3, k5, hC, hbm⟩ := T.oex.cls
  refine wpAny_Call_Name_kw (ld_glob I hg hm ?_ hdb)
  refine PySem.W.callWith_K (h₀ := X.base) I.ok.mod.kin T.oex.kC (thn (ha.run pos pins s σ H _ I h) fun us s1 ⟨vs, H1, I1, r1, hz, q1⟩ => ⟨I1.kIn, ?_⟩) he hpl
  show wpAny _ _ (call (.ref C) us) _ _ _
  have hul : us.length = fs.length := by rw [← r1.length, hz]
  have hus : us.length ≤ sizeLine := by have := T.few; rw [sizeLine_eq]; omega
  have kk : ∀ b o, s1.heap.get? b = some o → ((s1.heap.push (PySem.W.kdv_tup us)).push (PySem.HandSPX.excO C s1.heap.objs.size)).get? b = some o := fun b o e => Heap.get?_push_of_some _ (Heap.get?_push_of_some _ e)
  have hget : ((s1.heap.push (PySem.W.kdv_tup us)).push (PySem.HandSPX.excO C s1.heap.objs.size)).get? (s1.heap.objs.size + 1) = some (PySem.HandSPX.excO C s1.heap.objs.size) := by heap_get
  have big : ((s1.heap.push (PySem.W.kdv_tup us)).push (PySem.HandSPX.excO C s1.heap.objs.size)).objs.size = s1.heap.objs.size + 2 := by simp [size_push']
  obtain ⟨hp, g, dr, tk, os⟩ := s1
  refine wpAny_call (PySem.HandSPX.call_own F.excBase_ValueError (fun Y => PySem.HandSPX.refsVE_contains Y bm hbm) (I1.kIn _ _ hC) (PySem.W.looks_findIn I1.kIn T.ini) (fun self => PySem.W.bind_fn I1.kIn self T.tyI) hus
    (T.run X.w _ _ ⟨(hp.push (PySem.W.kdv_tup us)).push (PySem.HandSPX.excO C hp.objs.size), g, dr, tk, os⟩ (hp.objs.size + 1) hp.objs.size us hul (fun b o z => kk _ _ (I1.kIn b o z)) (glH_of I1 hms kk) (I1.nolimit.keeps kk) ?_ hget
      (fun b o z => Nat.ne_of_lt (Nat.lt_succ_of_lt (Heap.lt_size (I1.kIn b o z)))) fun h' tk' dx k2 nd dne hat hns => ?_))
  · exact (hr.make C us []).depth
  · obtain ⟨t1, hat⟩ := hat
    obtain ⟨m, hns, hmf⟩ := hns
    rw [big] at nd
    refine ⟨rfl, ?_⟩
    exact made_mkP (s1 := ⟨hp, g, dr, tk, os⟩) (raises_own T.oex.exC T.oex.tyC) I1 r1 (fun b o z => k2 b o (Nat.ne_of_lt (Nat.lt_succ_of_lt (Heap.lt_size z))) (kk b o z)) (Nat.le_succ _) (Nat.le_trans (Nat.le_succ_of_le (Nat.le_succ _)) nd) dne hat hns hmf (q1 dx (I1.hok.fresh (Nat.le_trans (Nat.le_succ_of_le (Nat.le_succ _)) nd)))
end
/-! ### raise C(..) -/
def sRaise (c n : Nat) (m : EvL) : Sm := fun ρ g => match m ρ g with
  | .ok ds g1 => if ds.length = n then .exc ⟨c, ds⟩ ρ g1 else .bad
  | .exc x g1 => .exc x ρ g1
  | .bad => .bad
section
variable {T : Wd} {W : WX} {X : Cx} {C fI : Addr} {fs : List Str} {x : Str} {e : Expr} {es : List Expr} {m : EvL} {p pos pos' : Pos}
theorem ss_raise {c n : Nat} (ec : ErrC X.prog X.K C fI fs) (hT : T.ct c = .ref C) (hF : T.cf c = fs) (hn : n = fs.length) (hms : X.mg "super" = none) (hr : Room 1 X.A) (hc : X.calm = true) (tk : Takes X W) (hg : Gl X x) (hm : X.mg x = some (.ref C)) (ha : EAs T W X (e :: es) m)
    (hdb : (x == ("__debug__" : Str)) = false := by decide) (he : starEach (e :: es) X.env = (false, eval e X.env) :: starEach es X.env := by rfl) (hpl : (backTo pos (starEach es X.env)).any (·.1) = false := by rfl) :
    SS T W X (.Raise (some (.Call (.Name x p) (e :: es) [] pos)) none pos') (sRaise c n m) := by
  refine PS.imp (ps_raise hc tk (pmk_err ec hms hr hg hm ha hdb he hpl)) fun D' σ H ⟨E0, γ, ρ, g, S, q⟩ => ?_
  unfold sRaise at q
  refine ⟨γ, ρ, g, S.st, ?_⟩
  cases hm : m ρ g with
  | bad => rw [hm] at q; exact q
  | exc xc g1 =>
    rw [hm] at q
    intro cls dx ι' H' s1 G1 r1
    exact q _ _ _ _ _ (S.step s1 G1) r1
  | ok ds g1 =>
    rw [hm] at q
    dsimp only at q
    intro vs ι' H' s1 G1 r1
    by_cases hl : ds.length = n
    · rw [if_pos hl] at q
      refine ⟨by rw [r1.length, hl, hn], fun d hd => ?_⟩
      have S1 := S.step s1 G1
      have sm : Same H' (upd H' d (.xd (fs.zip vs))) := same_upd hd
      have st : Stp ι' ι' H' (upd H' d (.xd (fs.zip vs))) := .laid hd
      have S2 := S1.step (g' := g1) st (G1.keep sm (Gho.bi (γ.to ι')) (Gho.grows (γ := γ.to ι') st))
      refine q _ _ _ _ _ S2 ⟨hT.symm, d, vs, rfl, r1.keep st (Gho.bi (γ.to ι')) (Gho.grows (γ := γ.to ι') st), by rw [hF, ← hn, ← hl], by rw [hF, upd_same], fun z => S1.st.bart d z hd⟩
    · rw [if_neg hl] at q; exact q.elim
end
end Z

namespace Z
open PySem PySem.Spec PyProof.Rows L2
set_option autoImplicit false

/-! ### another marking -/
abbrev Wd.as (T : Wd) (f : Nat → Option Mk) : Wd := { T with mks := f }
section
variable {T : Wd} {f : Nat → Option Mk} {ι : List Addr} {bar : Addr → Prop} {H : Hp}
mutual
theorem RelD.as : ∀ {d : D} {v : V}, RelD T ι bar H d v → RelD (T.as f) ι bar H d v
  | .non, _, h => by simpa [RelD] using h
  | .bl _, _, h => by simpa [RelD] using h
  | .int _, _, h => by simpa [RelD] using h
  | .str _, _, h => by simpa [RelD] using h
  | .tup ds, v, h => by
    simp only [RelD] at h ⊢
    obtain ⟨a, vs, e, s, r⟩ := h
    exact ⟨a, vs, e, s, RelDs.as r⟩
  | .lst ds, v, h => by
    simp only [RelD] at h ⊢
    obtain ⟨a, vs, e, s, n, r⟩ := h
    exact ⟨a, vs, e, s, n, RelDs.as r⟩
  | .set ds, v, h => by
    simp only [RelD] at h ⊢
    obtain ⟨a, us, e, n, r, k⟩ := h
    exact ⟨a, us, e, n, RelDs.as r, k⟩
  | .dct ks vs, v, h => by
    simp only [RelD] at h ⊢
    obtain ⟨a, us, ws, e, n, r1, r2, l, k⟩ := h
    exact ⟨a, us, ws, e, n, RelDs.as r1, RelDs.as r2, l, k⟩
  | .ref _, _, h => by simpa [RelD] using h
  | .clo _ _, _, h => by simpa [RelD] using h
  | .err _ _, _, h => by simpa [RelD] using h
  | .scr _, _, h => by simpa [RelD] using h
theorem RelDs.as : ∀ {ds : List D} {vs : List V}, RelDs T ι bar H ds vs → RelDs (T.as f) ι bar H ds vs
  | [], _, h => by simpa [RelDs] using h
  | d :: ds, vs, h => by
    simp only [RelDs] at h ⊢
    obtain ⟨v, r, e, h1, h2⟩ := h
    exact ⟨v, r, e, RelD.as h1, RelDs.as h2⟩
end
theorem RelC.as {d : D} {a : Addr} (h : RelC T ι bar H d a) : RelC (T.as f) ι bar H d a := by
  cases d with
  | lst ds => obtain ⟨vs, e, r⟩ := h; exact ⟨vs, e, r.as⟩
  | set ds => obtain ⟨us, r, k⟩ := h; exact ⟨us, r.as, k⟩
  | dct ks vs => obtain ⟨us, ws, r1, r2, l, k⟩ := h; exact ⟨us, ws, r1.as, r2.as, l, k⟩
  | _ => exact h.elim
theorem GR.as {g : G} (h : GR T ι bar H g) : GR (T.as f) ι bar H g := by
  refine ⟨h.len, h.nd, fun n c e => ?_⟩
  obtain ⟨a, e1, r⟩ := h.at_ n c e
  refine ⟨a, e1, ?_⟩
  cases c with
  | dk ks vs => obtain ⟨ws, r, l, k⟩ := r; exact ⟨ws, r.as, l, k⟩
  | tb q => exact r
theorem MkR.as {m : Mk} (h : MkR T ι bar H m) : MkR (T.as f) ι bar H m := by
  cases m with
  | ex a dx c ds => obtain ⟨ws, r, l, k⟩ := h; exact ⟨ws, r.as, l, k⟩
  | fn _ c o ds vs => obtain ⟨e, n, r⟩ := h; exact ⟨e, n, r.as⟩
theorem ExcR.as {x : Xc} {cls : Value} {dx : Option Addr} (h : ExcR T ι bar H x cls dx) : ExcR (T.as f) ι bar H x cls dx := by
  obtain ⟨e, d, ws, e1, r, k⟩ := h
  exact ⟨e, d, ws, e1, r.as, k⟩
theorem as_as (T : Wd) (f : Nat → Option Mk) : (T.as f).as T.mks = T := rfl
end
/-! ### slots without marks -/
def unm (k : Nat) (ρ : Env) : Env := ρ.map fun s => match s with
  | .mk j => if j = k then .no else .mk j
  | s => s
theorem unm_get {k : Nat} {ρ : Env} {i : Nat} {s : Sl} (h : (unm k ρ)[i]? = some s) : s = .no ∨ (ρ[i]? = some s ∧ s ≠ .mk k) := by
  unfold unm at h
  rw [List.getElem?_map, Option.map_eq_some_iff] at h
  obtain ⟨t, e, h⟩ := h
  split at h
  · rename_i j
    split at h
    · exact .inl h.symm
    · rename_i n
      exact .inr ⟨by rw [e, ← h], by rw [← h]; exact fun z => n (by injection z)⟩
  · rename_i n
    subst h
    exact .inr ⟨e, fun z => n k z⟩
theorem unm_val {k : Nat} {ρ : Env} {i : Nat} {d : D} (h : ρ[i]? = some (.own d)) : (unm k ρ)[i]? = some (.own d) := by
  unfold unm; rw [List.getElem?_map, h]; rfl
section
variable {T : Wd} {γ : Gho} {H : Hp} {ρ : Env} {σ : L2.St} {g : G} {E0 : Ent}
/-- into a suite: slot i holds the error -/
theorem StS.toEx (S : StS T E0 γ H ρ σ g) (h0 : T.mks 0 = none) (i a dx c : Nat) (ds : List D) (hi : i < ρ.length) (m : MkR T γ.ι γ.bar H (.ex a dx c ds)) :
    StS (T.as fun k => if k = 0 then some (.ex a dx c ds) else T.mks k) E0 (γ.drop i) H (ρ.set i (.mk 0)) (σ.set i (some (.ref a))) g := by
  have R := S.st
  have fw : ∀ a, (γ.drop i).bar a → γ.bar a := fun a h => Gho.drop_bar h
  have get : ∀ {j : Nat} {s : Sl}, (∀ k, s ≠ .mk k) → (ρ.set i (.mk 0))[j]? = some s → i ≠ j ∧ ρ[j]? = some s := by
    intro j s n h
    by_cases e : i = j
    · subst e
      rw [List.getElem?_set_self hi] at h
      exact absurd (Option.some.inj h).symm (n 0)
    · rw [List.getElem?_set_ne e] at h; exact ⟨e, h⟩
  refine ⟨⟨by simp [R.len], fun j d h => ?_, fun j d h => ?_, fun j b h => ?_, fun j k b h1 h2 => R.oinj j k b (Gho.drop_oa h1).2 (Gho.drop_oa h2).2, fun j b h => R.oi j b (Gho.drop_oa h).2, R.avt, (R.cells.fewer fw).as, fun j k h => ?_⟩,
    S.ent, S.fav, fun j b h => S.own0 j b (Gho.drop_oa h).2, (S.kept.fewer fw).as⟩
  · obtain ⟨n, h⟩ := get (by simp) h
    obtain ⟨v, e1, r⟩ := R.vals j d h
    exact ⟨v, by rw [List.getElem?_set_ne n]; exact e1, (r.fewer fw).as⟩
  · obtain ⟨n, h⟩ := get (by simp) h
    obtain ⟨b, e1, e2, r, u⟩ := R.owns j d h
    exact ⟨b, by show (if j = i then none else γ.oa j) = some b; rw [if_neg (Ne.symm n)]; exact e1, by rw [List.getElem?_set_ne n]; exact e2, (r.fewer fw).as, u⟩
  · obtain ⟨n, h⟩ := Gho.drop_oa h
    obtain ⟨e, q⟩ := R.oad j b h
    exact ⟨e, by rw [List.getElem?_set_ne (Ne.symm n)]; exact q⟩
  · by_cases e : i = j
    · subst e
      rw [List.getElem?_set_self hi] at h
      have : 0 = k := by injection (Option.some.inj h)
      subst this
      exact ⟨_, rfl, List.getElem?_set_self (by rw [R.len]; exact hi), (m.fewer fw).as⟩
    · rw [List.getElem?_set_ne e] at h
      obtain ⟨m', e1, e2, r⟩ := R.mks j k h
      have nk : k ≠ 0 := fun z => by rw [z, h0] at e1; cases e1
      exact ⟨m', by show (if k = 0 then _ else _) = _; rw [if_neg nk]; exact e1, by rw [List.getElem?_set_ne e]; exact e2, (r.fewer fw).as⟩
/-- out of it -/
theorem StS.ofEx {f : Nat → Option Mk} (hf : ∀ k, k ≠ 0 → f k = T.mks k) (S : StS (T.as f) E0 γ H ρ σ g) (i : Nat) : StS T E0 (γ.drop i) H (unm 0 (ρ.set i .no)) (σ.set i none) g := by
  have R := S.st
  have fw : ∀ a, (γ.drop i).bar a → γ.bar a := fun a h => Gho.drop_bar h
  have get : ∀ {j : Nat} {s : Sl}, s ≠ .no → (unm 0 (ρ.set i .no))[j]? = some s → i ≠ j ∧ ρ[j]? = some s ∧ s ≠ .mk 0 := by
    intro j s n h
    rcases unm_get h with h | ⟨h, h2⟩
    · exact absurd h n
    · by_cases e : i = j
      · subst e
        have hi : i < ρ.length := by simpa using (List.getElem?_eq_some_iff.mp h).1
        rw [List.getElem?_set_self hi] at h
        exact absurd (Option.some.inj h).symm n
      · rw [List.getElem?_set_ne e] at h; exact ⟨e, h, h2⟩
  refine ⟨⟨by simp [unm, R.len], fun j d h => ?_, fun j d h => ?_, fun j b h => ?_, fun j k b h1 h2 => R.oinj j k b (Gho.drop_oa h1).2 (Gho.drop_oa h2).2, fun j b h => R.oi j b (Gho.drop_oa h).2, R.avt, GR.as (T := T.as f) (f := T.mks) (R.cells.fewer fw), fun j k h => ?_⟩,
    S.ent, S.fav, fun j b h => S.own0 j b (Gho.drop_oa h).2, RelDs.as (T := T.as f) (f := T.mks) (S.kept.fewer fw)⟩
  · obtain ⟨n, h, _⟩ := get (by simp) h
    obtain ⟨v, e1, r⟩ := R.vals j d h
    exact ⟨v, by rw [List.getElem?_set_ne n]; exact e1, RelD.as (T := T.as f) (f := T.mks) (r.fewer fw)⟩
  · obtain ⟨n, h, _⟩ := get (by simp) h
    obtain ⟨b, e1, e2, r, u⟩ := R.owns j d h
    exact ⟨b, by show (if j = i then none else γ.oa j) = some b; rw [if_neg (Ne.symm n)]; exact e1, by rw [List.getElem?_set_ne n]; exact e2, RelC.as (T := T.as f) (f := T.mks) (r.fewer fw), u⟩
  · obtain ⟨n, h⟩ := Gho.drop_oa h
    obtain ⟨e, q⟩ := R.oad j b h
    exact ⟨e, unm_val (by rw [List.getElem?_set_ne (Ne.symm n)]; exact q)⟩
  · obtain ⟨n, h, h2⟩ := get (by simp) h
    obtain ⟨m', e1, e2, r⟩ := R.mks j k h
    have nk : k ≠ 0 := fun z => h2 (by rw [z])
    refine ⟨m', ?_, by rw [List.getElem?_set_ne n]; exact e2, MkR.as (T := T.as f) (f := T.mks) (r.fewer fw)⟩
    rw [← hf k nk]; exact e1
end
/-! ### try: .. except X as n: .. -/
def sTry (i : Nat) (hit : Nat → Option Bool) (b : Sm) (h : Xc → Sm) : Sm := fun ρ g => match b ρ g with
  | .exc x ρ1 g1 => (match hit x.c with
    | some true => if i < ρ1.length then (match h x (ρ1.set i (.mk 0)) g1 with
      | .nx ρ2 g2 => .nx (unm 0 (ρ2.set i .no)) g2
      | .rt d g2 => .rt d g2
      | _ => .bad) else .bad
    | some false => .exc x ρ1 g1
    | none => .bad)
  | r => r
section
variable {T : Wd} {W : WX} {X : Cx} {x n : Str} {c : Value} {i : Nat} {body suite : List Stmt} {b0 : Stmt} {np pos pos' : Pos} {mb : Sm} {ms : Xc → Sm} {hit : Nat → Option Bool}
abbrev Wd.ex (T : Wd) (a dx c : Nat) (ds : List D) : Wd := T.as fun k => if k = 0 then some (.ex a dx c ds) else T.mks k
theorem ss_try (h0 : T.mks 0 = none) (hs : X.stack = X.env :: X.outer) (hf : X.env.frame = some X.env.locals) (hN : X.N.Nodup) (hi : X.N[i]? = some n) (hln : X.env.kindOf n = some .local) (hc : Names X x c) (tk : Takes X W)
    (hh : ∀ k b, hit k = some b → PySem.W.exmOne X.K (T.ct k) c = some b)
    (hb : ∀ (W' : WX) (pn : List (Addr × Obj)) (xe : Value → Shared → Prop), Takes (X.tr pn xe) W' → PassesOwn (model X.prog X.w) X.A X.env xe → SB T W' (X.tr pn xe) body mb)
    (hsu : ∀ (a : Addr) (oe : Obj) (dx k : Nat) (ds : List D) (pn : List (Addr × Obj)), Zc (T.ct k) (some dx) oe → (∃ vs, oe.data = .fields vs) → SB (T.ex a dx k ds) W0 (X.suite a ((a, oe) :: pn)) (b0 :: suite) (ms ⟨k, ds⟩)) :
    SS T W X (.Try body [.ExceptHandler (some (.Name x np)) (some n) (b0 :: suite) pos'] [] [] pos) (sTry i hit mb ms) := by
  refine PS.imp (ps_try_as (tb := fun W' => tS T W' mb) (ts := fun a cls d D' σ H => ∃ dx k ds, cls = T.ct k ∧ d = some dx ∧ tS (T.ex a dx k ds) W0 (ms ⟨k, ds⟩) D' σ H) hs hf hN hi hln hc tk hb (fun a oe cls d pn hz hv => ⟨fun pins s σ H D' I ⟨dx, k, ds, e1, e2, h⟩ => ?_⟩)) fun D' σ H ⟨E0, γ, ρ, g, S, p⟩ => ?_
  · subst e1 e2
    exact (hsu a oe dx k ds pn hz hv).run pins s σ H D' I h
  · refine ⟨E0, γ, ρ, g, S, ?_⟩
    unfold sTry at p
    revert p
    cases mb ρ g with
    | nx ρ1 g1 => exact fun p => p
    | rt d g1 => exact fun p => p
    | bk ρ1 g1 => exact fun p => p
    | ct ρ1 g1 => exact fun p => p
    | bad => exact fun p => p
    | exc xc ρ1 g1 =>
      intro p γ1 σ1 H1 cls dx S1 r1
      obtain ⟨e1, d, ws, e2, r2, l2, k2, n2⟩ := id r1
      subst e1 e2
      dsimp only at p
      cases hq : hit xc.c with
      | none => rw [hq] at p; exact p.elim
      | some b =>
        refine ⟨b, hh _ _ hq, fun hbt a ha => ?_, fun hbf => ?_⟩
        · subst hbt
          rw [hq] at p
          dsimp only at p
          by_cases hl : i < ρ1.length
          · rw [if_pos hl] at p
            refine ⟨d, xc.c, xc.ds, rfl, rfl, E0, _, _, g1, S1.toEx h0 i a d xc.c xc.ds hl ⟨ws, r2, l2, k2, n2⟩, ?_⟩
            have hfk : ∀ k, k ≠ 0 → (fun k => if k = 0 then some (Mk.ex a d xc.c xc.ds) else T.mks k) k = T.mks k := fun k hk => if_neg hk
            revert p
            cases ms xc (ρ1.set i (.mk 0)) g1 with
            | nx ρ2 g2 => exact fun p γ2 σ2 H2 S2 => p _ _ _ (S2.ofEx hfk i)
            | rt d2 g2 => exact fun p v γ2 H2 fa ow st G2 r2 => p v γ2 H2 fa ow st (GR.as (T := T.ex a d xc.c xc.ds) (f := T.mks) G2) (RelD.as (T := T.ex a d xc.c xc.ds) (f := T.mks) r2)
            | bk _ _ => exact fun p => p.elim
            | ct _ _ => exact fun p => p.elim
            | exc _ _ _ => exact fun p => p.elim
            | bad => exact fun p => p.elim
          · rw [if_neg hl] at p; exact p.elim
        · subst hbf
          rw [hq] at p
          exact p _ _ _ _ _ S1 r1
end
end Z

namespace Z
open PySem PySem.Spec PyProof.Rows L2
set_option autoImplicit false

/-! ### in an except suite: isinstance(error, C), error.f -/
/-- what a class of errors says of its instances -/
structure ErrX (K : PySem.W.Frag) (C : Addr) : Prop where
  cl : (PySem.W.clsIn K C).isSome = true
  ga : PySem.W.findIn K (.ref C) "__getattribute__" = some (some (.builtin "BaseException.__getattribute__"))
  gg : PySem.W.findIn K (.ref C) "__getattr__" = some none
  sub : PySem.W.subIn K (.ref C) (.type "BaseException") = some true
  hd : PySem.W.hasDictIn K C = true
  ca : PySem.W.findIn K (.ref C) "__class__" = some (some (.builtin "object.__class__"))
  sp : PySem.W.specialIn K (.builtin "object.__class__") "__get__" = some (some (.builtin "getset_descriptor.__get__"))
  tk : PySem.W.takesIn K (.builtin "object.__class__") = some true
  om : PySem.W.mroIn K C (.type "object") = some true
def mMk (i : Nat) (d : D) : Ev := fun ρ g => match ρ[i]? with
  | some (.mk 0) => .ok d g
  | _ => .bad
def mErf (i : Nat) (fs : List Str) (ds : List D) (f : Str) : Ev := fun ρ g => match ρ[i]? with
  | some (.mk 0) => ret (luS fs ds f) g
  | _ => .bad
section
variable {T : Wd} {W : WX} {X : Cx} {x y n : Str} {i a dx k C : Nat} {oe : Obj} {pn : List (Addr × Obj)} {ds : List D} {p p1 p2 pos : Pos}
theorem ee_isE {b : Bool} {c : V} {cv : Value} (hT : T.ct k = .ref C) (EX : ErrX X.K C) (hz : Zc (T.ct k) (some dx) oe) (hf : ∃ vs, oe.data = .fields vs) (hg : Gl X "isinstance") (hm : X.mg "isinstance" = none)
    (hy : PE (X.suite a ((a, oe) :: pn)) (.Name y p2) (tC c)) (hcv : ∀ u, L2.RelV c u → u = cv) (hk : PySem.W.kitOne X.K (T.ct k) cv = some b)
    (i : Nat) (hN : X.N[i]? = some n := by rfl) (hv : Vis X.env.scope n := by first | exact Or.inl rfl | exact Or.inr (Or.inl rfl) | exact Or.inr (Or.inr rfl)) (hd : (n == ("__debug__" : Str)) = false := by decide) (hcd : (n == ("__classdict__" : Str)) = false := by decide)
    (hs : starEach [.Name n p1, .Name y p2] X.env = (false, eval (.Name n p1) X.env) :: starEach [.Name y p2] X.env := by rfl) (hpl : (backTo pos (starEach [.Name y p2] X.env)).any (·.1) = false := by rfl)
    (hs2 : starEach [.Name y p2] X.env = (false, eval (.Name y p2) X.env) :: starEach [] X.env := by rfl) :
    EE (T.ex a dx k ds) W (X.suite a ((a, oe) :: pn)) (.Call (.Name "isinstance" p) [.Name n p1, .Name y p2] [] pos) (mMk i (.bl b)) := by
  have hc : CallR (X.suite a ((a, oe) :: pn)) (.builtin "isinstance") (fun xs H Q => xs = [.ref a, c] ∧ (∃ fs, H dx = some (.xd fs)) ∧ Q (.bl b) H) := by
    intro pins s σ H xs us Q I r hq
    obtain ⟨rfl, ⟨fs, hx⟩, q⟩ := hq
    cases r with
    | cons rx rr =>
      cases rr with
      | cons rt rr =>
        cases rr
        cases rx
        have ec := hcv _ rt
        subst ec
        obtain ⟨hget, _⟩ := I.pin (a, oe) (List.mem_append_left _ List.mem_cons_self)
        obtain ⟨vs, hvs⟩ := hf
        have ho : ObjOk X.prog X.w H s.heap dx (.xd fs) := I.hok dx _ hx
        obtain ⟨mA, hns, _⟩ := ho
        obtain ⟨od, hod, _⟩ := lookIn_ns hns
        have J : PySem.W.InstAt s.heap a oe C (some od) := ⟨hget, by rw [← hT]; exact hz.1, by unfold PySem.W.notCls; rw [hvs] <;> rfl, by rw [hz.2]; exact hod⟩
        rw [hT] at hk
        exact PySem.W.kia_one (PySem.W.kitx_exc EX.cl EX.ga EX.gg EX.sub EX.ca EX.sp EX.tk EX.om) I.kIn J hk (fun z => nomatch z) fun tk => ⟨.bl b, H, I.kept (t' := tk) fun _ _ z => z, rfl, q⟩
  refine PE.imp (pe_callB (X := X.suite a ((a, oe) :: pn)) hc hg hm (by decide +kernel) (pa_cons (pe_var (X := X.suite a ((a, oe) :: pn)) (i := i) hN hv hd hcd) (pa_cons hy pa_nil hs2) hs) (by decide) (by decide) hs hpl) fun σ H Q ⟨γ, ρ, g, S, q⟩ => ?_
  unfold mMk at q
  split at q
  · rename_i e
    obtain ⟨m, e1, e2, r⟩ := S.mks i 0 e
    have e1 : some (Mk.ex a dx k ds) = some m := e1
    cases e1
    obtain ⟨ws, _, _, hx, _⟩ := r
    exact ⟨_, e2, rfl, ⟨_, hx⟩, q.ret0 (g0 := g) S (RelD.ofBl b)⟩
  · exact q.elim
theorem luS_rel {ι : List Addr} {bar : Addr → Prop} {H : Hp} : ∀ {fs : List Str} {ds : List D} {ws : List V} {f : Str} {d : D}, RelDs T ι bar H ds ws → luS fs ds f = some d → ∃ v, (fs.zip ws).lookup f = some v ∧ RelD T ι bar H d v
  | [], ds, ws, f, d, r, e => by simp [luS] at e
  | _ :: _, [], ws, f, d, r, e => by simp [luS] at e
  | h :: fs, e1 :: ds, ws, f, d, r, e => by
    obtain ⟨v, us, rfl, r1, r2⟩ := r.uncons
    simp only [luS] at e
    rw [List.zip_cons_cons, List.lookup_cons]
    by_cases z : h = f
    · rw [if_pos z] at e
      cases e
      exact ⟨v, by rw [z]; simp, r1⟩
    · rw [if_neg z] at e
      obtain ⟨u, h1, h2⟩ := luS_rel r2 e
      exact ⟨u, by rw [show (f == h) = false from by simpa using fun q => z q.symm]; exact h1, h2⟩
theorem ee_erf {f : Str} {fs : List Str} (hT : T.ct k = .ref C) (hF : T.cf k = fs) (EX : ErrX X.K C) (hno : PySem.W.findIn X.K (.ref C) f = some none) (hz : Zc (T.ct k) (some dx) oe) (hf : ∃ vs, oe.data = .fields vs)
    (i : Nat) (hN : X.N[i]? = some n := by rfl) (hv : Vis X.env.scope n := by first | exact Or.inl rfl | exact Or.inr (Or.inl rfl) | exact Or.inr (Or.inr rfl)) (hd : (n == ("__debug__" : Str)) = false := by decide) (hcd : (n == ("__classdict__" : Str)) = false := by decide)
    (hb : attributeBase (.Name n p1) f X.env (eval (.Name n p1) X.env) = eval (.Name n p1) X.env := by rfl) :
    EE (T.ex a dx k ds) W (X.suite a ((a, oe) :: pn)) (.Attribute (.Name n p1) f pos) (mErf i fs ds f) := by
  refine PE.imp (pe_xf (X := X) (a := a) (C := C) (oe := oe) (pn := pn) ⟨EX.ga, EX.gg, EX.sub, EX.hd⟩ hno hz hf (pe_var (X := X.suite a ((a, oe) :: pn)) (i := i) hN hv hd hcd) hb) fun σ H Q ⟨γ, ρ, g, S, q⟩ => ?_
  unfold mErf at q
  split at q
  · rename_i e
    obtain ⟨m, e1, e2, r⟩ := S.mks i 0 e
    have e1 : some (Mk.ex a dx k ds) = some m := e1
    cases e1
    obtain ⟨ws, r, l, hx, nb⟩ := r
    have hx : H dx = some (.xd ((T.cf k).zip ws)) := hx
    cases hl : luS fs ds f with
    | none => rw [hl] at q; exact q.elim
    | some d =>
      rw [hl] at q
      obtain ⟨v, h1, h2⟩ := luS_rel r hl
      exact ⟨_, e2, rfl, hT, dx, _, v, rfl, hx, by rw [hF]; exact h1, q.ret0 (g0 := g) S h2⟩
  · exact q.elim
end
end Z

namespace Z
open PySem PySem.Spec PyProof.Rows L2 LamX
set_option autoImplicit false

/-! ### a lambda without parameters, made -/
section
variable {X : Cx} {pins : List (Addr × Obj)} {σ : L2.St} {H : Hp} {s : Shared}
abbrev lamObj (X : Cx) (params : Arguments) (body : Expr) (scope : Scope) (pm : Value) (c' : Addr) (ctv : Value) : Obj := PySem.W.kla_obj "<lambda>" (X.env.qual ++ "<lambda>") params body scope (cloFrom X.env.cells scope.names []) pm c' ctv
/-- how the tracked things stand behind it -/
def LamH (bar : Addr → Prop) (H H1 : Hp) (P c' : Addr) (q : Str) : Prop :=
  H1 c' = some (CodeO c' q) ∧ ¬ bar c' ∧ (H1 = H ∨ ∃ ps more : Array Value, H P = some (.tbl ps) ∧ H c' = none ∧ H1 = upd (upd H P (.tbl (ps ++ more))) c' (CodeO c' q)) ∧ TabZ bar H1 P q
theorem lam_new {bar : Addr → Prop} {c P : Addr} {params : Arguments} {body : Expr} {scope : Scope} {pos : Pos} {E : Value → Shared → Prop} {Q : Value → Shared → Prop} (I : Inv X pins σ H s) (TB : TabB X.base X.mg c P) (hcode : X.env.code = .ref c)
    (hb : ∀ a, bar a → H a ≠ none) (tz : TabZ bar H P (X.env.qual ++ "<lambda>")) (hdef : defaultsOf params X.env = ([], [])) (L : LamS X.env.scope scope)
    (h : ∀ (f c' : Addr) (pm ctv : Value) (H1 : Hp) (s' : Shared), Inv X pins σ H1 s' → LamH bar H H1 P c' (X.env.qual ++ "<lambda>") → s'.heap.get? f = some (lamObj X params body scope pm c' ctv) → H1 f = none → f ∉ frs X.stack → Q (.ref f) s') :
    wpAny (model X.prog X.w) X.A (eval (.Lambda params body scope pos) X.env) Q E s := by
  obtain ⟨ps, hP, ht, ha⟩ := tz
  have hfree := L.has I.ok
  have tabP : s.heap.get? P = some { cls := .none, data := .fields ps } := I.hok P _ hP
  have bmP : s.heap.BuiltinsAt X.mg P := TB.bm.keeps I.bk
  have gl : s.heap.Ns mainGlobals X.mg := I.mod.glob.keeps I.bk
  have away : ∀ f, s.heap.objs.size ≤ f → f ∉ frs X.stack := by
    intro f hf hm
    cases List.mem_cons.mp (I.stkSub _ hm) with
    | inl e => have := I.lt; rw [← e] at this; exact absurd this (Nat.not_lt.mpr hf)
    | inr e => exact I.nofs hf e
  apply PySem.W.kla_eval hdef
  cases found : codeAmong pos ps.toList with
  | some cv =>
    obtain ⟨c', rfl, hco, nb⟩ := ha pos cv found
    refine PySem.W.kla_makeFunctionHit (mg := X.mg) (c := c) (P := P) (ps := ps) (closure_ok hfree) I.ok.glob gl hcode (TB.code.keeps I.bk) tabP ht found bmP ?_
    intro ctv h' tk keep big
    refine h h'.objs.size c' _ ctv H _ (I.kept (t' := tk) fun b o z => Heap.get?_push_of_some _ (keep b o z)) ⟨hco, nb, .inl rfl, ps, hP, ht, ha⟩ (Heap.get?_push_size _ rfl) (I.hok.fresh big) (away _ big)
  | none =>
    refine PySem.W.kla_makeFunction (mg := X.mg) (c := c) (P := P) (ps := ps) (closure_ok hfree) I.ok.glob gl hcode (TB.code.keeps I.bk) tabP ht found TB.gP bmP ?_
    intro c' ctv h' tk keep ge lt rec tab
    obtain ⟨c2, oc, vs, t, e2, hoc, hd, hv⟩ := rec
    cases e2
    have nC : H c' = none := I.hok.fresh ge
    have big : s.heap.objs.size ≤ h'.objs.size := Nat.le_trans ge (Nat.le_of_lt lt)
    have neP : c' ≠ P := fun z => by rw [z, hP] at nC; cases nC
    have J := inv_table (t' := tk) (more := #[rawInt pos.line, rawInt pos.col, .ref c']) (h' := h'.push (lamObj X params body scope ((X.mg "__name__").getD .none) c' ctv)) I hP (fun b o nb z => Heap.get?_push_of_some _ (keep b o nb z)) (Heap.get?_push_of_some _ tab) ge ⟨oc, vs, t, Heap.get?_push_of_some _ hoc, hd, hv⟩
    have el : (ps ++ #[rawInt pos.line, rawInt pos.col, .ref c']).toList = ps.toList ++ [rawInt pos.line, rawInt pos.col, .ref c'] := by simp
    have nbar : ¬ bar c' := fun z => hb _ z nC
    refine h h'.objs.size c' _ ctv _ _ J ⟨upd_same, nbar, .inr ⟨ps, _, hP, nC, rfl⟩, ps ++ #[rawInt pos.line, rawInt pos.col, .ref c'], by rw [upd_ne (Ne.symm neP), upd_same], by rw [el]; exact PySem.TriplesOk_snoc _ _ _ _ ht, ?_⟩ (Heap.get?_push_size _ rfl) ?_ (away _ big)
    · intro p cv hcv
      rw [el] at hcv
      cases among_app _ ht hcv with
      | inr e => exact ⟨c', e, upd_same, nbar⟩
      | inl e =>
        obtain ⟨c0, e1, e2, e3⟩ := ha p cv e
        refine ⟨c0, e1, ?_, e3⟩
        rw [upd_ne (ne_of_none e2 nC), upd_ne fun z => ?_]
        · exact e2
        · rw [z, hP] at e2
          exact codeO_ne _ (Option.some.inj e2).symm
    · rw [upd_ne (Nat.ne_of_gt lt), upd_ne (Nat.ne_of_gt (Nat.lt_of_lt_of_le (Heap.lt_size tabP) big))]
      exact I.hok.fresh big
end
end Z

namespace Z
open PySem PySem.Spec PyProof.Rows L2 LamX
set_option autoImplicit false

/-! ### a lambda handed to a def that calls it -/
def mAsk (i : Nat) (th : G → Res D) : Ev := fun ρ g => match ρ[i]? with
  | some (.mk 1) => th g
  | _ => .bad
def capE (ρ : Env) : Env := ρ.map fun s => match s with
  | .val d => .val d
  | _ => .no
def capD (ρ : Env) : List D := ρ.map fun s => match s with
  | .val d => d
  | _ => .non
theorem capE_get {ρ : Env} {i : Nat} {s : Sl} (h : (capE ρ)[i]? = some s) : s = .no ∨ ∃ d, s = .val d ∧ ρ[i]? = some (.val d) := by
  unfold capE at h
  rw [List.getElem?_map, Option.map_eq_some_iff] at h
  obtain ⟨t, e, h⟩ := h
  split at h
  · exact .inr ⟨_, h.symm, e⟩
  · exact .inl h.symm
theorem capD_get {ρ : Env} {i : Nat} {d : D} (h : ρ[i]? = some (.val d)) : (capD ρ)[i]? = some d := by
  unfold capD; rw [List.getElem?_map, h]; rfl
theorem cap_rel {T : Wd} {ι : List Addr} {bar : Addr → Prop} {H : Hp} : ∀ (ρ : Env) (σ : L2.St), (∀ (i : Nat) (d : D), ρ[i]? = some (.val d) → ∃ v, σ[i]? = some (some v) ∧ RelD T ι bar H d v) →
    ∃ vs, RelDs T ι bar H (capD ρ) vs ∧ ∀ (i : Nat) (d : D), ρ[i]? = some (.val d) → ∃ v, vs[i]? = some v ∧ σ[i]? = some (some v)
  | [], σ, _ => ⟨[], .nil, fun i d e => by simp at e⟩
  | s :: ρ, σ, h => by
    obtain ⟨vs, r, q⟩ := cap_rel ρ σ.tail fun i d e => by
      obtain ⟨v, e1, r1⟩ := h (i + 1) d (by rw [List.getElem?_cons_succ]; exact e)
      refine ⟨v, ?_, r1⟩
      cases σ with
      | nil => simp at e1
      | cons x σ => simpa using e1
    have up : ∀ (i : Nat) (v : V), σ.tail[i]? = some (some v) → σ[i + 1]? = some (some v) := fun i v e => by
      cases σ with
      | nil => simp at e
      | cons x σ => simpa using e
    have tl : ∀ v, RelD T ι bar H (match s with | .val d => d | _ => .non) v → (∀ d, s = .val d → σ[0]? = some (some v)) → ∃ vs, RelDs T ι bar H (capD (s :: ρ)) vs ∧ ∀ (i : Nat) (d : D), (s :: ρ)[i]? = some (.val d) → ∃ v, vs[i]? = some v ∧ σ[i]? = some (some v) := fun v rv e0 => by
      refine ⟨v :: vs, .cons rv r, fun i d e => ?_⟩
      cases i with
      | zero =>
        have e : s = .val d := by simpa using e
        exact ⟨v, rfl, e0 d e⟩
      | succ i =>
        obtain ⟨u, e1, e2⟩ := q i d (by simpa using e)
        exact ⟨u, by simpa using e1, up i u e2⟩
    cases s with
    | val d =>
      obtain ⟨v, e1, r1⟩ := h 0 d rfl
      exact tl v r1 fun _ _ => e1
    | no => exact tl .non RelD.ofNon fun _ z => by cases z
    | own d => exact tl .non RelD.ofNon fun _ z => by cases z
    | mk k => exact tl .non RelD.ofNon fun _ z => by cases z
section
variable {T : Wd} {X : Cx} {pins : List (Addr × Obj)} {σ : L2.St} {H : Hp} {s : Shared} {ρ : Env} {mg : Str → Option Value} {base : Heap}
abbrev heCx (X : Cx) (T : Wd) (N : List Str) (qg : Str) (sg : Scope) (fg : Addr) (cdg : Value) (s : Shared) (H : Hp) (E : XK) : Cx := cxOf (L2.CX T.P T.w) T.P T.w T.K X.mg X.base N qg sg fg cdg X.A X.stack s H E
/-- x(), in the def that got the lambda -/
theorem ee_ask {f : Nat → Option Mk} {Ng : List Str} {qg : Str} {sg : Scope} {fg fl c' : Addr} {cdg pm ctv : Value} {params : Arguments} {body : Expr} {scope : Scope} {k i : Nat} {a : Str} {pn : List (Addr × Obj)} {xe : Value → Shared → Prop} {W : WX} {Eg : XK} {vs : List V} {mb : Ev} {p1 p2 : Pos} {o : HO}
    (ok : Ok T X) (I : Inv X pins σ H s) (L : LamS X.env.scope scope) (hf : s.heap.get? fl = some (lamObj X params body scope pm c' ctv)) (hfn : H fl = none) (hfr : fl ∉ frs X.stack) (ho : o = CodeO c' (X.env.qual ++ "<lambda>"))
    (hbind : bindArgs (PySem.W.kla_fn "<lambda>" (X.env.qual ++ "<lambda>") params body scope (cloFrom X.env.cells scope.names []) pm (.ref c') ctv) ⟨[], []⟩ = pure [])
    (hm : f 1 = some (.fn fl c' o (capD ρ) vs)) (hcap : ∀ (i : Nat) (d : D), ρ[i]? = some (.val d) → ∃ v, vs[i]? = some v ∧ σ[i]? = some (some v)) (hlen : σ.length = ρ.length)
    (tk : Takes ((heCx X T Ng qg sg fg cdg s H Eg).tr pn xe) W) (hr : Room (k + 1) (X.A.deeper (envOfC qg sg s.heap.objs.size fg cdg))) (hgu : X.A.guards = some [])
    (hbody : ∀ (A : Around) (outer : List PySem.Env) (s : Shared) (H : Hp) (E : XK), DefX T X.mg X.base k (lamCx X A outer s H E scope fl c') (fun cls dx _ H' => E cls dx H') → EE T (fun cls dx _ H' => E cls dx H') (lamCx X A outer s H E scope fl c') body mb)
    (hN : Ng[i]? = some a) (hv : Vis sg a) (hd : (a == ("__debug__" : Str)) = false) (hcd : (a == ("__classdict__" : Str)) = false) :
    EE (T.as f) W ((heCx X T Ng qg sg fg cdg s H Eg).tr pn xe) (.Call (.Name a p1) [] [] p2) (mAsk i fun g => mb (capE ρ) g) := by
  subst ho
  refine ⟨fun pinsZ sZ σZ HZ Q IZ ⟨γz, ρz, gz, S, p⟩ => ?_⟩
  unfold mAsk at p
  split at p
  case h_2 => exact p.elim
  rename_i e
  obtain ⟨m, e1, e2, r⟩ := S.mks i 1 e
  have e1 : f 1 = some m := e1
  rw [hm] at e1
  cases e1
  obtain ⟨hc, _, rd⟩ := r
  refine wpAny_Call_Name_kw (thn ((pe_var (X := (heCx X T Ng qg sg fg cdg s H Eg).tr pn xe) (pos := p1) (i := i) hN hv hd hcd).run pinsZ sZ σZ HZ (fun v H1 => v = .ref fl ∧ H1 = HZ) IZ ⟨.ref fl, e2, rfl, rfl⟩) fun u s1 ⟨v, H1, I1, r1, ev, eH⟩ => ?_)
  subst ev
  rw [eH] at I1
  obtain rfl : u = Value.ref fl := r1
  have at1 : s1.heap.get? fl = some (lamObj X params body scope pm c' ctv) := I1.base.keep fl _ hf hfn hfr (fun z => nomatch (show fl ∈ ([] : List Addr) from z))
  refine PySem.W.callWith_F0 ⟨_, _, _, _, at1⟩ ?_
  have un : Un (frs X.stack) [] H HZ s.heap s1.heap := I1.base
  obtain ⟨⟨oc, ws, t, hoc, hdc, hvc⟩, _, _⟩ := I1.hok c' _ hc
  have e0 : Env0 T.P T.w T.K X.mg X.base (X.A.deeper (envOfC qg sg s.heap.objs.size fg cdg)) (envOfC qg sg s.heap.objs.size fg cdg :: X.stack) s1 HZ := I1.env0
  let γl : Gho := ⟨γz.ι, fun _ => none, γz.bar⟩
  have b1 : ∀ a, γl.bar a → γz.bar a := by
    rintro a (h | ⟨j, h⟩ | h)
    · exact .inl h
    · cases h
    · exact h
  have b2 : ∀ (ι' : List Addr) a, (γz.to ι').bar a → (γl.to ι').bar a := by
    rintro ι' a (h | ⟨j, h⟩ | h)
    · exact .inl h
    · exact .inr (.inr (.inr (.inl ⟨j, h⟩)))
    · exact .inr (.inr (.inr (.inr h)))
  have SL : StR T γl HZ (capE ρ) σ gz := by
    refine ⟨by simp [capE, hlen], fun j d h => ?_, fun j d h => ?_, fun j a h => (by cases h), fun j k a h => (by cases h), fun j a h => (by cases h), fun a h => S.bart a h, GR.as (T := T.as f) (f := T.mks) (S.cells.fewer b1), fun j k h => ?_⟩
    · rcases capE_get h with h | ⟨d', h1, h2⟩
      · cases h
      · cases h1
        obtain ⟨v, g1, g2⟩ := hcap j d h2
        obtain ⟨v', q1, q2⟩ := rd.get (capD_get h2)
        rw [g1] at q1; cases q1
        exact ⟨v, g2, RelD.as (T := T.as f) (f := T.mks) (q2.fewer b1)⟩
    · rcases capE_get h with h | ⟨d', h1, h2⟩
      · cases h
      · cases h1
    · rcases capE_get h with h | ⟨d', h1, h2⟩
      · cases h
      · cases h1
  have pl : Post T γl HZ σ (fun cls dx _ H' => W cls dx σZ H') (rD T) Q (mb (capE ρ) gz) := by
    have p : Post (T.as f) γz HZ σZ W (rD (T.as f)) Q (mb (capE ρ) gz) := p
    revert p
    cases mb (capE ρ) gz with
    | bad => exact fun p => p
    | ok d g' => exact fun p v ι' H' s2 G2 r2 => p v ι' H' s2 ((G2.fewer (b2 ι')).as) ((r2.fewer (b2 ι')).as)
    | exc x g' => exact fun p cls dx ι' H' s2 G2 r2 => p cls dx ι' H' s2 ((G2.fewer (b2 ι')).as) ((r2.fewer (b2 ι')).as)
  have rc : codeAny (model T.P T.w) (X.A.deeper (envOfC qg sg s.heap.objs.size fg cdg)) (.call (.ref fl) ⟨[], []⟩) (CR (L2.CX T.P T.w) (envOfC qg sg s.heap.objs.size fg cdg :: X.stack) T.P T.w HZ s1 Q (WE W σZ)) s1 := by
    refine PySem.W.kla_callFunE hr.depth at1 rfl L.co L.gen rfl ⟨c', oc, ws, t, rfl, hoc, hdc, hvc⟩ ?_
    rw [hbind]
    refine wpAny_pure (wpAny_newFunctionEnv (fun y hy => (L.own y hy).2) (fun y hy => absurd hy (by simp)) (fun h1 hns hsb => ⟨I1.nolimit.fresh _ hsb, ?_⟩) L.kind)
    show codeAny _ _ (.expr body (lamEnv X scope s1.heap.objs.size fl c')) _ _
    have kp : ∀ b o, s1.heap.get? b = some o → h1.get? b = some o := fun b o z => hsb.extBut b o (Nat.ne_of_lt (Heap.lt_size z)) (Heap.get?_push_of_some _ z)
    have e1 : Env0 X.prog X.w X.K X.mg X.base (X.A.deeper (envOfC qg sg s.heap.objs.size fg cdg)) (envOfC qg sg s.heap.objs.size fg cdg :: X.stack) s1 HZ := by rw [ok.P, ok.w, ok.K]; exact e0
    have J := lam_start2 (f := fl) (c' := c') (E := WE W σZ) (tk := s1.toks + ([] : List (Str × Value)).length) I L e1 hr.hd un hns kp
    have R2 := hr.deeper (lamEnv X scope s1.heap.objs.size fl c')
    have DX : DefX T X.mg X.base k (lamCx X (X.A.deeper (envOfC qg sg s.heap.objs.size fg cdg)) (envOfC qg sg s.heap.objs.size fg cdg :: X.stack) s1 HZ (WE W σZ) scope fl c') (fun cls dx _ H' => WE W σZ cls dx H') := by
      refine ⟨⟨ok.P, ok.w, ok.K⟩, ⟨?_, hgu⟩, R2, rfl, rfl, takes_of rfl rfl rfl rfl, rfl⟩
      have := R2.un
      show ((X.A.deeper (envOfC qg sg s.heap.objs.size fg cdg)).deeper (lamEnv X scope s1.heap.objs.size fl c')).units + 120 < cLine
      omega
    rw [← ok.P, ← ok.w]
    refine PySem.W.kla_codeExpr (wpAny_mono ((hbody _ _ s1 HZ (WE W σZ) DX).run [] _ _ HZ Q J ⟨γl, capE ρ, gz, SL, pl⟩) (fun v s' hq => ?_) fun e s' hq => ?_)
    · obtain ⟨w', H', J', rv, q⟩ := hq
      exact ⟨w', H', J'.os, J'.bare, J'.base, J'.hok, rv, q⟩
    · exact hq
  refine wpAny_call (codeAny_mono rc fun r s' hq => ?_)
  cases r with
  | error er => exact passAt tk σZ pinsZ HZ s1 er s' I1 hq
  | ok flw =>
    cases flw with
    | ret u => exact I1.after hq
    | next => exact False.elim hq
    | brk => exact False.elim hq
    | cont => exact False.elim hq
end
end Z

namespace Z
open PySem PySem.Spec PyProof.Rows L2 LamX
set_option autoImplicit false

def heE (n : Nat) : Env := Sl.mk 1 :: List.replicate (n - 1) .no
def denHe (n : Nat) (m : Sm) : G → Res D := fun g => match m (heE n) g with
  | .rt d g' => .ok d g'
  | .nx _ g' => .ok .non g'
  | .exc x _ g' => .exc x g'
  | _ => .bad
def mHear (j : Nat) (q : Str) (n : Nat) (mH : (G → Res D) → Sm) (mb : Ev) : Ev := fun ρ g => match g[j]? with
  | some (.tb q') => if q' = q then denHe n (mH fun g' => mb (capE ρ) g') g else .bad
  | _ => .bad
/-- a def that calls the lambda that it gets -/
structure HearD (T : Wd) (mg : Str → Option Value) (base : Heap) (k : Nat) (x a : Str) (N : List Str) (fg : Addr) (mH : (G → Res D) → Sm) : Prop where
  gl : mg x = some (.ref fg)
  da : (a == ("__debug__" : Str)) = false
  dc : (a == ("__classdict__" : Str)) = false
  a0 : N[0]? = some a
  ex : ∃ (qual : Str) (params : Arguments) (body : List Stmt) (scope : Scope) (fd : FuncData), FunD T.K x qual params body scope [] [] fg fd ∧ FnScope N [a] scope ∧ Vis scope a ∧ (∀ (s : Shared) (u : Value), BindsTo s fd ⟨[u], []⟩ [(a, u)]) ∧
    ∀ (f0 : Nat → Option Mk) (cdv : Value) (A : Around) (outer : List PySem.Env) (s : Shared) (H : Hp) (E : XK) (th : G → Res D), f0 0 = none → DefX (T.as f0) mg base k (cxOf (L2.CX T.P T.w) T.P T.w T.K mg base N qual scope fg cdv A outer s H E) (fun cls dx _ H' => E cls dx H') →
      (∀ (W' : WX) (pn : List (Addr × Obj)) (xe : Value → Shared → Prop) (p1 p2 : Pos), Takes ((cxOf (L2.CX T.P T.w) T.P T.w T.K mg base N qual scope fg cdv A outer s H E).tr pn xe) W' → EE (T.as f0) W' ((cxOf (L2.CX T.P T.w) T.P T.w T.K mg base N qual scope fg cdv A outer s H E).tr pn xe) (.Call (.Name a p1) [] [] p2) (mAsk 0 th)) →
      SB (T.as f0) (fun cls dx _ H' => E cls dx H') (cxOf (L2.CX T.P T.w) T.P T.w T.K mg base N qual scope fg cdv A outer s H E) body (mH th)
theorem HearD.mono {T : Wd} {mg : Str → Option Value} {base : Heap} {j k : Nat} {x a : Str} {N : List Str} {fg : Addr} {mH : (G → Res D) → Sm} (F : HearD T mg base j x a N fg mH) (h : j ≤ k) : HearD T mg base k x a N fg mH := by
  obtain ⟨q, pa, b, sc, fd, h1, h2, h3, h4, h5⟩ := F.ex
  exact ⟨F.gl, F.da, F.dc, F.a0, q, pa, b, sc, fd, h1, h2, h3, h4, fun f0 cdv A outer s H E th h0 dx ask => h5 f0 cdv A outer s H E th h0 ⟨dx.ok, dx.rm, dx.room.mono h, dx.mg, dx.base, dx.tk, dx.calm⟩ ask⟩
theorem start_one {N : List Str} {v : V} {a : Str} (h : N[0]? = some a) : L2.start N [v] = some v :: List.replicate (N.length - 1) none := by
  cases N with
  | nil => simp at h
  | cons b N => simp [L2.start]
theorem heE_get {n i : Nat} {s : Sl} (h : (heE n)[i]? = some s) : s = .no ∨ (i = 0 ∧ s = .mk 1) := by
  unfold heE at h
  cases i with
  | zero => exact .inr ⟨rfl, by simpa using h.symm⟩
  | succ i =>
    rw [List.getElem?_cons_succ, List.getElem?_replicate] at h
    split at h
    · exact .inl (Option.some.inj h).symm
    · cases h
section
variable {T : Wd} {W : WX} {X : Cx} {mg : Str → Option Value} {base : Heap}
theorem ee_hear {k : Nat} {x a q : Str} {N : List Str} {fg c : Addr} {mH : (G → Res D) → Sm} {mb : Ev} {params : Arguments} {body : Expr} {scope : Scope} {p lpos pos : Pos}
    (F : HearD T mg base (k + 1) x a N fg mH) (dx : DefX T mg base (k + 2) X W) (m0 : T.mks 0 = none) (hg : Gl X x) (hq : q = X.env.qual ++ "<lambda>") (TB : TabB base mg c (T.tb q)) (hcode : X.env.code = .ref c) (L : LamS X.env.scope scope) (hdef : defaultsOf params X.env = ([], []))
    (hbind : ∀ (q : Str) (cl : List (Str × Addr)) (pm cv ctv : Value), bindArgs (PySem.W.kla_fn "<lambda>" q params body scope cl pm cv ctv) ⟨[], []⟩ = pure [])
    (hbody : ∀ (A : Around) (outer : List PySem.Env) (s : Shared) (H : Hp) (E : XK) (fl c' : Addr), DefX T mg base k (lamCx X A outer s H E scope fl c') (fun cls dx _ H' => E cls dx H') → EE T (fun cls dx _ H' => E cls dx H') (lamCx X A outer s H E scope fl c') body mb)
    (j : Nat) (hdb : (x == ("__debug__" : Str)) = false := by decide) (he : starEach [.Lambda params body scope lpos] X.env = (false, eval (.Lambda params body scope lpos) X.env) :: starEach [] X.env := by rfl) (hpl : (backTo pos (starEach [] X.env)).any (·.1) = false := by rfl) :
    EE T W X (.Call (.Name x p) [.Lambda params body scope lpos] [] pos) (mHear j q N.length mH mb) := by
  subst hq
  refine ⟨fun pins s σ H Q I ⟨γ, ρ, g, S, pp⟩ => ?_⟩
  unfold mHear at pp
  split at pp
  case h_2 => exact pp.elim
  rename_i q' hj
  split at pp
  case isFalse => exact pp.elim
  rename_i eq
  subst eq
  obtain ⟨P, eP, eT, tz⟩ := S.cells.at_ j _ hj
  obtain ⟨qual, pa, bd, sc, fd, FD, FS, hv, hb, hrun⟩ := F.ex
  have hk : PySem.W.keepIn X.K (.ref fg) = true := by rw [dx.ok.K]; exact FD.kp
  have TBX : TabB X.base X.mg c P := by rw [dx.base, dx.mg, eT]; exact TB
  refine wpAny_Call_Name_kw (ld_glob I hg (by rw [dx.mg]; exact F.gl) ?_ hdb)
  refine PySem.W.callWith_K (h₀ := X.base) I.ok.mod.kin hk ?_ he hpl
  rw [he]
  refine Calls.spliced_cons (lam_new (bar := γ.bar) I TBX hcode S.bart tz hdef L fun fl c' pm ctv H1 s1 I1 lh hfl hfn hfr => ?_)
  refine Calls.spliced_nil ⟨I1.kIn, ?_⟩
  show wpAny _ _ (call (.ref fg) [.ref fl]) _ _ _
  obtain ⟨hco, nbc, cases_, tz1⟩ := lh
  have Pι : P ∈ γ.ι := List.mem_of_getElem? eP
  have st : Stp γ.ι γ.ι H H1 := by
    rcases cases_ with rfl | ⟨ps, more, hP, hc0, rfl⟩
    · exact .refl
    · refine ⟨fun b o e n => ?_, fun b o e im => ?_, fun b o e => ?_, [], by simp, by simp⟩
      · rw [upd_ne (ne_of_none e hc0), upd_ne fun z => n (by rw [z]; exact Pι)]; exact e
      · rw [upd_ne (ne_of_none e hc0), upd_ne fun z => ?_]
        · exact e
        · rw [z, hP] at e; cases e; exact im
      · by_cases h1 : b = P
        · rw [h1, upd_ne (ne_of_none hP hc0), upd_same]; exact ⟨_, rfl⟩
        · rw [upd_ne (ne_of_none e hc0), upd_ne h1]; exact ⟨o, e⟩
  have G1 : GR T γ.ι (γ.to γ.ι).bar H1 g := by
    refine ⟨S.cells.len, S.cells.nd, fun n c2 e => ?_⟩
    obtain ⟨a2, e2, r2⟩ := S.cells.at_ n c2 e
    refine ⟨a2, e2, ?_⟩
    by_cases hn : n = j
    · subst hn
      rw [hj] at e; cases e
      rw [eP] at e2; cases e2
      exact ⟨eT, tz1⟩
    · have na : a2 ≠ P := fun z => by
        subst z
        obtain ⟨l1, h1⟩ := List.getElem?_eq_some_iff.mp e2
        obtain ⟨l2, h2⟩ := List.getElem?_eq_some_iff.mp eP
        exact hn ((List.getElem_inj S.cells.nd).mp (h1.trans h2.symm))
      cases c2 with
      | dk ks vs =>
        obtain ⟨ws, q1, q2, q3⟩ := r2
        refine ⟨ws, q1.keep st γ.bi (Gho.grows st), q2, ?_⟩
        rcases cases_ with rfl | ⟨ps, more, hP, hc0, rfl⟩
        · exact q3
        · rw [upd_ne (ne_of_none q3 hc0), upd_ne na]; exact q3
      | tb q2 =>
        obtain ⟨eT2, ps2, q1, q2, q3⟩ := r2
        rcases cases_ with rfl | ⟨ps, more, hP, hc0, rfl⟩
        · exact ⟨eT2, ps2, q1, q2, q3⟩
        · refine ⟨eT2, ps2, by rw [upd_ne (ne_of_none q1 hc0), upd_ne na]; exact q1, q2, fun pos2 cv hcv => ?_⟩
          obtain ⟨c0, u1, u2, u3⟩ := q3 pos2 cv hcv
          refine ⟨c0, u1, ?_, u3⟩
          rw [upd_ne (ne_of_none u2 hc0), upd_ne fun z => ?_]
          · exact u2
          · rw [z, hP] at u2
            exact codeO_ne _ (Option.some.inj u2).symm
  have S1 : StR T γ H1 ρ σ g := S.step st G1
  obtain ⟨vs, rv, hcap⟩ := cap_rel ρ σ S1.vals
  let f0 : Nat → Option Mk := fun n => if n = 1 then some (.fn fl c' (CodeO c' (X.env.qual ++ "<lambda>")) (capD ρ) vs) else none
  have key : codeAny (model T.P T.w) X.A (.call (.ref fg) ⟨[.ref fl], []⟩) (CR (L2.CX T.P T.w) X.stack T.P T.w H1 s1 Q (WE W σ)) s1 := by
    obtain ⟨oc, od, dV, kV, doc, pm2, an, cdv, ct, osl, rfl, lk, hcd, _, _⟩ := FD.ex
    have e0 : Env0 T.P T.w T.K X.mg X.base X.A X.stack s1 H1 := by
      have := I1.env0
      rw [dx.ok.P, dx.ok.w, dx.ok.K] at this
      exact this
    refine run_ofS (us := [Value.ref fl]) lk hcd FS dx.room e0 (hb s1 (.ref fl)) (vs := [V.ref fl]) (.cons rfl .nil) rfl fun hr2 => ?_
    have I1' : Inv X pins σ H1 s1 := I1
    have DX : DefX (T.as f0) mg base (k + 1) (cxOf (L2.CX T.P T.w) T.P T.w T.K mg base N qual sc fg cdv X.A X.stack s1 H1 (WE W σ)) (fun cls d _ H' => WE W σ cls d H') := by
      refine ⟨⟨rfl, rfl, rfl⟩, ⟨?_, dx.rm.hg⟩, hr2, rfl, rfl, takes_of rfl rfl rfl rfl, rfl⟩
      have := hr2.un
      show (X.A.deeper (envOfC qual sc s1.heap.objs.size fg cdv)).units + 120 < cLine
      omega
    have em : X.mg = mg := dx.mg
    have eb : X.base = base := dx.base
    subst em eb
    refine ⟨tS (T.as f0) (fun cls d _ H' => WE W σ cls d H') (mH fun g' => mb (capE ρ) g'), hrun f0 cdv X.A X.stack s1 H1 (WE W σ) _ rfl DX (fun W' pn xe p1 p2 tk => ?_), ?_⟩
    · exact ee_ask dx.ok I1' L hfl hfn hfr rfl (hbind _ _ _ _ _) rfl hcap S1.len tk hr2 dx.rm.hg (fun A outer s H E dl => hbody A outer s H E fl c' dl) F.a0 hv F.da F.dc
    · have ob : ∀ a, γ.out.bar a → γ.bar a := fun a => Gho.out_bar.mp
      have nm : ∀ n, n ≠ 1 → f0 n = none := fun n h => if_neg h
      refine ⟨⟨γ.ι, H1, γ.out.av, [], []⟩, γ.out, heE N.length, g, ⟨⟨?_, fun i d h => ?_, fun i d h => ?_, fun i a h => (by cases h), fun i j a h => (by cases h), fun i a h => (by cases h), fun a h => S1.bart a (ob _ (.inr (.inr h))), (S1.cells.fewer ob).as, fun i n h => ?_⟩, .refl, rfl, fun i a h => (by cases h), .nil⟩, ?_⟩
      · rw [start_one F.a0]; simp [heE]
      · rcases heE_get h with h | ⟨_, h⟩ <;> cases h
      · rcases heE_get h with h | ⟨_, h⟩ <;> cases h
      · rcases heE_get h with h | ⟨rfl, h⟩
        · cases h
        · cases h
          exact ⟨.fn fl c' (CodeO c' (X.env.qual ++ "<lambda>")) (capD ρ) vs, rfl, by rw [start_one F.a0]; rfl, hco, fun z => nbc (ob _ z), (rv.fewer ob).as⟩
      · have pp : Post T γ H σ W (rD T) Q (denHe N.length (mH fun g' => mb (capE ρ) g') g) := pp
        unfold denHe at pp
        have back : ∀ {γ' : Gho} {a : Addr}, (γ.to γ'.ι).bar a → γ'.av = γ.out.av → γ'.bar a := by
          rintro γ' a (q | ⟨i, q⟩ | q) e
          · exact .inl q
          · exact .inr (.inr (e ▸ .inr ⟨i, q⟩))
          · exact .inr (.inr (e ▸ .inl q))
        revert pp
        cases mH (fun g' => mb (capE ρ) g') (heE N.length) g with
        | nx ρ' g' => exact fun pp γ' σ' H' S' => pp .non γ'.ι H' (st.trans S'.ent) (GR.as (T := T.as f0) (f := T.mks) (S'.st.cells.fewer fun a q => back q S'.fav)) RelD.ofNon
        | rt d g' => exact fun pp v γ' H' fa ow st' G' r' => pp v γ'.ι H' (st.trans st') (GR.as (T := T.as f0) (f := T.mks) (G'.fewer fun a q => back q fa)) (RelD.as (T := T.as f0) (f := T.mks) (r'.fewer fun a q => back q fa))
        | bk ρ' g' => exact fun pp => pp.elim
        | ct ρ' g' => exact fun pp => pp.elim
        | exc xc ρ' g' => exact fun pp γ' σ' H' cls d S' r' => pp cls d γ'.ι H' (st.trans S'.ent) (GR.as (T := T.as f0) (f := T.mks) (S'.st.cells.fewer fun a q => back q S'.fav)) (ExcR.as (T := T.as f0) (f := T.mks) (r'.fewer fun a q => back q S'.fav))
        | bad => exact fun pp => pp.elim
  rw [← dx.ok.P, ← dx.ok.w] at key
  refine wpAny_call (codeAny_mono key fun r s' hq => ?_)
  cases r with
  | error er => exact passAt dx.tk σ pins H1 s1 er s' I1 hq
  | ok flw =>
    cases flw with
    | ret u => exact I1.after hq
    | next => exact hq
    | brk => exact hq
    | cont => exact hq
end
end Z

namespace Z
open PySem PySem.Spec PyProof.Rows L2 LamX
set_option autoImplicit false

/-! ### the law's end, with tables of code objects -/
/-- the law's own answer, at any script; qs: the defs' names whose lambdas' code is kept in tables -/
def LawT (den : Den) (n : Nat) (qs : List Str) : Prop := ∀ ns : List Int, ns.length ≤ n → ∃ g, den [.scr ns] (qs.map Cell.tb) = .ok (.bl true) g
/-- one table: the name, the code object -/
abbrev TbE := Str × Addr
abbrev emptyO : Obj := { cls := .none, data := .fields #[] }
theorem law_endT {T : Wd} {mg mb : Str → Option Value} {k : Nat} {fa a : Addr} {fd : FuncData} {x : Str} {den : Den} {n : Nat} {s1 : Shared} {vs : List Value} {ns : List Int} {cs : List TbE}
    (inK : T.K.In s1.heap) (gg : s1.heap.Ns mainGlobals mg) (gb : s1.heap.Ns builtinsNs mb) (bb : ∀ x : Str, x ≠ "__name__" → mb x = bootBuiltins x) (nl : s1.heap.NoLimit) (ng : s1.gens = #[])
    (hT : ∀ p ∈ cs, s1.heap.get? (T.tb p.1) = some emptyO) (nT : ∀ p ∈ cs, T.K.lookup (T.tb p.1) = none) (hC : ∀ p ∈ cs, PySem.W.CodeHd s1.heap p.2 (T.tb p.1)) (nd : (cs.map fun p => T.tb p.1).Nodup)
    (hbm : ∃ (bm : Addr) (ob : Obj), mg "__builtins__" = some (.ref bm) ∧ bm ≠ builtinsNs ∧ s1.heap.get? bm = some ob ∧ ob.cls = .type "module" ∧ ob.dict = some builtinsNs ∧ ob.data = .plain)
    (ha : s1.heap.get? a = some { cls := .type "list", data := .seq vs.toArray }) (hi : IntsAre vs ns) (hz : ns.length ≤ sizeLine) (hn : ns.length ≤ n) (hr : Room k callerA)
    (F : ∀ base : Heap, T.K.In base → base.Ns mainGlobals mg → (∀ p ∈ cs, TabB base mg p.2 (T.tb p.1)) → FnG T mg base k fa fd [x] den) (hb : ∀ (s : Shared) (u : Value), BindsTo s fd ⟨[u], []⟩ [(x, u)]) (L : LawT den n (cs.map (·.1))) :
    codeAny (model T.P T.w) callerA (.call (.ref fa) ⟨[.ref a], []⟩) (fun r s' => r = .ok (.ret (.bool true)) ∧ OldK s1.heap s'.heap ∧ s'.os = s1.os ∧ AllBare s'.gens) s1 := by
  have rv : Vals (ns.map V.int) vs := vals_ints hi
  have lv := hi.length
  obtain ⟨g', hden⟩ := L ns hn
  let Ps : List Addr := cs.map fun p => T.tb p.1
  have inPs : ∀ b, b ∈ Ps → ∃ p ∈ cs, T.tb p.1 = b := fun b h => by
    obtain ⟨p, hp, e⟩ := List.mem_map.mp h
    exact ⟨p, hp, e⟩
  have isT : ∀ b, b ∈ Ps → s1.heap.get? b = some emptyO := fun b h => by
    obtain ⟨p, hp, e⟩ := inPs b h
    rw [← e]; exact hT p hp
  have aPs : a ∉ Ps := fun z => by
    have q := isT a z
    rw [ha] at q
    cases congrArg Obj.data (Option.some.inj q)
  suffices core : ∀ H : Hp, (∀ b ∈ Ps, H b = some (.tbl #[])) → ScrA T.K H a (ns.map V.int) → HOk T.P T.w H s1.heap → (∀ b, H b ≠ none → b = a ∨ b ∈ Ps) → (H a ≠ none → T.K.lookup a = none ∧ ∃ o xs, H a = some (.frz o (.lst xs))) →
      codeAny (model T.P T.w) callerA (.call (.ref fa) ⟨[.ref a], []⟩) (fun r s' => r = .ok (.ret (.bool true)) ∧ OldK s1.heap s'.heap ∧ s'.os = s1.os ∧ AllBare s'.gens) s1 by
    let H0 : Hp := fun b => if b ∈ Ps then some (.tbl #[]) else none
    have H0t : ∀ b ∈ Ps, H0 b = some (.tbl #[]) := fun b h => if_pos h
    have H0n : ∀ b, b ∉ Ps → H0 b = none := fun b h => if_neg h
    have okT : ∀ (H : Hp) b, b ∈ Ps → ObjOk T.P T.w H s1.heap b (.tbl #[]) := fun H b h => isT b h
    cases hk : T.K.lookup a with
    | some o =>
      have q := inK a o hk
      rw [ha] at q; cases q
      refine core H0 H0t (.inr ⟨_, vs.toArray, _, hk, rfl, rfl, rfl, by rw [List.size_toArray, lv]; exact hz, by simpa using rv⟩) (fun b u z => ?_) (fun b z => ?_) fun z => absurd (H0n a aPs) z
      · by_cases c : b ∈ Ps
        · rw [H0t b c] at z; cases z; exact okT _ b c
        · rw [H0n b c] at z; cases z
      · exact .inr (Classical.byContradiction fun c => z (H0n b c))
    | none =>
      have lst : ∀ (H : Hp), ObjOk T.P T.w H s1.heap a (.frz { cls := .type "list", data := .seq vs.toArray } (.lst (ns.map V.int))) := fun H => ⟨ha, by rw [List.length_map]; exact hz, vs, _, rv, ha⟩
      refine core (upd H0 a (.frz { cls := .type "list", data := .seq vs.toArray } (.lst (ns.map V.int)))) (fun b h => ?_) (.inl ⟨_, upd_same⟩) (fun b u z => ?_) (fun b z => ?_) fun _ => ⟨hk, _, _, upd_same⟩
      · rw [upd_ne (show b ≠ a from fun e => aPs (by rw [← e]; exact h))]; exact H0t b h
      · by_cases c : b = a
        · subst c
          rw [upd_same] at z; cases z
          exact lst _
        · rw [upd_ne c] at z
          by_cases c2 : b ∈ Ps
          · rw [H0t b c2] at z; cases z; exact okT _ b c2
          · rw [H0n b c2] at z; cases z
      · by_cases c : b = a
        · exact .inl c
        · rw [upd_ne c] at z
          exact .inr (Classical.byContradiction fun c2 => z (H0n b c2))
  intro H tH sH okH one noK
  have old : ∀ {b : Addr} {o : Obj}, s1.heap.get? b = some o → H b = none → (hidT s1.heap H).get? b = some o := fun q nb => hidT_get q nb
  have free : ∀ {b : Addr} {o : Obj}, s1.heap.get? b = some o → (∀ us m, o.data ≠ .seq us m) → o.data ≠ .fields #[] → H b = none := fun {b o} q h1 h2 => by
    cases c : H b with
    | none => rfl
    | some u =>
      rcases one b (by rw [c]; simp) with e | e
      · rw [e, ha] at q; cases q; exact absurd rfl (h1 _ _)
      · rw [isT b e] at q; cases q; exact absurd rfl h2
  have nsB : ∀ {b : Addr} {m : Str → Option Value}, s1.heap.Ns b m → (hidT s1.heap H).Ns b m := fun {b m} ⟨o, es, ep, q, hd, rest⟩ =>
    ⟨o, es, ep, old q (free q (fun us m z => by rw [hd] at z; cases z) fun z => by rw [hd] at z; cases z), hd, rest⟩
  have kB : T.K.In (hidT s1.heap H) := fun b o q => old (inK b o q) (by
    cases c : H b with
    | none => rfl
    | some u =>
      rcases one b (by rw [c]; simp) with e | e
      · subst e
        rw [(noK (by rw [c]; simp)).1] at q; cases q
      · obtain ⟨p, hp, ep⟩ := inPs b e
        rw [← ep, nT p hp] at q; cases q)
  have modB : Mod T.K mg (hidT s1.heap H) := ⟨kB, nsB gg, ⟨mb, nsB gb, bb⟩, by obtain ⟨mc, p1, p2⟩ := nl; exact ⟨mc, nsB p1, p2⟩⟩
  have tabB : ∀ p ∈ cs, TabB (hidT s1.heap H) mg p.2 (T.tb p.1) := fun p hp => by
    have atP := hT p hp
    refine ⟨?_, ?_, fun z => ?_⟩
    · obtain ⟨o, us, fl, tf, fg, tg, inF, tx, tt, g1, r1, r2, r3, rest⟩ := hC p hp
      refine ⟨o, us, fl, tf, fg, tg, inF, tx, tt, old g1 (free g1 (fun vs m z => by rw [r2] at z; cases z) fun z => ?_), r1, r2, r3, rest⟩
      rw [r2] at z; cases z; simp at r3
    · obtain ⟨bm, ob, b1, b2, b3, b4, b5, b6⟩ := hbm
      refine ⟨bm, ob, b1, b2, fun q => ?_, fun q => ?_, old b3 (free b3 (fun vs m z => by rw [b6] at z; cases z) fun z => by rw [b6] at z; cases z), b4, b5, b6⟩
      · obtain ⟨o, es, ep, e, hd, _⟩ := gg
        rw [q, e] at b3; cases b3; rw [hd] at b6; cases b6
      · rw [q, atP] at b3; cases b3; cases b6
    · obtain ⟨o, es, ep, e, hd, _⟩ := gg
      rw [z, atP] at e; cases e; cases hd
  have env0 : Env0 T.P T.w T.K mg (hidT s1.heap H) callerA [] s1 H := ⟨rfl, modB, fun b o q => of_hidT q, Nat.le_of_eq (hidT_size _ _), trivial, fun b z => (by simp [frs] at z), okH, .of_eq ng⟩
  have spec : spD T den [.ref a] H (fun v _ => v = .bl true) (fun _ _ _ => False) := by
    refine ⟨⟨Ps, fun _ => none, fun _ => False⟩, [.scr ns], (cs.map (·.1)).map Cell.tb, ⟨by simp [Ps], nd, fun m c e => ?_⟩, fun _ => rfl, fun _ z => z.elim, ?_, ?_⟩
    · rw [List.getElem?_map, List.getElem?_map, Option.map_eq_some_iff] at e
      obtain ⟨q, e, rfl⟩ := e
      rw [Option.map_eq_some_iff] at e
      obtain ⟨p, e, rfl⟩ := e
      refine ⟨T.tb p.1, by simp [Ps, e], rfl, #[], tH _ (List.mem_map.mpr ⟨p, List.mem_of_getElem? e, rfl⟩), trivial, fun pos cv hc => ?_⟩
      have z : codeAmong pos [] = some cv := hc
      simp [codeAmong] at z
    · exact .cons (by simp only [RelD]; exact ⟨a, rfl, sH⟩) .nil
    · rw [hden]
      intro v ι' H' _ _ r1
      simpa only [RelD] using r1
  refine codeAny_mono ((F _ kB (nsB gg) tabB).run callerA [] s1 H ⟨[.ref a], []⟩ [.ref a] [.ref a] _ _ hr rfl env0 (hb s1 (.ref a)) (.cons rfl .nil) rfl spec) fun r s' h => ?_
  cases r with
  | error e =>
    obtain ⟨_, _, _, _, _, _, _, _, _, _, _, _, z⟩ := h
    exact z.elim
  | ok fl =>
    cases fl with
    | next => exact h.elim
    | brk => exact h.elim
    | cont => exact h.elim
    | ret u =>
      obtain ⟨v, H', os, bare, un, ok', rr, hv⟩ := h
      have hu := RelV_true hv rr
      subst hu
      have key : ∀ b o, b ∉ Ps → s1.heap.get? b = some o → s'.heap.get? b = some o := fun b o nb q => by
        cases c : H b with
        | none => exact un.keep b o q c (by intro z; cases z) (by simp)
        | some w =>
          rcases one b (by rw [c]; simp) with e | e
          · subst e
            obtain ⟨_, ob, ys, z⟩ := noK (by rw [c]; simp)
            obtain ⟨p1, _⟩ := okH b _ z
            obtain ⟨p2, _⟩ := ok' b _ (un.frzs b ob _ z)
            rw [p1] at q; cases q
            exact p2
          · exact absurd e nb
      have grown : ∀ p ∈ cs, ∃ more : Array Value, s'.heap.get? (T.tb p.1) = some { cls := .none, data := .fields more } := fun p hp => by
        obtain ⟨more, z⟩ := un.tbls (T.tb p.1) #[] (tH _ (List.mem_map.mpr ⟨p, hp, rfl⟩))
        exact ⟨_, ok' _ _ z⟩
      refine ⟨rfl, ⟨fun b o q => ?_, fun b o q => ?_⟩, os, bare⟩
      · by_cases c : b ∈ Ps
        · obtain ⟨p, hp, rfl⟩ := inPs b c
          obtain ⟨more, hm⟩ := grown p hp
          rw [hT p hp] at q; cases q
          exact .inr (.inl ⟨((hC p hp).tab (hT p hp)).isCodeTable, rfl, #[], more, rfl, by rw [Array.empty_append]; exact hm⟩)
        · exact .inl (key b o c q)
      · by_cases c : b ∈ Ps
        · obtain ⟨p, hp, rfl⟩ := inPs b c
          obtain ⟨more, hm⟩ := grown p hp
          exact ⟨_, hm⟩
        · exact ⟨o, key b o c q⟩
/-- the walk's goal behind a head by facts -/
theorem walk_endT {l : PySem.W.OpenLaw} {n k : Nat} {q : Program} {loose : List Str} {XP : (Str → Option Value) → Heap → Prop} {YP : World → Heap → Prop} {d : DefRec} {x : Str}
    (hn : l.most = some n) (hn2 : n ≤ sizeLine) (hdf : d.params.defaults = []) (hr : Room k callerA)
    (F : ∀ (w : World) (mg : Str → Option Value) (fa : Addr) (h : Heap), YP w h → h.Ns mainGlobals mg → mg d.name = some (.ref fa) →
      ∃ (T : Wd) (fd : FuncData) (den : Den) (cs : List TbE), T.P = l.prog ∧ T.w = w ∧ T.K.In h ∧ (∀ (s : Shared) (u : Value), BindsTo s fd ⟨[u], []⟩ [(x, u)]) ∧ LawT den n (cs.map (·.1)) ∧
        (∀ p ∈ cs, h.get? (T.tb p.1) = some emptyO) ∧ (∀ p ∈ cs, T.K.lookup (T.tb p.1) = none) ∧ (∀ p ∈ cs, PySem.W.CodeHd h p.2 (T.tb p.1)) ∧ (cs.map fun p => T.tb p.1).Nodup ∧
        ∀ base : Heap, T.K.In base → base.Ns mainGlobals mg → (∀ p ∈ cs, TabB base mg p.2 (T.tb p.1)) → FnG T mg base k fa fd [x] den) :
    PySem.W.WalkO q loose XP YP l.row.toRowW d [] (fun f vs => PySem.call f vs) := by
  refine Att.attach_callB hn hdf fun w s0 s1 mg mb fa o pm cd doc a vs ns GG YY ho hd hcd hmg hobj hints hlen hbits hg => ?_
  obtain ⟨T, fd, den, cs, e1, e2, inK, hb, L, t1, t2, t3, t4, hF⟩ := F w mg fa _ YY GG.T.g hmg
  have := law_endT (T := T) inK GG.T.g GG.T.b GG.T.builtins GG.T.nolimit hg t1 t2 t3 t4 GG.T.bmain hobj hints (Nat.le_trans hlen hn2) hlen hr hF hb L
  rw [e1, e2] at this
  exact this
end Z

namespace Z
open PySem PySem.Spec PyProof.Rows L2 LamX
set_option autoImplicit false

/-! ### the head's facts, with classes of errors -/
structure ErD where
  x : Str
  qual : Str
  params : Arguments
  body : List Stmt
  scope : Scope
  fs : List Str
abbrev FnE : Type := Option (Str × Str × Arguments × FuncBody × Scope × Addr × List Str × Value × Addr)
abbrev eC (K : PySem.W.Frag) (x : Str) : Addr := He.ga K x
abbrev eI (K : PySem.W.Frag) (x : Str) : Addr := He.ma K (He.ga K x) "__init__"
def fnE (K : PySem.W.Frag) (x : Str) : FnE := match K.lookup (eI K x) with
  | some ⟨_, _, .func fd, _⟩ => some (fd.name, fd.qualname, fd.params, fd.body, fd.scope, fd.globals, fd.closure.map (·.1), fd.defaults, fd.builtins)
  | _ => none
def ErD.val (e : ErD) : FnE := some ("__init__", e.qual, e.params, .stmts e.body, e.scope, mainGlobals, ["__class__"], .none, builtinsNs)
def oexB (K : PySem.W.Frag) (C : Addr) : Bool := match K.lookup C with
  | some ⟨.type "type", _, .cls cd, sl⟩ => (match cd.mro, sl.toList with
    | .ref C' :: bm, [_, _, _, _, some (.builtin n), _] => decide (C' = C) && (decide (n = "ValueError.__new__") && (!cd.hasDel && (cd.hasDict && PySem.HandSPX.refsVE bm)))
    | _, _ => false)
  | _ => false
theorem oexB_ok {K : PySem.W.Frag} {C : Addr} (h : oexB K C = true) : ∃ nm q N bs bm sn sub ab col dd k0 k1 k2 k3 k5, K.lookup C = some (excClassObj nm q C N bs bm true sn sub ab col dd k0 k1 k2 k3 k5 "ValueError.__new__") ∧ PySem.HandSPX.refsVE bm = true := by
  unfold oexB at h
  split at h
  · rename_i dd cd sl ho
    split at h
    · rename_i C' bm k0 k1 k2 k3 n k5 hm hs
      obtain ⟨h1, h⟩ := He.ba h
      obtain ⟨h2, h⟩ := He.ba h
      obtain ⟨h3, h⟩ := He.ba h
      obtain ⟨h4, h5⟩ := He.ba h
      have h1 := of_decide_eq_true h1
      have h2 := of_decide_eq_true h2
      subst h1 h2
      obtain ⟨nm, bs, mro, ns, qn, hd, sn, sub, ab, col, del⟩ := cd
      dsimp only at hm h3 h4
      subst hm h4
      have h3 : del = false := by simpa using h3
      subst h3
      have hsl : sl = #[k0, k1, k2, k3, some (.builtin "ValueError.__new__"), k5] := by
        obtain ⟨l⟩ := sl
        simp only at hs
        rw [hs]
      subst hsl
      exact ⟨_, _, _, _, _, _, _, _, _, _, _, _, _, _, _, ho, h5⟩
    · cases h
  · cases h
def xB (K : PySem.W.Frag) (C : Addr) : Bool := (PySem.W.clsIn K C).isSome && (He.eqO (PySem.W.findIn K (.ref C) "__getattribute__") (some (some (.builtin "BaseException.__getattribute__"))) && (He.eqO (PySem.W.findIn K (.ref C) "__getattr__") (some none) &&
  (decide (PySem.W.subIn K (.ref C) (.type "BaseException") = some true) && (PySem.W.hasDictIn K C && (He.eqO (PySem.W.findIn K (.ref C) "__class__") (some (some (.builtin "object.__class__"))) &&
  (He.eqO (PySem.W.specialIn K (.builtin "object.__class__") "__get__") (some (some (.builtin "getset_descriptor.__get__"))) && (decide (PySem.W.takesIn K (.builtin "object.__class__") = some true) && decide (PySem.W.mroIn K C (.type "object") = some true))))))))
theorem xB_ok {K : PySem.W.Frag} {C : Addr} (h : xB K C = true) : ErrX K C := by
  obtain ⟨h1, h⟩ := He.ba h
  obtain ⟨h2, h⟩ := He.ba h
  obtain ⟨h3, h⟩ := He.ba h
  obtain ⟨h4, h⟩ := He.ba h
  obtain ⟨h5, h⟩ := He.ba h
  obtain ⟨h6, h⟩ := He.ba h
  obtain ⟨h7, h⟩ := He.ba h
  obtain ⟨h8, h9⟩ := He.ba h
  exact ⟨h1, He.eqO_ok h2, He.eqO_ok h3, of_decide_eq_true h4, h5, He.eqO_ok h6, He.eqO_ok h7, of_decide_eq_true h8, of_decide_eq_true h9⟩
def codB (file : Str) (K : PySem.W.Frag) (C fI : Addr) (q : Str) : Bool := match K.lookup fI with
  | some ⟨_, _, .func fd, _⟩ => (match fd.code, fd.closure with
    | .ref cda, [(_, cc)] => PySem.W.codeIn K (.ref cda) q && ((match K.lookup cda with
      | some ⟨_, _, .fields vs, _⟩ => (match (vs[2]? : Option Value) with
        | some (.str f _) => decide (f = file)
        | _ => false)
      | _ => false) && (match K.lookup cc with
      | some ⟨_, _, .cell (some (.ref D)), _⟩ => decide (D = C)
      | _ => false))
    | _, _ => false)
  | _ => false
def erB (file : Str) (K : PySem.W.Frag) (e : ErD) : Bool := oexB K (eC K e.x) && (He.eqO (PySem.W.findIn K (.ref (eC K e.x)) "__setattr__") (some (some (.builtin "object.__setattr__"))) && (decide (PySem.W.typeIn K (.ref (eC K e.x)) = some (.type "type")) && (PySem.W.keepIn K (.ref (eC K e.x)) &&
  (He.eqO (PySem.W.nsIn K mainGlobals e.x) (some (some (.ref (eC K e.x)))) && (He.eqO (PySem.W.findIn K (.ref (eC K e.x)) "__init__") (some (some (.ref (eI K e.x)))) && (decide (PySem.W.typeIn K (.ref (eI K e.x)) = some (.type "function")) &&
  (codB file K (eC K e.x) (eI K e.x) e.qual && (decide (PySem.W.mroIn K (eC K e.x) (.ref (eC K e.x)) = some true) && (He.eqO (PySem.W.ks_superIn K (eC K e.x) (eC K e.x) "__init__") (some (some (.builtin "ValueError.__init__"))) &&
  (decide (PySem.W.subIn K (.ref (eC K e.x)) (.type "ValueError") = some true) && (He.eqO (PySem.W.nsIn K cStatics "thirdparty.any") (some none) && ((e.fs.all fun f => He.eqO (PySem.W.findIn K (.ref (eC K e.x)) f) (some none)) && xB K (eC K e.x)))))))))))))
/-- what is known of a class of errors -/
structure ErOk (P : Program) (K : PySem.W.Frag) (e : ErD) : Prop where
  gl : PySem.W.nsIn K mainGlobals e.x = some (some (.ref (eC K e.x)))
  ini : ∃ cda cc, InitK P K (eC K e.x) (eI K e.x) cda cc e.qual e.params e.body e.scope e.fs
  ex : ErrX K (eC K e.x)
theorem erB_ok {P : Program} {K : PySem.W.Frag} {e : ErD} (h : erB P.main.file K e = true) (hv : fnE K e.x = e.val) : ErOk P K e := by
  obtain ⟨h1, h⟩ := He.ba h
  obtain ⟨h2, h⟩ := He.ba h
  obtain ⟨h3, h⟩ := He.ba h
  obtain ⟨h4, h⟩ := He.ba h
  obtain ⟨h5, h⟩ := He.ba h
  obtain ⟨h6, h⟩ := He.ba h
  obtain ⟨h7, h⟩ := He.ba h
  obtain ⟨h8, h⟩ := He.ba h
  obtain ⟨h9, h⟩ := He.ba h
  obtain ⟨h10, h⟩ := He.ba h
  obtain ⟨h11, h⟩ := He.ba h
  obtain ⟨h12, h⟩ := He.ba h
  obtain ⟨h13, h14⟩ := He.ba h
  have X := xB_ok h14
  refine ⟨He.eqO_ok h5, ?_, X⟩
  unfold codB at h8
  unfold fnE at hv
  split at h8
  · rename_i oc od fd osl lk
    rw [lk] at hv
    split at h8
    · rename_i cda x cc ecd ecl
      obtain ⟨g1, g⟩ := He.ba h8
      obtain ⟨g2, g3⟩ := He.ba g
      obtain ⟨n1, n2, n3, n4, n5, n6, n7, n8, n9, n10, n11, n12, n13, n14, n15⟩ := fd
      dsimp only at ecd ecl
      subst ecd ecl
      have hv : (some (n1, n2, n3, n4, n5, n6, [x], n8, n15) : FnE) = (some (("__init__" : Str), e.qual, e.params, FuncBody.stmts e.body, e.scope, mainGlobals, [("__class__" : Str)], Value.none, builtinsNs) : FnE) := hv
      simp only [Option.some.injEq, Prod.mk.injEq, List.cons.injEq, and_true] at hv
      obtain ⟨e1, e2, e3, e4, e5, e6, e7, e8, e9⟩ := hv
      subst e1 e2 e3 e4 e5 e6 e7 e8 e9
      refine ⟨cda, cc, ⟨oexB_ok h1, He.eqO_ok h2, X.sub, of_decide_eq_true h3, h4⟩, He.eqO_ok h6, of_decide_eq_true h7, ⟨_, _, _, _, _, _, _, _, lk⟩, g1, ?_, ?_, of_decide_eq_true h9, He.eqO_ok h10, of_decide_eq_true h11, He.eqO_ok h12, fun f hf => He.eqO_ok (List.all_eq_true.mp h13 f hf)⟩
      · split at g2
        · rename_i vs _ lc
          split at g2
          · rename_i f tf hvs
            have := of_decide_eq_true g2
            subst this
            exact ⟨_, _, _, _, _, lc, hvs⟩
          · cases g2
        · cases g2
      · split at g3
        · rename_i D _ lc
          have := of_decide_eq_true g3
          subst this
          exact ⟨_, _, _, lc⟩
        · cases g3
    · cases h8
  · cases h8
/-! ### the Hook -/
abbrev AlE : Type := He.AlD × List FnE × Bool
def asE (g : Addr → Option Obj) (n : Nat) : List Addr := cStatics :: He.asD g n
def obsE (n : Nat) (fa : List He.Fa) (fn : List He.DefD) (er : List ErD) (tf : List He.Defn) (ex : PySem.W.Frag → Bool) (g : Addr → Option Obj) : AlE :=
  (He.obsD fa fn (He.frT g (asE g n)), er.map fun e => fnE (He.frT g (asE g n)) e.x, ex (He.frT g (asE g n)) && He.tabsB g tf (He.frT g (asE g n)))
def valE (fn : List He.DefD) (er : List ErD) : AlE := (He.valD fn, er.map ErD.val, true)
structure SaysE (fa : List He.Fa) (fn : List He.DefD) (er : List ErD) (tf : List He.Defn) (ex : PySem.W.Frag → Bool) (h : Heap) (K : PySem.W.Frag) : Prop where
  d : He.SaysD fa fn K
  er : ∀ e ∈ er, fnE K e.x = e.val
  more : ex K = true
  hd : ∀ p ∈ tf, PySem.W.codeHdIn K (He.cT K p).1 (He.cT K p).2 = true
  out : ∀ p ∈ tf, K.lookup (He.cT K p).2 = none
  empty : ∀ p ∈ tf, h.get? (He.cT K p).2 = some emptyO
theorem saysE_of {n : Nat} {fa : List He.Fa} {fn : List He.DefD} {er : List ErD} {tf : List He.Defn} {ex : PySem.W.Frag → Bool} {h : Heap} (e : obsE n fa fn er tf ex h.get? = valE fn er) : SaysE fa fn er tf ex h (He.frT h.get? (asE h.get? n)) := by
  have e1 : He.obsD fa fn (He.frT h.get? (asE h.get? n)) = He.valD fn := congrArg (fun z : AlE => z.1) e
  have e2 : (er.map fun e => fnE (He.frT h.get? (asE h.get? n)) e.x) = er.map ErD.val := congrArg (fun z : AlE => z.2.1) e
  have e3 : (ex (He.frT h.get? (asE h.get? n)) && He.tabsB h.get? tf (He.frT h.get? (asE h.get? n))) = true := congrArg (fun z : AlE => z.2.2) e
  obtain ⟨a, b⟩ := He.ba e3
  have tab : ∀ p ∈ tf, PySem.W.codeHdIn (He.frT h.get? (asE h.get? n)) (He.cT (He.frT h.get? (asE h.get? n)) p).1 (He.cT (He.frT h.get? (asE h.get? n)) p).2 = true ∧ ∃ o, h.get? (He.cT (He.frT h.get? (asE h.get? n)) p).2 = some o ∧ He.emptyTab o = true := fun p hp => by
    obtain ⟨u, v⟩ := He.ba (List.all_eq_true.mp b p hp)
    refine ⟨u, ?_⟩
    cases q : h.get? (He.cT (He.frT h.get? (asE h.get? n)) p).2 with
    | some o => rw [q] at v; exact ⟨o, rfl, v⟩
    | none => rw [q] at v; cases v
  refine ⟨e1, fun e he => List.map_inj_left.mp e2 e he, a, fun p hp => (tab p hp).1, fun p hp => ?_, fun p hp => ?_⟩
  · obtain ⟨_, o, q, z⟩ := tab p hp
    exact He.frT_none q z
  · obtain ⟨_, o, q, z⟩ := tab p hp
    rw [q, He.emptyTab_eq z]
def hookE (n : Nat) (fa : List He.Fa) (fn : List He.DefD) (er : List ErD) (tf : List He.Defn) (ex : PySem.W.Frag → Bool) : PySem.W.Hook where
  α := AlE
  obs := fun s => obsE n fa fn er tf ex s.heap.get?
  val := fun _ => valE fn er
  says := fun _ h => ∃ K : PySem.W.Frag, K.In h ∧ SaysE fa fn er tf ex h K
  of := fun _ _ e => ⟨_, He.frT_in, saysE_of e⟩
  keeps := fun _ _ _ ⟨K, hK, c⟩ k => ⟨K, PySem.W.Frag.In.keeps hK k, ⟨c.d, c.er, c.more, c.hd, c.out, fun p hp => k _ _ (c.empty p hp)⟩⟩
theorem obsE_eq {n : Nat} {fa : List He.Fa} {fn : List He.DefD} {er : List ErD} {tf : List He.Defn} {ex : PySem.W.Frag → Bool} {g : Addr → Option Obj} {s : Shared} (h : ∀ a, g a = s.heap.get? a) : obsE n fa fn er tf ex g = (hookE n fa fn er tf ex).obs s := by
  have e : g = s.heap.get? := funext h
  rw [e] <;> rfl
end Z

namespace Z
open PySem PySem.Spec PyProof.Rows L2 LamX
set_option autoImplicit false
/-! ### classes of errors, made -/
section
variable {P : Program} {K : PySem.W.Frag} {e : ErD}
theorem errC_2 {f1 f2 : Str} {p0 p1 p2 p3 p4 q0 q1 q2 q3 r0 r1 r2 r3 n1 n2 : Pos} {pl : Sem Bool} (o : ErOk P K e) (hf : e.fs = [f1, f2])
    (hb : e.body = [supB p0 p1 p2 p3 p4 [.Name f1 n1, .Name f2 n2], stB f1 q0 q1 q2 q3, stB f2 r0 r1 r2 r3]) (S : InitS P e.params e.qual e.scope [f1, f2]) (hev : EvS p0 p1 p2 p3 [.Name f1 n1, .Name f2 n2] pl) : ErrC P K (eC K e.x) (eI K e.x) e.fs := by
  obtain ⟨cda, cc, I⟩ := o.ini
  refine ⟨I.oex, I.ini, I.tyI, by rw [hf]; simp, ?_⟩
  rw [hf, hb] at I
  rw [hf]
  intro w A R s e0 t0 us hl X G nl hr he hK hq
  match us, hl with
  | [u1, u2], _ => exact init_2 I S hev X G nl hr he hK hq
theorem errC_1 {f1 : Str} {p0 p1 p2 p3 p4 q0 q1 q2 q3 n1 : Pos} {pl : Sem Bool} (o : ErOk P K e) (hf : e.fs = [f1])
    (hb : e.body = [supB p0 p1 p2 p3 p4 [.Name f1 n1], stB f1 q0 q1 q2 q3]) (S : InitS P e.params e.qual e.scope [f1]) (hev : EvS p0 p1 p2 p3 [.Name f1 n1] pl) : ErrC P K (eC K e.x) (eI K e.x) e.fs := by
  obtain ⟨cda, cc, I⟩ := o.ini
  refine ⟨I.oex, I.ini, I.tyI, by rw [hf]; simp, ?_⟩
  rw [hf, hb] at I
  rw [hf]
  intro w A R s e0 t0 us hl X G nl hr he hK hq
  match us, hl with
  | [u1], _ => exact init_1 I S hev X G nl hr he hK hq
end
/-! ### what is known of the classes that are raised -/
def ctz (er : List ErD) (K : PySem.W.Frag) : Nat → Value := fun k => match er[k]? with
  | some e => .ref (eC K e.x)
  | none => .none
def cfz (fss : List (List Str)) : Nat → List Str := fun k => fss.getD k []
/-- the facts: ys the classes that isinstance asks for, fl the fields that are read, hz the class of the except clause, tab: who is what -/
def exE (er : List ErD) (ys : List Str) (fl : List Str) (hz : Str) (tab : List (List Bool)) (K : PySem.W.Frag) : Bool :=
  (He.eqO (PySem.W.nsIn K mainGlobals hz) (some (some (.ref (He.ga K hz)))) && ys.all fun y => He.eqO (PySem.W.nsIn K mainGlobals y) (some (some (.ref (He.ga K y))))) && (decide (tab.length = er.length) && (er.zip tab).all fun p =>
    (decide (p.2.length = ys.length) && (ys.zip p.2).all fun q => decide (PySem.W.kitOne K (.ref (eC K p.1.x)) (.ref (He.ga K q.1)) = some q.2)) && (decide (PySem.W.kitOne K (.ref (eC K p.1.x)) (.type "ValueError") = some true) &&
    ((fl.all fun f => He.eqO (PySem.W.findIn K (.ref (eC K p.1.x)) f) (some none)) && decide (PySem.W.exmOne K (.ref (eC K p.1.x)) (.ref (He.ga K hz)) = some true))))
structure ErK (K : PySem.W.Frag) (ys fl : List Str) (hz : Str) (row : List Bool) (C : Addr) : Prop where
  ex : ErrX K C
  isa : ∀ (i : Nat) (y : Str), ys[i]? = some y → PySem.W.kitOne K (.ref C) (.ref (He.ga K y)) = some (row.getD i false)
  isv : PySem.W.kitOne K (.ref C) (.type "ValueError") = some true
  fld : ∀ f ∈ fl, PySem.W.findIn K (.ref C) f = some none
  hit : PySem.W.exmOne K (.ref C) (.ref (He.ga K hz)) = some true
theorem zip_get? {α β : Type} : ∀ (xs : List α) (ys : List β) (i : Nat) (x : α) (y : β), xs[i]? = some x → ys[i]? = some y → (x, y) ∈ xs.zip ys
  | [], _, _, _, _, h, _ => by simp at h
  | _ :: _, [], _, _, _, _, h => by simp at h
  | a :: xs, b :: ys, 0, x, y, h1, h2 => by simp at h1 h2; subst h1 h2; simp
  | a :: xs, b :: ys, i + 1, x, y, h1, h2 => by
    have := zip_get? xs ys i x y (by simpa using h1) (by simpa using h2)
    simp [this]
section
variable {P : Program} {K : PySem.W.Frag} {er : List ErD} {ys fl : List Str} {hz : Str} {tab : List (List Bool)}
theorem exE_glo (h : exE er ys fl hz tab K = true) {y : Str} (hy : y ∈ ys) : PySem.W.nsIn K mainGlobals y = some (some (.ref (He.ga K y))) := He.eqO_ok (List.all_eq_true.mp (He.ba (He.ba h).1).2 y hy)
theorem exE_hz (h : exE er ys fl hz tab K = true) : PySem.W.nsIn K mainGlobals hz = some (some (.ref (He.ga K hz))) := He.eqO_ok (He.ba (He.ba h).1).1
theorem exE_ok (h : exE er ys fl hz tab K = true) (ho : ∀ e ∈ er, ErOk P K e) (k : Nat) (hk : k < er.length) : ∃ C, ctz er K k = .ref C ∧ ErK K ys fl hz (tab.getD k []) C := by
  obtain ⟨hl, h2⟩ := He.ba (He.ba h).2
  have hl := of_decide_eq_true hl
  have g1 : er[k]? = some er[k] := List.getElem?_eq_getElem hk
  have hk2 : k < tab.length := by rw [hl]; exact hk
  have g2 : tab[k]? = some tab[k] := List.getElem?_eq_getElem hk2
  have h3 := List.all_eq_true.mp h2 _ (zip_get? _ _ _ _ _ g1 g2)
  obtain ⟨h4, h5⟩ := He.ba h3
  obtain ⟨h6, h7⟩ := He.ba h4
  obtain ⟨h8, h9⟩ := He.ba h5
  obtain ⟨h10, h11⟩ := He.ba h9
  have h6 := of_decide_eq_true h6
  have gd : tab.getD k [] = tab[k] := by rw [List.getD_eq_getElem?_getD, g2] <;> rfl
  refine ⟨eC K er[k].x, by unfold ctz; rw [g1], (ho _ (List.getElem_mem hk)).ex, fun i y hy => ?_, of_decide_eq_true h8, fun f hf => He.eqO_ok (List.all_eq_true.mp h10 f hf), of_decide_eq_true h11⟩
  rw [gd]
  obtain ⟨hi, _⟩ := List.getElem?_eq_some_iff.mp hy
  have hi2 : i < (tab[k]).length := by rw [h6]; exact hi
  have g3 : (tab[k])[i]? = some (tab[k])[i] := List.getElem?_eq_getElem hi2
  rw [List.getD_eq_getElem?_getD, g3]
  exact of_decide_eq_true (List.all_eq_true.mp h7 _ (zip_get? _ _ _ _ _ hy g3))
end
/-- in a suite -/
structure SuX (T : Wd) (X : Cx) : Prop where
  ok : Ok T X
  rm : Rm X
theorem DefX.su {T : Wd} {mg : Str → Option Value} {base : Heap} {k : Nat} {X : Cx} {W : WX} (d : DefX T mg base k X W) {a : Addr} {pn : List (Addr × Obj)} {f : Nat → Option Mk} : SuX (T.as f) (X.suite a pn) := ⟨⟨d.ok.P, d.ok.w, d.ok.K⟩, ⟨d.rm.hu, d.rm.hg⟩⟩
theorem DefX.tr {T : Wd} {mg : Str → Option Value} {base : Heap} {k : Nat} {X : Cx} {W W' : WX} (d : DefX T mg base k X W) {pn : List (Addr × Obj)} {xe : Value → Shared → Prop} (tk : Takes (X.tr pn xe) W') : DefX T mg base k (X.tr pn xe) W' := ⟨⟨d.ok.P, d.ok.w, d.ok.K⟩, ⟨d.rm.hu, d.rm.hg⟩, d.room, d.mg, d.base, tk, d.calm⟩
theorem DefX.lam {T : Wd} {mg : Str → Option Value} {base : Heap} {k : Nat} {X : Cx} {W : WX} (d : DefX T mg base k X W) : DefX T mg base k X W := d
section
variable {T : Wd} {W : WX} {X : Cx}
theorem sb_bad {b : Stmt} {bs : List Stmt} : SB T W X (b :: bs) sBad := ⟨fun _ _ _ _ _ _ ⟨_, _, _, _, _, p⟩ => p.elim⟩
theorem py_ref {x : Str} {C : Addr} {pos : Pos} (hg : Gl X x) (hm : X.mg x = some (.ref C)) (hd : (x == ("__debug__" : Str)) = false := by decide) : PE X (.Name x pos) (tC (.ref C)) := pe_glob hg hm rfl hd
theorem cv_ref {C : Addr} : ∀ u, L2.RelV (.ref C) u → u = .ref C := fun _ h => h
theorem py_ve {pos : Pos} (hg : Gl X "ValueError") (hm : X.mg "ValueError" = none) : PE X (.Name "ValueError" pos) (tC (.ty "ValueError")) := pe_bltn hg hm boot_ValueError rfl
theorem cv_ve : ∀ u, L2.RelV (.ty "ValueError") u → u = .type "ValueError" := fun _ h => h
theorem nm_ref {x : Str} {C : Addr} (hg : Gl X x) (hm : X.mg x = some (.ref C)) (hd : (x == ("__debug__" : Str)) = false := by decide) : Names X x (.ref C) := ⟨hg, hd, .inl hm⟩
end
/-! ### star displays -/
def mStar (a : Ev) (b : EvL) : EvL := fun ρ g => (a ρ g).bind fun d g1 => match d with
  | .lst ds => (b ρ g1).bind fun es g2 => .ok (ds ++ es) g2
  | .tup ds => (b ρ g1).bind fun es g2 => .ok (ds ++ es) g2
  | _ => .bad
section
variable {T : Wd} {W : WX} {X : Cx} {a : Expr} {es : List Expr} {ma : Ev} {ms : EvL} {p : Pos}
theorem eas_star (ok : Ok T X) (ha : EW T W X a ma) (hr : EAs T W X es ms) (hs : starEach (.Starred a p :: es) X.env = (true, eval a X.env) :: starEach es X.env := by rfl) : EAs T W X (.Starred a p :: es) (mStar ma ms) := PA.imp (StX.pa_star ha hr hs) fun σ H Q ⟨γ, ρ, g, S, q⟩ => by
  refine ⟨γ, ρ, g, S, q.bind fun d g1 _ v ι1 H1 s1 G1 r1 q1 => ?_⟩
  have S1 := S.step s1 G1
  have fin : ∀ {ds : List D} {vs : List V}, RelDs T ι1 (γ.to ι1).bar H1 ds vs → Post T (γ.to ι1) H1 σ W (rDs T) Q ((ms ρ g1).bind fun es g2 => .ok (ds ++ es) g2) → tX T W (rDs T) ms σ H1 fun ys H2 => Q (vs ++ ys) H2 := fun {ds vs} rv q2 => by
    refine ⟨_, ρ, g1, S1, q2.bind fun es g2 _ ws ι2 H2 s2 G2 r2 p2 => ?_⟩
    have S2 := S1.step s2 G2
    exact p2.ret0 (g0 := g) S2 (RelDs.append (rv.keep s2 (Gho.bi _) (Gho.grows s2)) r2)
  cases d with
  | lst ds =>
    obtain ⟨b, vs, rfl, h1, rv⟩ := r1.lst
    exact ⟨b, vs, rfl, .inr (.inl h1), fin rv q1⟩
  | tup ds =>
    obtain ⟨b, vs, rfl, h1, rv⟩ := r1.tup
    rw [← ok.K] at h1
    exact ⟨b, vs, rfl, .inl h1, fin rv q1⟩
  | _ => exact q1.elim
end
end Z

namespace Z
open PySem PySem.Spec PyProof.Rows L2 LamX
set_option autoImplicit false
/-! ### methods of data -/
def rM (T : Wd) (f : D → List D → Option D) : V → List V → Hp → VK → Prop := fun x xs H Q => ∃ ι bar d ds r, (∀ a, bar a → H a ≠ none) ∧ (∀ a ∈ ι, bar a) ∧ RelW T ι bar H d x ∧ RelDs T ι bar H ds xs ∧ f d ds = some r ∧ ∀ z H', Same H H' → RelD T ι bar H' r z → Q z H'
def isLst : D → Bool
  | .lst _ => true
  | _ => false
def isStr : D → Bool
  | .str _ => true
  | _ => false
def tyL (x : V) (H : Hp) : Prop := ∃ a vs, x = .ref a ∧ Rd H a (.lst vs)
def tyS (x : V) (_ : Hp) : Prop := ∃ y, x = .str y
def mMt (kd : D → Bool) (f : D → List D → Option D) (mo : Ev) (ma : EvL) : Ev := fun ρ g => (mo ρ g).bind fun d g1 => if kd d then (ma ρ g1).bind fun ds g2 => ret (f d ds) g2 else .bad
section
variable {T : Wd} {W : WX} {X : Cx} {o e : Expr} {es : List Expr} {mo : Ev} {ma : EvL} {name : Str} {apos cpos : Pos}
theorem ty_L : TyOk X "list" tyL := by
  intro pins σ H s x v I r ⟨a, vs, ex, h⟩
  subst ex
  cases r
  obtain ⟨its, rv, ⟨ob, n, ho, hc, hdn, hd⟩, _⟩ := I.list (.inl h)
  refine ⟨⟨ob, ho, hc⟩, fun b e => ?_⟩
  cases e
  exact ⟨ob, ho, hdn⟩
theorem ty_S : TyOk X "str" tyS := by
  intro pins σ H s x v I r ⟨y, ex⟩
  subst ex
  obtain ⟨t, rfl⟩ := r
  exact ⟨typeIs_str _ _ _, fun b e => nomatch e⟩
theorem ee_mt {kd : D → Bool} {f : D → List D → Option D} {Tn id : String} {ty : V → Hp → Prop} (hk : ∀ ι bar H d x, kd d = true → RelW T ι bar H d x → ty x H) (ht : TyOk X Tn ty) (pa : PlainAttrs Tn) (slot : Slot Tn name id) (hty : typeOf (.builtin id) = pure (.type "method_descriptor")) (hm : MtR X id (rM T f))
    (ho : EW T W X o mo) (ha : EAs T W X (e :: es) ma)
    (hbase : attributeBase o name X.env (eval o X.env) = eval o X.env := by rfl)
    (hfew : ((backTo cpos (starEach (e :: es) X.env)).all (fun x => !x.1) && (backToKw cpos (keywordEach [] X.env)).all (fun x => x.1.isSome)
      && decide ((e :: es).length + ([] : List Keyword).length + (if ([] : List Keyword).isEmpty then 0 else 1) < 30)) = true := by rfl)
    (hline : (apos.endLine == cpos.line) = true := by rfl) (hs : starEach (e :: es) X.env = (false, eval e X.env) :: starEach es X.env := by rfl) (hplain : (backTo cpos (starEach es X.env)).any (·.1) = false := by rfl) :
    EE T W X (.Call (.Attribute o name apos) (e :: es) [] cpos) (mMt kd f mo ma) := PE.imp (pe_mG ht pa slot hty hm ho ha hbase hfew hline hs hplain) fun σ H Q ⟨γ, ρ, g, S, p⟩ => by
  refine ⟨γ, ρ, g, S, p.bind fun d g1 _ v ι1 H1 s1 G1 r1 p1 => ?_⟩
  have S1 := S.step s1 G1
  cases hkd : kd d with
  | false => rw [hkd] at p1; exact p1.elim
  | true =>
    rw [hkd] at p1
    refine ⟨hk _ _ _ _ _ hkd r1, _, ρ, g1, S1, p1.bind fun ds g2 _ vs ι2 H2 s2 G2 r2 p2 => ?_⟩
    have S2 := S1.step s2 G2
    cases hf : f d ds with
    | none => rw [hf] at p2; exact p2.elim
    | some r =>
      rw [hf] at p2
      exact ⟨ι2, ((γ.to ι1).to ι2).bar, d, ds, r, S2.bart, fun a h => .inl h, r1.keep s2 (γ.to ι1).bi (Gho.grows s2), r2, hf, fun z H' s r => p2.ret1 S2 s r⟩
theorem kd_L : ∀ ι bar H d x, isLst d = true → RelW T ι bar H d x → tyL x H := fun ι bar H d x h r => by
  cases d with
  | lst ds => obtain ⟨a, vs, e, q, _⟩ := r.lst; exact ⟨a, vs, e, q⟩
  | _ => cases h
theorem kd_S : ∀ ι bar H d x, isStr d = true → RelW T ι bar H d x → tyS x H := fun ι bar H d x h r => by
  cases d with
  | str y => exact ⟨y, RelW.str r⟩
  | _ => cases h
/-! ### l.count(x) -/
def cnt (d : D) : List D → Nat
  | [] => 0
  | x :: xs => bif PyData.eqv (py x) (py d) then cnt d xs + 1 else cnt d xs
theorem cnt_eq (d : D) : ∀ ds : List D, cnt d ds = (pys ds).countP fun y => PyData.eqv y (py d)
  | [] => rfl
  | x :: xs => by
    have ih := cnt_eq d xs
    rw [pys, List.countP_cons, ← ih]
    show (bif PyData.eqv (py x) (py d) then cnt d xs + 1 else cnt d xs) = _
    cases PyData.eqv (py x) (py d) <;> simp
def cntF (d : D) (es : List D) : Option D := match d, es with
  | .lst ds, [e] => if isDs ds && isD e && (sh e || shs ds) then some (.int (cnt e ds)) else none
  | _, _ => none
theorem mt_cnt (ok : Ok T X) (rm : Rm X) : MtR X "list.count" (rM T cntF) := by
  intro pins s σ H x xs v us Q I rx rxs ⟨ι, bar, d, es, r, hb, hi, rd, re, hk, q⟩
  unfold cntF at hk
  split at hk
  · rename_i ds e
    split at hk
    · rename_i hc
      cases hk
      simp only [Bool.and_eq_true] at hc
      obtain ⟨⟨h2, h1⟩, h3⟩ := hc
      obtain ⟨x1, xs1, rfl, re1, re2⟩ := re.uncons
      cases re2
      obtain ⟨u, rfl, ru⟩ := rxs.one
      obtain ⟨as, r1⟩ := re1.reads ok I ru h1
      obtain ⟨a, vs, rfl, hr, rs⟩ := rd.lst
      cases rx
      obtain ⟨its, rv, ⟨ob, n, ho, hc, hdn, hd⟩, _⟩ := I.list (.inl hr)
      obtain ⟨bs, r2⟩ := RelDs.reads ok I rs rv h2
      refine SeqAt.count_list_data (vs := its.toArray) ⟨ob, ho, hc, n, hd⟩ (by simpa using r2) r1 (plains_of ds h2) (plain_of e h1) (depth_in rm h3) ?_
      refine ⟨.int (cnt e ds : Nat), H, I.tok _, ⟨s.toks, by rw [cnt_eq]⟩, q _ _ (Same.refl H) (RelD.ofInt _)⟩
    · cases hk
  · cases hk
theorem ee_cnt (ok : Ok T X) (rm : Rm X) (ho : EW T W X o mo) (ha : EAs T W X [e] ma)
    (hbase : attributeBase o "count" X.env (eval o X.env) = eval o X.env := by rfl)
    (hfew : ((backTo cpos (starEach [e] X.env)).all (fun x => !x.1) && (backToKw cpos (keywordEach [] X.env)).all (fun x => x.1.isSome)
      && decide (([e] : List Expr).length + ([] : List Keyword).length + (if ([] : List Keyword).isEmpty then 0 else 1) < 30)) = true := by rfl)
    (hline : (apos.endLine == cpos.line) = true := by rfl) (hs : starEach [e] X.env = (false, eval e X.env) :: starEach [] X.env := by rfl) (hplain : (backTo cpos (starEach [] X.env)).any (·.1) = false := by rfl) :
    EE T W X (.Call (.Attribute o "count" apos) [e] [] cpos) (mMt isLst cntF mo ma) := ee_mt kd_L ty_L PySem.F.plainAttrs_list PySem.F.slot_list_count PySem.F.type_list_count (mt_cnt ok rm) ho ha hbase hfew hline hs hplain
end
end Z

namespace Z
open PySem PySem.Spec PyProof.Rows L2 LamX
set_option autoImplicit false
/-! ### l[::k] -/
def pickI (n : Nat) (k : Int) : List Nat := sliceRange (sliceBounds none none (some k) n).1 (sliceBounds none none (some k) n).2.1 (sliceBounds none none (some k) n).2.2
def picked {α : Type} (xs : List α) : List Nat → List α
  | [] => []
  | i :: is => (match xs[i]? with
    | some x => x :: picked xs is
    | none => picked xs is)
theorem picked_rel {T : Wd} {ι : List Addr} {bar : Addr → Prop} {H : Hp} {ds : List D} {vs : List V} (r : RelDs T ι bar H ds vs) : ∀ is : List Nat, RelDs T ι bar H (picked ds is) (picked vs is)
  | [] => .nil
  | i :: is => by
    have ih := picked_rel r is
    unfold picked
    have hl := r.length
    cases h : ds[i]? with
    | none =>
      have : vs[i]? = none := by rw [List.getElem?_eq_none_iff] at h ⊢; omega
      rw [this]
      exact ih
    | some d =>
      obtain ⟨v, e, rr⟩ := r.get h
      rw [e]
      exact .cons rr ih
theorem picked_vals {vs : List V} {us : List Value} (r : Vals vs us) : ∀ is : List Nat, Vals (picked vs is) (picked us is)
  | [] => .nil
  | i :: is => by
    have ih := picked_vals r is
    unfold picked
    have hl := r.length
    cases h : vs[i]? with
    | none =>
      have : us[i]? = none := by rw [List.getElem?_eq_none_iff] at h ⊢; omega
      rw [this]
      exact ih
    | some d =>
      obtain ⟨v, e, rr⟩ := r.get h
      rw [e]
      exact .cons rr ih
theorem picked_eq {α : Type} (xs : List α) : ∀ is : List Nat, picked xs is = is.filterMap (xs[·]?)
  | [] => rfl
  | i :: is => by
    have ih := picked_eq xs is
    unfold picked
    rw [List.filterMap_cons, ih]
    cases xs[i]? <;> rfl
theorem pick_its (its : List Value) (k : Int) : slicePick its.toArray none none (some k) = (picked its (pickI its.length k)).toArray := by
  unfold slicePick
  rw [picked_eq, List.size_toArray]
  congr 1
  refine congrArg (fun f => List.filterMap f _) (funext fun i => ?_)
  simp
def stF (d : D) (k : Int) : Option D := match d with
  | .lst ds => if k = 0 then none else if fits (picked ds (pickI ds.length k)).length then some (.lst (picked ds (pickI ds.length k))) else none
  | _ => none
def mSt (a : Ev) (k : Int) : Ev := fun ρ g => (a ρ g).bind fun d g1 => ret (stF d k) g1
section
variable {T : Wd} {W : WX} {X : Cx} {a : Expr} {ma : Ev} {st : Expr} {p2 pos : Pos} {k : Int}
theorem ee_stp (hst : PO X (some st) (fun σ H Q => Q (some k) H)) (ha : EW T W X a ma) : EE T W X (.Subscript a (.Slice none none (some st) p2) pos) (mSt ma k) := by
  refine ⟨fun pins s σ H Q I h => ?_⟩
  obtain ⟨γ, ρ, g, S, p⟩ := h
  refine Subscript_ (thn (ha.run pins s σ H (fun x H1 => ∃ ι1 g1 d r, Stp γ.ι ι1 H H1 ∧ GR T ι1 (γ.to ι1).bar H1 g1 ∧ RelW T ι1 (γ.to ι1).bar H1 d x ∧ stF d k = some r ∧ Post T (γ.to ι1) H1 σ W (rD T) Q (.ok r g1)) I ⟨γ, ρ, g, S, ?_⟩) fun v s1 ⟨x, H1, I1, r1, q1⟩ => ?_)
  · refine p.bind fun d g1 _ v ι1 H1 s1 G1 r1 p1 => ?_
    cases hr : stF d k with
    | none => rw [hr] at p1; exact p1.elim
    | some r => rw [hr] at p1; exact ⟨ι1, g1, d, r, s1, G1, r1, hr, p1⟩
  obtain ⟨ι1, g1, d, r, st1, G1, rw1, hr, post⟩ := q1
  have S1 := S.step st1 G1
  cases d with
  | lst ds =>
    simp only [stF] at hr
    split at hr
    · cases hr
    · rename_i hk0
      split at hr
      · rename_i hfit
        cases hr
        obtain ⟨b, vs, rfl, hx, rs⟩ := rw1.lst
        cases r1
        refine wpAny_Slice (thn (po_none.run pins s1 σ H1 (fun o H2 => o = none ∧ H2 = H1) I1 ⟨rfl, rfl⟩) fun vl s2 ⟨l, H2, I2, pl, el, e2⟩ => ?_)
        subst el e2
        refine thn (po_none.run pins s2 σ H2 (fun o H3 => o = none ∧ H3 = H2) I2 ⟨rfl, rfl⟩) fun vu s3 ⟨u, H3, I3, pu, eu, e3⟩ => ?_
        subst eu e3
        refine thn (hst.run pins s3 σ H3 (fun o H4 => o = some k ∧ H4 = H3) I3 ⟨rfl, rfl⟩) fun vst s4 ⟨o, H4, I4, ps, eo, e4⟩ => ?_
        subst eo e4
        have I5 : Inv X pins σ H4 { s4 with heap := s4.heap.push { cls := .type "slice", data := .fields #[vl, vu, vst] } } := I4.kept (t' := s4.toks) fun b ob q => Heap.get?_push_of_some _ q
        obtain ⟨its, r, ht, hz⟩ := I5.list (.inl hx)
        have hlen := r.length
        show wpAny (model X.prog X.w) X.A (subscriptTail a (.Slice none none (some st) p2) (.ref b) (.ref s4.heap.objs.size)) (EP X pins σ Q) X.xe { s4 with heap := s4.heap.push { cls := .type "slice", data := .fields #[vl, vu, vst] } }
        refine tail_any (ops := [.ref b, .ref s4.heap.objs.size]) ht.isList.typeIs (PySem.slot_list_getitem.lookup) ?_ (by with_unfolding_all rfl)
        refine wpAny_getItem_list_slice ht.isList (Heap.IsSliceOf.new _ vl vu vst) pl pu ps (by intro z; exact hk0 (Option.some.inj z)) ?_ (by rw [List.size_toArray]; omega)
        rw [pick_its]
        have hn := I5.hok.fresh (Nat.le_refl _)
        have hrel := picked_rel rs (pickI ds.length k)
        have hl2 : ds.length = its.length := by rw [← rs.length, hlen]
        rw [← hl2]
        refine ⟨.ref _, _, I5.laid (t' := s4.toks) (o := .lst (picked vs (pickI ds.length k))) (fun b ob q => Heap.get?_push_of_some _ q) (Nat.le_refl _) ?_, rfl, Post.ret1 S1 (same_upd hn) post (RelD.newLst S1.bart (fun a h => .inl h) hn hrel)⟩
        exact ⟨by rw [hrel.length]; exact fits_line hfit, _, 0, picked_vals r _, Heap.get?_push_size _ rfl⟩
      · cases hr
  | _ => cases hr
theorem ee_st {j : Nat} {p1 : Pos} (ha : EW T W X a ma) : EE T W X (.Subscript a (.Slice none none (some (.Constant (.int k) j p1)) p2) pos) (mSt ma k) :=
  ee_stp (PO.imp (po_some pe_int) fun σ H Q q => ⟨k, rfl, q⟩) ha
theorem ee_stN {j : Nat} {p1 p3 : Pos} (ha : EW T W X a ma) : EE T W X (.Subscript a (.Slice none none (some (.UnaryOp .USub (.Constant (.int k) j p1) p3)) p2) pos) (mSt ma (-k)) :=
  ee_stp (PO.imp (po_some (pe_un un_neg pe_int)) fun σ H Q q => ⟨k, rfl, -k, rfl, q⟩) ha
end
end Z

namespace Z
open PySem PySem.Spec PyProof.Rows L2 LamX
set_option autoImplicit false
/-! ### defs that make lambdas -/
theorem codeIn_ref {K : PySem.W.Frag} {c : Value} {q : Str} (h : PySem.W.codeIn K c q = true) : ∃ a, c = .ref a := by
  cases c with
  | ref a => exact ⟨a, rfl⟩
  | _ => cases h
/-- (the def's name, its lambdas' name) -/
abbrev LamN := Str × Str
def tbz (ls : List LamN) (K : PySem.W.Frag) : Str → Addr := fun q => match ls.find? (fun p => p.2 == q) with
  | some p => (He.cT K (p.1, none)).2
  | none => 0
abbrev tfz (ls : List LamN) : List He.Defn := ls.map fun p => (p.1, none)
abbrev csz (ls : List LamN) (K : PySem.W.Frag) : List TbE := ls.map fun p => (p.2, He.codeOf K (p.1, none))
def tabNd (ls : List LamN) (K : PySem.W.Frag) : Bool := decide ((ls.map fun p => (He.cT K (p.1, none)).2).Nodup)
abbrev Tabs (T : Wd) (mg : Str → Option Value) (base : Heap) (ls : List LamN) : Prop := ∀ p ∈ ls, TabB base mg (He.codeOf T.K (p.1, none)) (T.tb p.2)
theorem tbz_mem {ls : List LamN} {K : PySem.W.Frag} (nd : (ls.map (·.2)).Nodup) {p : LamN} (hp : p ∈ ls) : tbz ls K p.2 = (He.cT K (p.1, none)).2 := by
  unfold tbz
  induction ls with
  | nil => cases hp
  | cons q ls ih =>
    rw [List.map_cons, List.nodup_cons] at nd
    rw [List.find?_cons]
    rcases List.mem_cons.mp hp with e | e
    · subst e; simp
    · have : q.2 ≠ p.2 := fun z => nd.1 (by rw [z]; exact List.mem_map_of_mem e)
      rw [show (q.2 == p.2) = false from beq_false_of_ne this]
      exact ih nd.2 e
section
variable {T : Wd} {mg : Str → Option Value} {base : Heap} {k : Nat} {x x0 qual : Str} {params : Arguments} {body : List Stmt} {scope : Scope} {dvs : List V} {kws : List (Str × V)} {fd : FuncData} {N ps : List Str}
theorem fn_denL (F : FunD T.K x qual params body scope dvs kws (He.fAd T.K (x0, none)) fd) (S : FnScope N ps scope) {m : Sm}
    (hbody : ∀ (A : Around) (outer : List PySem.Env) (s : Shared) (H : Hp) (E : XK), DefX T mg base k (cxOf (L2.CX T.P T.w) T.P T.w T.K mg base N qual scope (He.fAd T.K (x0, none)) (.ref (He.codeOf T.K (x0, none))) A outer s H E) (fun cls dx _ H' => E cls dx H') →
      PassesOwn (model T.P T.w) (A.deeper (envOfC qual scope s.heap.objs.size (He.fAd T.K (x0, none)) (.ref (He.codeOf T.K (x0, none))))) (envOfC qual scope s.heap.objs.size (He.fAd T.K (x0, none)) (.ref (He.codeOf T.K (x0, none)))) (cxOf (L2.CX T.P T.w) T.P T.w T.K mg base N qual scope (He.fAd T.K (x0, none)) (.ref (He.codeOf T.K (x0, none))) A outer s H E).xe →
      SB T (fun cls dx _ H' => E cls dx H') (cxOf (L2.CX T.P T.w) T.P T.w T.K mg base N qual scope (He.fAd T.K (x0, none)) (.ref (He.codeOf T.K (x0, none))) A outer s H E) body m) : FnG T mg base (k + 1) (He.fAd T.K (x0, none)) fd ps (denOf N.length m) := by
  refine fn_denC F S fun cdv hc A outer s H E dx => ?_
  obtain ⟨oc, od, osl, lk, e, hcd⟩ := hc
  obtain ⟨c, rfl⟩ := codeIn_ref hcd
  have := He.codeOf_eq (p := (x0, none)) lk e
  subst this
  exact hbody A outer s H E dx
end
section
variable {T : Wd} {mg : Str → Option Value} {base : Heap} {kk : Nat} {W W' : WX} {X : Cx} {x y n : Str} {i a dx k C : Nat} {oe : Obj} {pn : List (Addr × Obj)} {ds : List D} {p p1 p2 pos : Pos}
theorem ee_isD {b : Bool} {c : V} {cv : Value} (_ : DefX T mg base kk X W') (hT : T.ct k = .ref C) (EX : ErrX X.K C) (hz : Zc (T.ct k) (some dx) oe) (hf : ∃ vs, oe.data = .fields vs) (hg : Gl X "isinstance") (hm : X.mg "isinstance" = none)
    (hy : PE (X.suite a ((a, oe) :: pn)) (.Name y p2) (tC c)) (hcv : ∀ u, L2.RelV c u → u = cv) (hk : PySem.W.kitOne X.K (T.ct k) cv = some b)
    (i : Nat) (hN : X.N[i]? = some n := by rfl) (hv : Vis X.env.scope n := by first | exact Or.inl rfl | exact Or.inr (Or.inl rfl) | exact Or.inr (Or.inr rfl)) (hd : (n == ("__debug__" : Str)) = false := by decide) (hcd : (n == ("__classdict__" : Str)) = false := by decide)
    (hs : starEach [.Name n p1, .Name y p2] X.env = (false, eval (.Name n p1) X.env) :: starEach [.Name y p2] X.env := by rfl) (hpl : (backTo pos (starEach [.Name y p2] X.env)).any (·.1) = false := by rfl)
    (hs2 : starEach [.Name y p2] X.env = (false, eval (.Name y p2) X.env) :: starEach [] X.env := by rfl) :
    EE (T.ex a dx k ds) W (X.suite a ((a, oe) :: pn)) (.Call (.Name "isinstance" p) [.Name n p1, .Name y p2] [] pos) (mMk i (.bl b)) := ee_isE hT EX hz hf hg hm hy hcv hk i hN hv hd hcd hs hpl hs2
theorem ee_erD {f : Str} {fs : List Str} (_ : DefX T mg base kk X W') (hT : T.ct k = .ref C) (hF : T.cf k = fs) (EX : ErrX X.K C) (hno : PySem.W.findIn X.K (.ref C) f = some none) (hz : Zc (T.ct k) (some dx) oe) (hf : ∃ vs, oe.data = .fields vs)
    (i : Nat) (hN : X.N[i]? = some n := by rfl) (hv : Vis X.env.scope n := by first | exact Or.inl rfl | exact Or.inr (Or.inl rfl) | exact Or.inr (Or.inr rfl)) (hd : (n == ("__debug__" : Str)) = false := by decide) (hcd : (n == ("__classdict__" : Str)) = false := by decide)
    (hb : attributeBase (.Name n p1) f X.env (eval (.Name n p1) X.env) = eval (.Name n p1) X.env := by rfl) :
    EE (T.ex a dx k ds) W (X.suite a ((a, oe) :: pn)) (.Attribute (.Name n p1) f pos) (mErf i fs ds f) := ee_erf hT hF EX hno hz hf i hN hv hd hcd hb
theorem ee_hr {j k : Nat} {a q : Str} {N : List Str} {fg c : Addr} {mH : (G → Res D) → Sm} {mb : Ev} {params : Arguments} {body : Expr} {scope : Scope} {lpos : Pos}
    (F : HearD T mg base (k + 1) x a N fg mH) (dx : DefX T mg base (k + 2) X W) (m0 : T.mks 0 = none) (hg : Gl X x) (hq : q = X.env.qual ++ "<lambda>") (TB : TabB base mg c (T.tb q)) (hcode : X.env.code = .ref c) (L : LamS X.env.scope scope) (hdef : defaultsOf params X.env = ([], []))
    (hbind : ∀ (q : Str) (cl : List (Str × Addr)) (pm cv ctv : Value), bindArgs (PySem.W.kla_fn "<lambda>" q params body scope cl pm cv ctv) ⟨[], []⟩ = pure [])
    (hbody : ∀ (A : Around) (outer : List PySem.Env) (s : Shared) (H : Hp) (E : XK) (fl c' : Addr), DefX T mg base k (lamCx X A outer s H E scope fl c') (fun cls dx _ H' => E cls dx H') → EE T (fun cls dx _ H' => E cls dx H') (lamCx X A outer s H E scope fl c') body mb)
    (hdb : (x == ("__debug__" : Str)) = false := by decide) (he : starEach [.Lambda params body scope lpos] X.env = (false, eval (.Lambda params body scope lpos) X.env) :: starEach [] X.env := by rfl) (hpl : (backTo pos (starEach [] X.env)).any (·.1) = false := by rfl) :
    EE T W X (.Call (.Name x p) [.Lambda params body scope lpos] [] pos) (mHear j q N.length mH mb) := ee_hear F dx m0 hg hq TB hcode L hdef hbind hbody j hdb he hpl
end
/-- the law's end: from the head's facts -/
theorem tabs_of {T : Wd} {mg : Str → Option Value} {base : Heap} {ls : List LamN} (h : ∀ p ∈ csz ls T.K, TabB base mg p.2 (T.tb p.1)) : Tabs T mg base ls := fun p hp => h (p.2, He.codeOf T.K (p.1, none)) (List.mem_map.mpr ⟨p, hp, rfl⟩)
end Z

namespace Z
open PySem PySem.Spec PyProof.Rows L2 LamX
set_option autoImplicit false
theorem headT {fa : List He.Fa} {fn : List He.DefD} {er : List ErD} {ls : List LamN} {ex : PySem.W.Frag → Bool} {h : Heap} {K : PySem.W.Frag} (X : K.In h) (c : SaysE fa fn er (tfz ls) ex h K) (nd : (ls.map (·.2)).Nodup) (hn : tabNd ls K = true) :
    (∀ p ∈ csz ls K, h.get? (tbz ls K p.1) = some emptyO) ∧ (∀ p ∈ csz ls K, K.lookup (tbz ls K p.1) = none) ∧ (∀ p ∈ csz ls K, PySem.W.CodeHd h p.2 (tbz ls K p.1)) ∧ ((csz ls K).map fun p => tbz ls K p.1).Nodup := by
  have tf : ∀ p ∈ ls, (p.1, none) ∈ tfz ls := fun p hp => List.mem_map.mpr ⟨p, hp, rfl⟩
  refine ⟨fun p hp => ?_, fun p hp => ?_, fun p hp => ?_, ?_⟩
  · obtain ⟨q, hq, rfl⟩ := List.mem_map.mp hp
    show h.get? (tbz ls K q.2) = _
    rw [tbz_mem nd hq]
    exact c.empty _ (tf q hq)
  · obtain ⟨q, hq, rfl⟩ := List.mem_map.mp hp
    show K.lookup (tbz ls K q.2) = _
    rw [tbz_mem nd hq]
    exact c.out _ (tf q hq)
  · obtain ⟨q, hq, rfl⟩ := List.mem_map.mp hp
    show PySem.W.CodeHd h (He.codeOf K (q.1, none)) (tbz ls K q.2)
    rw [tbz_mem nd hq]
    exact PySem.W.codeHd_of_K X (c.hd _ (tf q hq))
  · have e : (csz ls K).map (fun p => tbz ls K p.1) = ls.map fun p => (He.cT K (p.1, none)).2 := by
      rw [List.map_map]
      exact List.map_congr_left fun p hp => tbz_mem nd hp
    rw [e]
    exact of_decide_eq_true hn
theorem ers_of {P : Program} {fa : List He.Fa} {fn : List He.DefD} {er : List ErD} {tf : List He.Defn} {ex : PySem.W.Frag → Bool} {h : Heap} {K : PySem.W.Frag} (c : SaysE fa fn er tf ex h K) (hb : (er.all fun e => erB P.main.file K e) = true) : ∀ e ∈ er, ErOk P K e :=
  fun e he => erB_ok (List.all_eq_true.mp hb e he) (c.er e he)
end Z

namespace Z
open PySem PySem.Spec PyProof.Rows L2 LamX
set_option autoImplicit false
/-! ### enumerate over a tuple -/
set_option maxHeartbeats 1000000 in
theorem en1_meets {v : Value} {ob : Obj} {Hc : Heap → Prop} (Bg : Begins v ob Hc) :
    Meets (Builtin.«enumerate.__new__» ⟨[.type "enumerate", v], []⟩) (fun _ R st => Hc st.heap ∧
      R (.ok (.ret (.ref (st.heap.push ob).objs.size))) { st with heap := (st.heap.push ob).push { cls := .type "enumerate", data := .fields #[.none, .bool false, .ref st.heap.objs.size, rawInt 0, .none, .none] } }) :=
  .of_wp fun prog w A R st hh => by
    obtain ⟨hp, g, d, tk, os⟩ := st; obtain ⟨hc1, hh⟩ := hh
    have hsub := sub_enumerate
    have qi : ∀ {A' : Around} {E : Value → Shared → Prop} {Q : Value → Shared → Prop}, Q (.ref hp.objs.size) ⟨hp.push ob, g, d, tk, os⟩ → wpAny (model prog w) A' (pyIter v) Q E ⟨hp, g, d, tk, os⟩ :=
      fun q => Bg.iter prog w _ _ ⟨hp, g, d, tk, os⟩ _ hc1 q
    wp_walk using qi
    refine wpAny_stack_any fun _ => wpAny_pure ?_
    split
    · rename_i c _ _ _ _ _
      cases (c == Value.type "enumerate")
      · wp_walk using qi
        exact ⟨_, rfl, hh⟩
      · wp_walk using qi
        exact ⟨_, rfl, hh⟩
    · wp_walk using qi
      exact ⟨_, rfl, hh⟩
theorem en1_call {prog : Program} {w : World} {A : Around} {E : Value → Shared → Prop} {st : Shared} {v : Value} {ob : Obj} {Hc : Heap → Prop} {Q : Value → Shared → Prop} (Bg : Begins v ob Hc) (hc1 : Hc st.heap)
    (hh : ∀ h', IsEnum h' (st.heap.objs.size + 1) st.heap.objs.size 0 .none → h'.get? st.heap.objs.size = some ob → (∀ b o, st.heap.get? b = some o → h'.get? b = some o) → Q (.ref (st.heap.objs.size + 1)) { st with heap := h' }) :
    wpAny (model prog w) A (call (.type "enumerate") [v]) Q E st := by
  refine callType_new F.called_enumerate (by decide) (F.typeCall_enumerate_1 _) (F.newCall_enumerate_1 _) (fun obj => F.args_object_init_2 obj _) F.entry_enumerate_new (en1_meets Bg) ⟨hc1, ?_⟩
  have sz : (st.heap.push ob).objs.size = st.heap.objs.size + 1 := Heap.size_push ..
  show _ ∧ _
  rw [sz]
  have en : IsEnum ((st.heap.push ob).push { cls := .type "enumerate", data := .fields #[.none, .bool false, .ref st.heap.objs.size, rawInt 0, .none, .none] }) (st.heap.objs.size + 1) st.heap.objs.size 0 .none := by
    have := Heap.get?_push_size (st.heap.push ob) (o := { cls := .type "enumerate", data := .fields #[.none, .bool false, .ref st.heap.objs.size, rawInt 0, .none, .none] }) rfl
    rw [sz] at this
    exact this
  exact ⟨⟨_, en, rfl⟩, hh _ en (Heap.get?_push_of_some _ (Heap.get?_push_size _ Bg.free)) fun b o z => Heap.get?_push_of_some _ (Heap.get?_push_of_some _ z)⟩
theorem en_end {prog : Program} {w : World} {A : Around} {E : Value → Shared → Prop} {st : Shared} {e it a : Addr} {i : Nat} {xs : Array Value} {old : Value} {Q : Option Value → Shared → Prop} (ha : A.handled = none) (en : IsEnum st.heap e it i old) (ti : st.heap.IsTupleIter it a i) (ta : st.heap.IsTuple a xs) (no : xs[i]? = none)
    (q : ∀ h', Heap.ExtBut it st.heap h' → Q none { st with heap := h' }) : wpAny (model prog w) A (pyNext (.ref e)) Q E st := by
  have ty : st.TypeIs (.ref e) "enumerate" := ⟨_, en, rfl⟩
  unfold pyNext
  refine wpAny_bind (wpAny_attempt (wpAny_callSpecial?_slot (name := Str.ofString "__next__") ty F.slot_enumerate_next (wpAny_call_entry F.slot_enumerate_next ty F.entry_enumerate_next ?_ (F.args_enumerate_next_1 _))))
  show wpAny _ _ (field (.ref e) 2 >>= _) _ _ _
  refine wpAny_bind (wpAny_field en rfl (x := .ref it) rfl (wpAny_bind (wpAny_nextOf_tuple_end ha ti ta no fun h' x eb ⟨o, ho, hc⟩ => ?_)))
  exact wpAny_bind (wpAny_isInstance (T := "StopIteration") (b := true) ⟨o, ho, hc⟩ isSubtype_stop (wpAny_pure (q _ eb)))
/-- the tuple at a, each item in a new pair -/
def IteT (K : PySem.W.Frag) (a : Addr) : It :=
  ⟨fun i H => ∃ (xs : List V) (x : V), SqT K H a xs ∧ xs[i]? = some x, fun i H v H' => ∃ T x, v = .ref T ∧ H T = none ∧ H' = upd H T (.tup [.int (i : Nat), x]) ∧ ∀ xs, SqT K H a xs → xs[i]? = some x, fun i H => ∃ xs : List V, SqT K H a xs ∧ xs.length ≤ i⟩
theorem enT_turn {P : Program} {w : World} {K : PySem.W.Frag} {elts : List Expr} {kk : Nat} {tpos : Pos} (a e it : Addr) :
    Turn P w K (.Tuple elts kk tpos) (IteT K a) [e, it] e (fun i h => (∃ old, IsEnum h e it ((i : Nat) : Int) old) ∧ h.IsTupleIter it a i ∧ e ≠ it ∧ a ≠ it ∧ e ≠ a) where
  mem := by simp
  obj := fun i h st b hb => by
    obtain ⟨⟨old, he⟩, ⟨o, ho, hc, hd⟩, _⟩ := st
    have e' : b = e ∨ b = it := by simpa using hb
    rcases e' with z | z
    · rw [z]; exact ⟨_, he, fun v q => nomatch q⟩
    · rw [z]; exact ⟨o, ho, fun v q => by rw [hd] at q; cases q⟩
  keep := fun i h h' st k => let ⟨⟨old, he⟩, hi, hne⟩ := st; ⟨⟨old, k e (by simp) _ he⟩, hi.at fun o q => k it (by simp) o q, hne⟩
  item := by
    intro X hP hw hK hc i pins s σ H E I hf st hg
    subst hP hw hK
    obtain ⟨⟨old, he⟩, hit, hne, hat, hea⟩ := st
    obtain ⟨xs, x, hq, hx⟩ := hg
    obtain ⟨its, rv, p, hz⟩ := I.tuple hq
    obtain ⟨u, hu, ru⟩ := rv.get hx
    have hlt : i < its.toArray.size := by
      have := (List.getElem?_eq_some_iff.mp hu).1
      simpa using this
    have hel : e < s.heap.objs.size := Heap.lt_size he
    have hil : it < s.heap.objs.size := by obtain ⟨_, q, _⟩ := hit; exact Heap.lt_size q
    refine wpAny_pyNext_enum_itemD (Draws.tuple (A := X.A.in1) (show X.A.in1.handled = none from I.ok.hd hc) it a hat its.toArray) he ⟨hit, p⟩ hlt hne (by simp [hne, hea]) fun y h' tk hy ho hst hT hsz hk => ?_
    have hy' : its[i]? = some y := by simpa using hy
    rw [hu] at hy'
    cases hy'
    refine ⟨_, rfl, wpAny_letOwnedTupleGo_enum (s := { s with heap := h', toks := tk + 1 }) ho fun h'' he' sb => ?_⟩
    have hT2 : h''.get? s.heap.objs.size = some { cls := .type "tuple", data := .seq #[.int i tk, u] } := (sb.2 _ (Nat.ne_of_gt hel)).trans hT
    have new : ObjOk X.prog X.w (upd H s.heap.objs.size (.tup [.int (i : Nat), x])) h'' s.heap.objs.size (.tup [.int (i : Nat), x]) :=
      ⟨by show 2 ≤ sizeLine; decide, [.int i tk, u], .cons ⟨_, rfl⟩ (.cons ru .nil), ⟨_, hT2, rfl, _, rfl⟩⟩
    have I1 : Inv X pins σ (upd H s.heap.objs.size (.tup [.int (i : Nat), x])) { s with heap := h'', toks := tk + 1 } :=
      I.turnedNew (ch := [e, it]) (fun b ob hb q => (sb.2 b (fun z => hb (by simp [z]))).trans (hk b ob (fun z => hb (by simp [z])) (fun z => hb (by simp [z])) q)) hf (Nat.le_refl _) new
    refine ⟨.ref s.heap.objs.size, _, I1, rfl, ⟨_, x, rfl, I.hok.fresh (Nat.le_refl _), rfl, fun ys hy => by rw [I.tuple_inj hy hq]; exact hx⟩, ⟨⟨u, ?_⟩, hst.1.at fun o q => (sb.2 it (Ne.symm hne)).trans q, hne, hat, hea⟩, fun b hb => ?_⟩
    · have e1 : ((i + 1 : Nat) : Int) = (i : Int) + 1 := by omega
      rw [e1]; exact he'
    · have hb' : b < s.heap.objs.size := by
        have e' : b = e ∨ b = it := by simpa using hb
        rcases e' with z | z
        · rw [z]; exact hel
        · rw [z]; exact hil
      rw [upd_ne (Nat.ne_of_lt hb')]
      exact (hf b hb).1
  done := by
    intro X hP hw hK hc i pins s σ H E I hf st hg
    subst hP hw hK
    obtain ⟨⟨old, he⟩, hit, hne, hat, hea⟩ := st
    obtain ⟨xs, hq, hx⟩ := hg
    obtain ⟨its, rv, p, hz⟩ := I.tuple hq
    obtain ⟨f0, f1, f2, f3, f4, f5⟩ := hf it (by simp)
    have hl := rv.length
    exact en_end (I.ok.hd hc) he hit p (by
      have hx2 : its.toArray.size ≤ i := by rw [List.size_toArray, ← hl]; exact hx
      simpa using hx2) fun h' eb => ⟨rfl, I.turned (t' := s.toks) (fun b o hb q => eb b o hb q) f0 f1 f3 f4 f5⟩
  self := fun A i s Q E st h => let ⟨⟨_, he⟩, _⟩ := st; wpAny_pyIter_enum he h
def iEnT (K : PySem.W.Frag) (ta : TA) : TI := fun σ H R => ta σ H fun vs H1 => ∃ a xs, vs = [.ref a] ∧ SqT K H1 a xs ∧ R (IteT K a) H1
theorem pi_enT {X : Cx} {e : Expr} {ta : TA} {p pos tpos : Pos} {elts : List Expr} {kk : Nat} (hg : Gl X "enumerate") (hm : X.mg "enumerate" = none) (ha : PA X [e] ta) (hs : starEach [e] X.env = [(false, eval e X.env)]) :
    PI X (.Tuple elts kk tpos) (.Call (.Name "enumerate" p) [e] [] pos) (iEnT X.K ta) := by
  refine ⟨fun pins s σ H R I h => ?_⟩
  refine Call_ (ld_blt I hg hm boot_enumerate (PyProof.Rows.callWith_type1 (thn (ha.run pos pins s σ H _ I h) fun us s1 ⟨vs, H1, I1, r1, q1⟩ => ?_) hs rfl))
  obtain ⟨a, xs, ex, hq, q⟩ := q1
  subst ex
  cases r1 with
  | cons r rr =>
    cases rr
    cases r
    obtain ⟨its, rv, p', hz⟩ := I1.tuple hq
    have hlt := p'.lt
    refine en1_call (begins_tuple a its.toArray) p' fun h' he hit hk => wpAny_pyIter_enum he ?_
    have I2 : Inv X pins σ H1 { s1 with heap := h' } := I1.kept (t' := s1.toks) hk
    refine ⟨s1.heap.objs.size + 1, [s1.heap.objs.size + 1, s1.heap.objs.size], _, _, H1, rfl, I2, enT_turn a (s1.heap.objs.size + 1) s1.heap.objs.size, ⟨⟨.none, he⟩, ⟨_, hit, rfl, rfl⟩, Nat.succ_ne_self _, Nat.ne_of_lt hlt, Nat.ne_of_gt (Nat.lt_succ_of_lt hlt)⟩, fun b hb => ?_, q⟩
    have hle : s1.heap.objs.size ≤ b := by
      have e' : b = s1.heap.objs.size + 1 ∨ b = s1.heap.objs.size := by simpa using hb
      rcases e' with z | z
      · rw [z]; exact Nat.le_add_right _ _
      · rw [z]; exact Nat.le_refl _
    exact I1.fpOk hle (I1.hok.fresh hle)
/-- what enumerate yields -/
def enD (ds : List D) : List D := ds.zipIdx.map fun p => .tup [.int (p.2 : Nat), p.1]
theorem enD_get {ds : List D} {i : Nat} : (enD ds)[i]? = (ds[i]?).map fun d => .tup [.int (i : Nat), d] := by
  unfold enD
  rw [List.getElem?_map, List.getElem?_zipIdx]
  cases ds[i]? <;> simp
theorem enD_len {ds : List D} : (enD ds).length = ds.length := by simp [enD]
def iEn (m : Ev) : EvI := fun ρ g => match m ρ g with
  | .ok (.tup ds) g' => .ok (enD ds) g'
  | .ok (.lst ds) g' => .ok (enD ds) g'
  | .exc x g' => .exc x g'
  | _ => .bad
theorem it_enT (T : Wd) (a : Addr) (ds : List D) : ItOk T (IteT T.K a) (enD ds) (fun ι bar H => RelDs T ι bar H [.tup ds] [.ref a]) := by
  have key : ∀ ι bar H, RelDs T ι bar H [.tup ds] [.ref a] → ∃ vs, SqT T.K H a vs ∧ RelDs T ι bar H ds vs := fun ι bar H h => by
    obtain ⟨v, r, e, h1, _⟩ := h.uncons
    cases e
    simp only [RelD] at h1
    obtain ⟨b, vs, e, q, rs⟩ := h1
    cases e
    exact ⟨vs, q, rs⟩
  refine ⟨fun ι bar H i k hl => ?_, fun ι bar H i d k e => ?_, fun ι bar H i d x H' hi k e y => ?_⟩
  · obtain ⟨vs, q, rs⟩ := key _ _ _ k
    rw [enD_len] at hl
    exact ⟨vs, q, by rw [rs.length]; exact hl⟩
  · obtain ⟨vs, q, rs⟩ := key _ _ _ k
    rw [enD_get] at e
    obtain ⟨d0, e0, _⟩ := Option.map_eq_some_iff.mp e
    obtain ⟨v, e1, _⟩ := rs.get e0
    exact ⟨vs, v, q, e1⟩
  · skip
    obtain ⟨vs, q, rs⟩ := key _ _ _ k
    rw [enD_get] at e
    obtain ⟨d0, e0, rfl⟩ := Option.map_eq_some_iff.mp e
    obtain ⟨v, e1, r1⟩ := rs.get e0
    obtain ⟨p, u, rfl, np, rfl, y⟩ := y
    have := y vs q
    rw [e1] at this; cases this
    exact ⟨same_upd np, RelD.newTup hi np (.cons (RelD.ofInt _) (.cons r1 .nil))⟩
end Z

namespace Z
open PySem PySem.Spec PyProof.Rows L2 LamX
set_option autoImplicit false
/-! ### set(t), t a tuple of tuples -/
abbrev PK := Addr × NestedKey
def putL (acc : List PK) (p : PK) : List PK := if p.2 ∈ acc.map (·.2) then acc else acc ++ [p]
theorem putL_len {acc : List PK} {p : PK} : (putL acc p).length ≤ acc.length + 1 := by unfold putL; split <;> simp
theorem foldL_len : ∀ (ys acc : List PK), (ys.foldl putL acc).length ≤ acc.length + ys.length
  | [], acc => by simp
  | y :: ys, acc => by
    have h1 := foldL_len ys (putL acc y)
    have h2 := putL_len (acc := acc) (p := y)
    simp only [List.foldl_cons, List.length_cons]
    omega
abbrev Keeps (h h' : Heap) : Prop := ∀ b o, h.get? b = some o → h'.get? b = some o
section
variable {P : Program} {w : World} {A : Around} {E : Value → Shared → Prop}
theorem keyAt_keeps {h h' : Heap} {k : NestedKey} {b : Addr} (q : KeyAt h k b) (kp : Keeps h h') : KeyAt h' k b := ⟨NestedIs.at (fun c o _ _ e _ => kp c o e) _ _ q.1, q.2⟩
theorem loop_keys {I : Addr} {fp wr : List Addr} {G : Array GenState → Array GenState → Prop} {n : Nat} {Pv : Nat → Value → Prop} {St : Nat → Shared → Prop} {R : Result → Shared → Prop} (W : WalksS P w A.in1 I fp wr G n Pv St) (a : Addr) (naf : a ∉ fp) (h0 : Heap) (xs : List PK) (hn : n = xs.length)
    (few : xs.length < 63) (hu : A.units + 20 < cLine) (hv : ∀ i v, Pv i v → ∃ p, xs[i]? = some p ∧ v = .ref p.1) (hk : ∀ p ∈ xs, KeyAt h0 p.2 p.1) (old : ∀ b o, h0.get? b = some o → b ≠ a ∧ b ∉ wr) :
    ∀ (j i : Nat) (st : Shared) (L : List PK) (es : Array (Int × Value)) (ep : Nat) (t : SetTable), n - i = j → i ≤ n → St i st → Keeps h0 st.heap → TabN w st.heap a L es ep t → L.Perm ((xs.take i).foldl putL []) →
      (∀ (s' : Shared) (L' : List PK) (es' : Array (Int × Value)) (ep' : Nat) (t' : SetTable), Moved (a :: wr) G st s' → Keeps h0 s'.heap → TabN w s'.heap a L' es' ep' t' → L'.Perm (xs.foldl putL []) → R (.ok (.ret .none)) s') →
      codeAny (model P w) A (.builtin "set.update.loop" ⟨[.ref a, .ref I], []⟩) R st := by
  have naw : a ∉ wr := fun z => naf (W.sub _ z)
  have sub2 : ∀ b ∈ wr, b ∈ a :: wr := fun b z => List.mem_cons_of_mem _ z
  intro j
  induction j with
  | zero =>
    intro i st L es ep t hj hi hst kp T pm hR
    obtain rfl : i = n := by omega
    refine codeAny_builtin F.entry_set_update_loop ?_; rw [Around.under_plainId F.plain_set_update_loop _]
    show wpAny _ A.in1 (pyNext (.ref I) >>= _) _ _ st
    refine wpAny_bind (W.done st _ _ hst fun s' hm => ?_)
    show wpAny _ A.in1 (PySem.ret Value.none) _ _ s'
    have tk : xs.take i = xs := List.take_of_length_le (by omega)
    rw [tk] at pm
    refine wpAny_pure (hR s' L es ep t (hm.mono sub2) (fun b o q => hm.heap b o (old b o q).2 (kp b o q)) ?_ pm)
    exact ⟨let ⟨q, y1, y2⟩ := T.ob; ⟨q, hm.heap a q naw y1, y2⟩, T.rows, T.tab, T.nd, T.room, T.few⟩
  | succ j ih =>
    intro i st L es ep t hj hi hst kp T pm hR
    have lt : i < n := by omega
    refine codeAny_builtin F.entry_set_update_loop ?_; rw [Around.under_plainId F.plain_set_update_loop _]
    show wpAny _ A.in1 (pyNext (.ref I) >>= _) _ _ st
    refine wpAny_bind (W.item i st _ _ lt hst fun v s' hP hst' hm => ?_)
    obtain ⟨p, hp, rfl⟩ := hv i v hP
    have kp' : Keeps h0 s'.heap := fun b o q => hm.heap b o (old b o q).2 (kp b o q)
    have T' : TabN w s'.heap a L es ep t := ⟨let ⟨q, y1, y2⟩ := T.ob; ⟨q, hm.heap a q naw y1, y2⟩, T.rows, T.tab, T.nd, T.room, T.few⟩
    have mem : ∀ q : PK, q ∈ L → q ∈ xs := by
      have go : ∀ (ys acc : List PK) (q : PK), q ∈ ys.foldl putL acc → q ∈ acc ∨ q ∈ ys := by
        intro ys
        induction ys with
        | nil => intro acc q z; exact .inl z
        | cons y ys ih =>
          intro acc q z
          rcases ih _ _ z with z | z
          · unfold putL at z
            split at z
            · exact .inl z
            · rcases List.mem_append.mp z with z | z
              · exact .inl z
              · exact .inr (by rw [List.mem_singleton.mp z]; exact List.mem_cons_self)
          · exact .inr (List.mem_cons_of_mem _ z)
      intro q z
      rcases go _ _ _ (pm.mem_iff.mp z) with z | z
      · cases z
      · exact List.mem_of_mem_take z
    have kL : KeysN s'.heap L := fun q z => keyAt_keeps (hk q (mem q z)) kp'
    have kx : KeyAt s'.heap p.2 p.1 := keyAt_keeps (hk p (List.mem_of_getElem? hp)) kp'
    have lenL : L.length ≤ i := by
      have := foldL_len (xs.take i) []
      rw [pm.length_eq]
      simp only [List.length_nil, List.length_take] at this
      omega
    show wpAny _ A.in1 (holding [Value.ref p.1] (setAdd a (.ref p.1)) >>= _) _ _ s'
    refine wpAny_bind (wpAny_holding ?_)
    unfold setAdd
    refine wpAny_holding (wpAny_bind (pyHash_key _ _ _ s' _ kx.1 (by have := kx.2; show A.units + 1 + _ < _; omega) ?_))
    refine addN (s := { s' with toks := s'.toks + p.2.draws }) T' kL kx (by show A.units + 1 + 8 < _; omega) (by omega) fun bb h' L' es' ep' t' sb R' in1 out1 => ?_
    have pm' : L'.Perm ((xs.take (i + 1)).foldl putL []) := by
      rw [List.take_add_one, hp, List.foldl_append]
      show L'.Perm (putL ((xs.take i).foldl putL []) p)
      have iff_ : p.2 ∈ L.map (·.2) ↔ p.2 ∈ ((xs.take i).foldl putL []).map (·.2) := (pm.map (·.2)).mem_iff
      unfold putL
      split
      · rename_i z
        rw [in1 (iff_.mpr z)]
        exact pm
      · rename_i z
        exact ((out1 fun y => z (iff_.mp y)).trans (List.Perm.cons _ pm)).trans (List.perm_append_comm (l₁ := [p]))
    refine wpAny_pure ⟨plainId_quiet F.plain_set_update_loop _, ih (i + 1) _ L' es' ep' t' (by omega) lt (W.frame _ s' _ _ hst' (Nat.le_add_right _ _) fun b hb o e => ?_) (fun b o q => (sb.2 b (old b o q).1).trans (kp' b o q)) R' pm' fun s'' L2 es2 ep2 t2 mv k2 T2 p2 => ?_⟩
    · rw [sb.2 b fun z : b = a => naf (by rw [← z]; exact hb)]; exact e
    · refine hR s'' L2 es2 ep2 t2 (Moved.trans W.gtrans ((hm.mono sub2).then_heap (Nat.le_add_right _ _) fun b o hb e => ?_) mv) k2 T2 p2
      rw [sb.2 b fun z : b = a => hb (by rw [z]; exact List.mem_cons_self)]; exact e
end
end Z

namespace Z
open PySem PySem.Spec PyProof.Rows L2 LamX
set_option autoImplicit false
section
variable {P : Program} {w : World} {A : Around} {E : Value → Shared → Prop} {st : Shared}
abbrev newS (w : World) : Obj := { cls := .type "set", dict := none, data := .set #[] 0 (.fresh 0 0 (!w.params.followText "set-order")) }
/-- what stands behind set(t) -/
structure SetMade (w : World) (h h' : Heap) (a : Addr) (xs : List PK) : Prop where
  keep : Keeps h h'
  tab : ∃ L es ep t, L.Perm (xs.foldl putL []) ∧ TabN w h' a L es ep t
set_option maxHeartbeats 3200000 in
theorem setT_call {tp : Addr} {its : Array Value} (xs : List PK) {Q : Value → Shared → Prop} (ha : A.handled = none) (ht : st.heap.IsTuple tp its) (hi : ∀ (i : Nat) (v : Value), its[i]? = some v → ∃ p, xs[i]? = some p ∧ v = Value.ref p.1) (hz : its.size = xs.length) (few : xs.length < 63) (hu : A.units + 60 < cLine) (hk : ∀ p ∈ xs, KeyAt st.heap p.2 p.1)
    (q : ∀ (h' : Heap) (tk : Nat), SetMade w st.heap h' st.heap.objs.size xs → Q (.ref st.heap.objs.size) { st with heap := h', toks := tk }) :
    wpAny (model P w) A (call (.type "set") [.ref tp]) Q E st := by
  obtain ⟨c, tl, hmro⟩ := F.called_set.mro
  have hmade := F.called_set.made; have hsub := F.called_set.sub
  refine wpAny_call (codeAny_of_tree ?_)
  show wpAny _ _ (callAny (.type "set") _) _ _ _
  refine wpAny_pure ⟨Code.quiet_builtin _ (by decide +kernel), codeAny_builtin F.entry_type_call ?_⟩; rw [Around.under_plain (weight_type_call_type "set" [.ref tp] []) rfl]
  have h1 := F.called_set.notType; have h2 := F.called_set.canCreate; have hct := F.typeCall_set_1 (.ref tp)
  repeat (any_goals (first | assumption | wp_step))
  have big : Keeps st.heap (st.heap.push (newS w)) := fun b o e => Heap.get?_push_of_some _ e
  refine codeAny_mono (code_set_led1 (.ref tp) (E := E) (Q₁ := fun ob s1 => ob = .ref st.heap.objs.size ∧ s1 = { st with heap := st.heap.push (newS w) }) ⟨rfl, rfl⟩) fun r s1 hr => ?_
  cases r with
  | error e => exact hr
  | ok fl =>
    cases fl with
    | ret ob =>
      obtain ⟨rfl, rfl⟩ := hr
      have hS : (st.heap.push (newS w)).get? st.heap.objs.size = some (newS w) := Heap.get?_push_size _ rfl
      have hT : Shared.TypeIs { st with heap := st.heap.push (newS w) } (.ref st.heap.objs.size) "set" := ⟨_, hS, rfl⟩
      have hli := F.called_set.init.lookup; have hbi := F.called_set.init.bind (.ref st.heap.objs.size)
      repeat (any_goals (first | assumption | wp_step))
      refine codeAny_mono (codeAny_call_builtin (R := wants (fun r s2 => r = .none ∧ ∃ h' tk, s2 = { st with heap := h', toks := tk } ∧ SetMade w st.heap h' st.heap.objs.size xs) E) F.called_set.init.plain F.entry_set_init (check_set_init_1 hT ?_)) fun r2 s2 hr2 => ?_
      · obtain ⟨⟨oc, od, odt, osl⟩, hol, hcl, nl, hdl⟩ := ht
        simp only at hcl hdl
        subst hcl hdl
        have hol' := big _ _ hol
        have hsls := F.sub_tuple_set; have hslf := F.sub_tuple_frozenset
        have hne : (Value.type "tuple" == Value.type "dict") = false := by decide
        have hl1 : (st.heap.push (newS w)).IsTuple tp its := ⟨_, hol', rfl, nl, rfl⟩
        unfold Builtin.«set.__init__» noKeywords Builtin.Frozenset.updateFrom
        generalize hPI : pyIter = PI
        wp_walk
        subst hPI
        refine wpAny_pyIter_tuple hl1 (wpAny_bind (wpAny_runValue ?_))
        have hlS : tp < st.heap.objs.size := Heap.lt_size hol
        have hh3 : A.in1.in1.in1.handled = none := by simp [ha]
        have hz1 : (st.heap.push (newS w)).objs.size = st.heap.objs.size + 1 := Heap.size_push ..
        have hneI : tp ≠ (st.heap.push (newS w)).objs.size := by rw [hz1]; exact Nat.ne_of_lt (Nat.lt_succ_of_lt hlS)
        have naf : st.heap.objs.size ∉ [(st.heap.push (newS w)).objs.size, tp] := by
          rw [hz1]
          simp only [List.mem_cons, List.not_mem_nil, or_false, not_or]
          exact ⟨Nat.ne_of_lt (Nat.lt_succ_self _), Nat.ne_of_gt hlS⟩
        have old : ∀ b o, st.heap.get? b = some o → b ≠ st.heap.objs.size ∧ b ∉ [(st.heap.push (newS w)).objs.size] := fun b o e => by
          have lt := Heap.lt_size e
          rw [hz1]
          simp only [List.mem_cons, List.not_mem_nil, or_false]
          exact ⟨Nat.ne_of_lt lt, Nat.ne_of_lt (Nat.lt_succ_of_lt lt)⟩
        refine loop_keys ((Walks.tuple hh3 _ tp hneI its).toS) st.heap.objs.size naf st.heap xs hz few (by show A.units + 1 + 1 + 20 < _; omega) hi hk old (its.size - 0) 0 _ [] #[] 0 _ (by omega) (Nat.zero_le _) ⟨⟨_, Heap.get?_push_size _ rfl, rfl, rfl⟩, hl1.push _⟩ (fun b o e => Heap.get?_push_of_some _ (big b o e)) (fresh_tab (led := !w.params.followText "set-order") (Heap.get?_push_of_some _ hS)) (by simp) ?hR
        case hR =>
          intro s' L es ep t hm kp T pm
          obtain ⟨h', g2, d', tk', os'⟩ := s'
          have eg : g2 = st.gens := hm.gens
          have ed : d' = st.drawn := hm.drawn
          have eo : os' = st.os := hm.os
          subst eg ed eo
          show wpAny _ _ _ _ _ _
          refine wpAny_pure ?_
          show wpAny _ _ (PySem.ret Value.none) _ _ _
          exact wpAny_pure ⟨rfl, h', tk', rfl, kp, L, es, ep, t, pm, T⟩
      · cases r2 with
        | error e => exact hr2
        | ok fl2 =>
          cases fl2 with
          | ret r =>
            obtain ⟨rfl, h', tk, rfl, sm⟩ := hr2
            repeat (any_goals (first | assumption | wp_step))
            exact q _ _ sm
          | _ => exact hr2.elim
    | _ => exact hr.elim
end
end Z

namespace Z
open PySem PySem.Spec PyProof.Rows L2 LamX
set_option autoImplicit false
/-! ### set(t), as data -/
def setF (d : D) : Option D := match d with
  | .tup ds => if ds.length < 63 then (foldS ds).map .set else none
  | _ => none
section
variable {T : Wd} {ι : List Addr} {bar : Addr → Prop} {H : Hp}
theorem refs_of : ∀ {ds : List D} {vs : List V}, ds.all tupK = true → RelDs T ι bar H ds vs → ∃ bs : List Addr, vs = bs.map V.ref
  | [], vs, _, r => by cases r; exact ⟨[], rfl⟩
  | d :: ds, vs, h, r => by
    obtain ⟨v, us, rfl, r1, r2⟩ := r.uncons
    simp only [List.all_cons, Bool.and_eq_true] at h
    obtain ⟨bs, rfl⟩ := refs_of h.2 r2
    obtain ⟨_, _, kd, rfl⟩ := tupK_isK h.1
    obtain ⟨b, rfl⟩ := tup_ref h.1 r1
    exact ⟨b :: bs, rfl⟩
theorem fold_all : ∀ {es acc p : List D}, es.foldl stepS (some acc) = some p → es.all tupK = true
  | [], _, _, _ => rfl
  | e :: es, acc, p, h => by
    rw [List.foldl_cons] at h
    cases q : tupK e with
    | false => simp only [stepS, q, Bool.false_eq_true, if_false, foldS_none] at h; cases h
    | true =>
      simp only [stepS, q, if_true] at h
      rw [List.all_cons, q, fold_all h] <;> rfl
theorem fold_put : ∀ {es acc p : List D} {bs as : List Addr}, es.foldl stepS (some acc) = some p → RelDs T ι bar H es (bs.map V.ref) → RelDs T ι bar H acc (as.map V.ref) → acc.all tupK = true →
    ∃ ps : List Addr, RelDs T ι bar H p (ps.map V.ref) ∧ p.all tupK = true ∧ ps.zip (nks p) = (bs.zip (nks es)).foldl putL (as.zip (nks acc))
  | [], acc, p, bs, as, h, r, ra, ha => by
    cases h
    exact ⟨as, ra, ha, by simp [nks]⟩
  | e :: es, acc, p, bs, as, h, r, ra, ha => by
    rw [List.foldl_cons] at h
    obtain ⟨v, us, ev, r1, r2⟩ := r.uncons
    cases bs with
    | nil => cases ev
    | cons b bs =>
      simp only [List.map_cons, List.cons.injEq] at ev
      obtain ⟨rfl, rfl⟩ := ev
      cases q : tupK e with
      | false => simp only [stepS, q, Bool.false_eq_true, if_false, foldS_none] at h; cases h
      | true =>
        simp only [stepS, q, if_true] at h
        have l1 : as.length = (nks acc).length := by have := ra.length; rw [List.length_map] at this; rw [nks_len, this]
        show ∃ ps : List Addr, _ ∧ _ ∧ ps.zip (nks p) = (bs.zip (nks es)).foldl putL (putL (as.zip (nks acc)) (b, nk e))
        have sz : (as.zip (nks acc)).map (·.2) = nks acc := snd_zip l1
        cases hj : ixN (nks acc) (nk e) with
        | some j =>
          have hm : nk e ∈ nks acc := by
            have := ixN_mem (ks := nks acc) (k := nk e); rw [hj] at this; exact of_decide_eq_true this.symm
          have e1 : putS acc e = acc := by simp only [putS, hj]
          have e2 : putL (as.zip (nks acc)) (b, nk e) = as.zip (nks acc) := by unfold putL; rw [sz]; exact if_pos hm
          rw [e1] at h
          rw [e2]
          exact fold_put h r2 ra ha
        | none =>
          have hm : nk e ∉ nks acc := by
            have := ixN_mem (ks := nks acc) (k := nk e); rw [hj] at this; exact of_decide_eq_false this.symm
          have e1 : putS acc e = acc ++ [e] := by simp only [putS, hj]
          have e2 : putL (as.zip (nks acc)) (b, nk e) = (as ++ [b]).zip (nks (acc ++ [e])) := by
            unfold putL
            rw [sz, if_neg hm, nks_app, List.zip_append l1]
            rfl
          rw [e1] at h
          rw [e2]
          exact fold_put h r2 (by rw [List.map_append]; exact ra.append (.cons r1 .nil)) (by rw [List.all_append, ha]; simpa using q)
end
theorem ud_set {T : Wd} {X : Cx} (ok : Ok T X) (rm : Rm X) (hc : X.calm = true) : Call1 T X (.type "set") setF := by
  intro pins s σ H x v Q I rx ⟨ι, bar, d, r, hb, hi, rd, hk, q⟩
  unfold setF at hk
  split at hk
  · rename_i ds
    split at hk
    · rename_i hl
      obtain ⟨p, hf, rfl⟩ := Option.map_eq_some_iff.mp hk
      obtain ⟨a, xs, rfl, h1, r1⟩ := rd.tup
      rw [← ok.K] at h1
      have al := fold_all hf
      obtain ⟨bs, rfl⟩ := refs_of al r1
      obtain ⟨its, rv, tp, _⟩ := I.tuple h1
      cases rx
      have lb : bs.length = ds.length := by have := r1.length; rw [List.length_map] at this; exact this
      have li : its.length = bs.length := by have := rv.length; rw [List.length_map] at this; exact this.symm
      have lz : (bs.zip (nks ds)).length = bs.length := by rw [List.length_zip, nks_len, lb, Nat.min_self]
      obtain ⟨ps, rp, pk, ez⟩ := fold_put (as := []) hf r1 .nil rfl
      refine setT_call (its := its.toArray) (bs.zip (nks ds)) (I.ok.hd hc) tp (fun i u hu => ?_) (by rw [List.size_toArray, lz, li]) (by rw [lz, lb]; exact hl) (by have := rm.hu; omega) (fun p hm => keysN_of ok I al r1 p hm) fun h' tk sm => ?_
      · have hu' : its[i]? = some u := by simpa using hu
        have hi2 : i < bs.length := by rw [← li]; exact (List.getElem?_eq_some_iff.mp hu').1
        have hi3 : i < (nks ds).length := by rw [nks_len, ← lb]; exact hi2
        refine ⟨(bs[i], (nks ds)[i]), by rw [List.getElem?_zip_eq_some]; exact ⟨List.getElem?_eq_getElem hi2, List.getElem?_eq_getElem hi3⟩, ?_⟩
        obtain ⟨u2, e2, ru⟩ := rv.get (i := i) (x := V.ref bs[i]) (by simp [hi2])
        rw [hu'] at e2
        cases e2
        exact ru
      · obtain ⟨L, es, ep, t, pm, TB⟩ := sm.tab
        have nH : H s.heap.objs.size = none := I.hok.fresh (Nat.le_refl _)
        have new : ObjOk X.prog X.w (upd H s.heap.objs.size (.ext (SetNh T.w s.heap.objs.size (nks p) ps))) h' s.heap.objs.size (.ext (SetNh T.w s.heap.objs.size (nks p) ps)) := by
          have pm2 : L.Perm (ps.zip (nks p)) := by rw [ez]; exact pm
          rw [ok.w] at TB
          refine ⟨⟨L, es, ep, t, pm2, TB⟩, let ⟨q, e, _⟩ := TB.ob; ⟨q, e⟩, fun h1 h2 z kk => ?_⟩
          obtain ⟨L2, es2, ep2, t2, z1, z2⟩ := z
          obtain ⟨o2, y1, y2⟩ := z2.ob
          exact ⟨L2, es2, ep2, t2, z1, ⟨⟨o2, kk _ y1, y2⟩, z2.rows, z2.tab, z2.nd, z2.room, z2.few⟩⟩
        have I2 := I.laid (t' := tk) sm.keep (Nat.le_refl _) new
        obtain ⟨c1, c2⟩ := tupKs_keys pk
        refine ⟨.ref _, _, I2, rfl, q _ _ (same_upd nH) ?_⟩
        simp only [RelD]
        exact ⟨_, ps.map V.ref, rfl, fun z => hb _ z nH, rp.keep (.same (same_upd nH)) hi (fun a h => .inl h), .inr (.inr ⟨ps, rfl, c1, c2, upd_same⟩)⟩
    · cases hk
  · cases hk
/-! enumerate -/
section
variable {T : Wd} {W : WX} {X : Cx} {e : Expr} {m : Ev} {elts : List Expr} {kk : Nat} {tpos p pos : Pos}
theorem ei_en (ok : Ok T X) (hg : Gl X "enumerate") (hm : X.mg "enumerate" = none) (he : EE T W X e m) (hs : starEach [e] X.env = [(false, eval e X.env)] := by rfl) (hs2 : starEach [e] X.env = (false, eval e X.env) :: starEach [] X.env := by rfl) : EI T W X (.Tuple elts kk tpos) (.Call (.Name "enumerate" p) [e] [] pos) (iEn m) := by
  refine ⟨fun pins s σ H R I q => ?_⟩
  obtain ⟨γ, ρ, g, S, pp⟩ := q
  unfold iEn at pp
  cases hmm : m ρ g with
  | bad => rw [hmm] at pp; exact pp.elim
  | exc x g' =>
    rw [hmm] at pp
    refine (pi_enT hg hm (pa_cons he pa_nil hs2) hs).run pins s σ H R I ⟨γ, ρ, g, S, ?_⟩
    rw [hmm]
    exact pp
  | ok d g' =>
    rw [hmm] at pp
    cases d with
    | tup ds =>
      refine (pi_enT hg hm (pa_cons he pa_nil hs2) hs).run pins s σ H R I ⟨γ, ρ, g, S, ?_⟩
      rw [hmm]
      intro v ι' H' s1 G1 r1
      obtain ⟨a, vs, rfl, sq, rs⟩ : ∃ a vs, v = .ref a ∧ SqT T.K H' a vs ∧ RelDs T ι' (γ.to ι').bar H' ds vs := by simpa only [RelD] using r1
      refine ⟨a, vs, rfl, ok.K ▸ sq, ?_⟩
      rw [ok.K]
      exact pp _ _ _ _ ⟨[.tup ds], [.ref a], fun _ _ _ => Iff.rfl⟩ (it_enT T a ds) s1 G1 (.cons r1 .nil)
    | lst ds =>
      refine (pi_enum hg hm (pa_cons he pa_nil hs2) hs).run pins s σ H R I ⟨γ, ρ, g, S, ?_⟩
      rw [hmm]
      intro v ι' H' s1 G1 r1
      obtain ⟨a, vs, rfl, sq, nb, rs⟩ : ∃ a vs, v = .ref a ∧ Rd H' a (.lst vs) ∧ ¬ (γ.to ι').bar a ∧ RelDs T ι' (γ.to ι').bar H' ds vs := by simpa only [RelD] using r1
      refine ⟨a, vs, rfl, .inl sq, ?_⟩
      rw [ok.K]
      refine pp _ _ _ _ ⟨[.lst ds], [.ref a], fun _ _ _ => Iff.rfl⟩ ⟨fun ι bar H i k hl => ?_, fun ι bar H i d k e => ?_, fun ι bar H i d x H' hi k e y => ?_⟩ s1 G1 (.cons r1 .nil)
      · obtain ⟨vs, q, rs⟩ := lst_key _ _ _ k
        rw [enD_len] at hl
        exact ⟨vs, .inl q, by rw [rs.length]; exact hl⟩
      · obtain ⟨vs, q, rs⟩ := lst_key _ _ _ k
        rw [enD_get] at e
        obtain ⟨d0, e0, _⟩ := Option.map_eq_some_iff.mp e
        obtain ⟨v, e1, _⟩ := rs.get e0
        exact ⟨vs, v, .inl q, e1⟩
      · obtain ⟨vs, q, rs⟩ := lst_key _ _ _ k
        rw [enD_get] at e
        obtain ⟨d0, e0, rfl⟩ := Option.map_eq_some_iff.mp e
        obtain ⟨v, e1, r1⟩ := rs.get e0
        obtain ⟨p, u, rfl, np, rfl, y⟩ := y
        have := y vs (.inl q)
        rw [e1] at this; cases this
        exact ⟨same_upd np, RelD.newTup hi np (.cons (RelD.ofInt _) (.cons r1 .nil))⟩
    | _ => exact pp.elim
end
end Z

namespace Z
open PySem PySem.Spec PyProof.Rows L2 LamX
set_option autoImplicit false
/-! ### t[::k] -/
def adjT (n : Nat) (k : Int) : Int × Int := Builtin.Slice.sliceAdjust none none k (n : Int)
def pickT (n : Nat) (k : Int) : List Nat := (List.range (Builtin.Slice.slicePlaces (adjT n k).1 (adjT n k).2 k)).map fun (m : Nat) => ((adjT n k).1 + (m : Int) * k).toNat
section
variable {prog : Program} {w : World} {A : Around} {E : Value → Shared → Prop} {st : Shared}
theorem slice_step {sl : Addr} {vs : Value} {k : Int} {n : Nat} {Q : Int × Int × Nat → Shared → Prop} (hs : st.heap.IsSliceOf sl .none .none vs) (ps : IsPart vs (some k)) (k0 : k ≠ 0)
    (q : Q ((adjT n k).1, k, Builtin.Slice.slicePlaces (adjT n k).1 (adjT n k).2 k) st) : wpAny (model prog w) A (Builtin.Slice.sliceApplied (.ref sl) (pure (n : Int))) Q E st := by
  obtain ⟨os, hos, hcs, hds⟩ := id hs
  unfold Builtin.Slice.sliceApplied Builtin.Slice.sliceFields
  refine wpAny_bind (wpAny_bind (wpAny_field hos hds (x := .none) rfl (wpAny_bind (wpAny_field hos hds (x := .none) rfl (wpAny_bind (wpAny_field hos hds (x := vs) rfl (wpAny_pure ?_)))))))
  refine wpAny_bind (HT.slicePart_ ps ?_)
  show wpAny _ _ (if (k == 0) = true then _ else _) _ _ st
  rw [if_neg (by simpa using k0)]
  refine wpAny_bind (HT.slicePart_ .none (wpAny_bind (HT.slicePart_ .none (wpAny_bind (wpAny_pure ?_)))))
  exact wpAny_pure q
theorem pick_tup (xs : List Value) (k : Int) : ((List.range (Builtin.Slice.slicePlaces (adjT xs.length k).1 (adjT xs.length k).2 k)).filterMap fun (m : Nat) => xs.toArray[((adjT xs.length k).1 + (m : Int) * k).toNat]?).toArray = (picked xs (pickT xs.length k)).toArray := by
  rw [picked_eq]
  unfold pickT
  rw [List.filterMap_map]
  congr 1
  refine congrArg (fun f => List.filterMap f _) (funext fun m => ?_)
  simp
theorem item_step {t sl : Addr} {its : List Value} {vs : Value} {k : Int} {Q : Value → Shared → Prop} (ht : IsTup st.heap t its.toArray) (hs : st.heap.IsSliceOf sl .none .none vs) (ps : IsPart vs (some k)) (k0 : k ≠ 0) (k1 : k ≠ 1)
    (hz : (picked its (pickT its.length k)).length ≤ sizeLine) (q : Q (.ref st.heap.objs.size) { st with heap := st.heap.push { cls := .type "tuple", data := .seq (picked its (pickT its.length k)).toArray } }) : wpAny (model prog w) A (getItem (.ref t) (.ref sl)) Q E st := by
  have fit : sizeOk (.seq (picked its (pickT its.length k)).toArray) := by show (picked its (pickT its.length k)).toArray.size ≤ sizeLine; rw [List.size_toArray]; exact hz
  obtain ⟨os, hos, hcs, hds⟩ := id hs
  have tys : st.TypeIs (.ref sl) "slice" := ⟨os, hos, hcs⟩
  unfold getItem
  try with_reducible refine wpAny_holding ?_
  first | refine wpAny_bind (wpAny_pure ?_) | skip
  refine wpAny_bind (wpAny_sequenceKey ht.typeIs (by decide) (wpAny_bind (wpAny_callSpecial?_slot (name := Str.ofString "__getitem__") ht.typeIs PyProof.Rows.slot_tuple_getitem (wpAny_call_entry PyProof.Rows.slot_tuple_getitem ht.typeIs entry_tuple_getitem ?_ (args_tuple_getitem _ _)))))
  show wpAny _ _ (Builtin.Tuple.tupleItemsOf (.ref t) >>= _) _ _ st
  refine wpAny_bind (tupleItemsOf_ ht (wpAny_bind (wpAny_typeOf tys ?_))); rw [if_pos (by decide)]
  have en : ((its.toArray.size : Nat) : Int) = (its.length : Int) := by rw [List.size_toArray]
  rw [List.size_toArray]
  refine wpAny_bind (slice_step hs ps k0 ?_)
  have no : ¬ (((adjT its.length k).1 == 0 && k == 1 && (Builtin.Slice.slicePlaces (adjT its.length k).1 (adjT its.length k).2 k) == its.length) = true) := by
    intro z
    rw [Bool.and_eq_true, Bool.and_eq_true] at z
    exact k1 (eq_of_beq z.1.2)
  show wpAny _ _ (if ((adjT its.length k).1 == 0 && k == 1 && (Builtin.Slice.slicePlaces (adjT its.length k).1 (adjT its.length k).2 k) == its.length) = true then _ else _) _ _ st
  rw [if_neg no, pick_tup]
  first
    | exact wpAny_bind (m := Builtin.Tuple.tupleExact _) (wpAny_newObj_type (wpAny_pure ⟨_, rfl, wpAny_pure q⟩) fit)
    | exact wpAny_bind (m := Builtin.Tuple.tupleExact _) (wpAny_newObj_type (wpAny_bind (wpAny_pure (wpAny_pure ⟨_, rfl, wpAny_pure q⟩))) fit)
    | exact wpAny_bind (wpAny_bind (m := Builtin.Tuple.tupleExact _) (wpAny_newObj_type (wpAny_pure (wpAny_pure ⟨_, rfl, wpAny_pure q⟩)) fit))
    | exact wpAny_bind (wpAny_bind (m := Builtin.Tuple.tupleExact _) (wpAny_newObj_type (wpAny_pure ⟨_, rfl, wpAny_pure q⟩) fit))
end
def stG (d : D) (k : Int) : Option D := match d with
  | .tup ds => if k = 0 ∨ k = 1 then none else if fits (picked ds (pickT ds.length k)).length then some (.tup (picked ds (pickT ds.length k))) else none
  | d => stF d k
def mSu (a : Ev) (k : Int) : Ev := fun ρ g => (a ρ g).bind fun d g1 => ret (stG d k) g1
section
variable {T : Wd} {W : WX} {X : Cx} {a : Expr} {ma : Ev} {stp : Expr} {p2 pos : Pos} {k : Int}
theorem ee_sup (ok : Ok T X) (hst : PO X (some stp) (fun σ H Q => Q (some k) H)) (ha : EW T W X a ma) : EE T W X (.Subscript a (.Slice none none (some stp) p2) pos) (mSu ma k) := by
  refine ⟨fun pins s σ H Q I h => ?_⟩
  obtain ⟨γ, ρ, g, S, p⟩ := h
  refine Subscript_ (thn (ha.run pins s σ H (fun x H1 => ∃ ι1 g1 d r, Stp γ.ι ι1 H H1 ∧ GR T ι1 (γ.to ι1).bar H1 g1 ∧ RelW T ι1 (γ.to ι1).bar H1 d x ∧ stG d k = some r ∧ Post T (γ.to ι1) H1 σ W (rD T) Q (.ok r g1)) I ⟨γ, ρ, g, S, ?_⟩) fun v s1 ⟨x, H1, I1, r1, q1⟩ => ?_)
  · refine p.bind fun d g1 _ v ι1 H1 s1 G1 r1 p1 => ?_
    cases hr : stG d k with
    | none => rw [hr] at p1; exact p1.elim
    | some r => rw [hr] at p1; exact ⟨ι1, g1, d, r, s1, G1, r1, hr, p1⟩
  obtain ⟨ι1, g1, d, r, st1, G1, rw1, hr, post⟩ := q1
  have S1 := S.step st1 G1
  have go : ∀ (Fin : Shared → Prop), (∀ (vst : Value) (s4 : Shared), IsPart vst (some k) → Inv X pins σ H1 s4 → wpAny (model X.prog X.w) X.A (subscriptTail a (.Slice none none (some stp) p2) v (.ref s4.heap.objs.size)) (EP X pins σ Q) X.xe { s4 with heap := s4.heap.push { cls := .type "slice", data := .fields #[.none, .none, vst] } }) →
      wpAny (model X.prog X.w) X.A (eval (.Slice none none (some stp) p2) X.env) (fun o s2 => wpAny (model X.prog X.w) X.A (subscriptTail a (.Slice none none (some stp) p2) v o) (EP X pins σ Q) X.xe s2) X.xe s1 := fun _ fin => by
    refine wpAny_Slice (thn (po_none.run pins s1 σ H1 (fun o H2 => o = none ∧ H2 = H1) I1 ⟨rfl, rfl⟩) fun vl s2 ⟨l, H2, I2, pl, el, e2⟩ => ?_)
    subst el e2
    refine thn (po_none.run pins s2 σ H2 (fun o H3 => o = none ∧ H3 = H2) I2 ⟨rfl, rfl⟩) fun vu s3 ⟨u, H3, I3, pu, eu, e3⟩ => ?_
    subst eu e3
    refine thn (hst.run pins s3 σ H3 (fun o H4 => o = some k ∧ H4 = H3) I3 ⟨rfl, rfl⟩) fun vst s4 ⟨o, H4, I4, ps, eo, e4⟩ => ?_
    subst eo e4
    cases pl
    cases pu
    exact fin vst s4 ps I4
  refine go (fun _ => True) fun vst s4 ps I4 => ?_
  have I5 : Inv X pins σ H1 { s4 with heap := s4.heap.push { cls := .type "slice", data := .fields #[.none, .none, vst] } } := I4.kept (t' := s4.toks) fun b ob q => Heap.get?_push_of_some _ q
  have hn := I5.hok.fresh (Nat.le_refl _)
  cases d with
  | lst ds =>
    simp only [stG, stF] at hr
    split at hr
    · cases hr
    · rename_i hk0
      split at hr
      · rename_i hfit
        cases hr
        obtain ⟨b, vs, rfl, hx, rs⟩ := rw1.lst
        cases r1
        obtain ⟨its, r, ht, hz⟩ := I5.list (.inl hx)
        have hl2 : ds.length = its.length := by rw [← rs.length, r.length]
        have hl3 := r.length
        refine tail_any (ops := [.ref b, .ref s4.heap.objs.size]) ht.isList.typeIs (PySem.slot_list_getitem.lookup) (wpAny_getItem_list_slice ht.isList (Heap.IsSliceOf.new _ _ _ vst) .none .none ps (by intro z; exact hk0 (Option.some.inj z)) ?_ (by rw [List.size_toArray]; omega)) (by with_unfolding_all rfl)
        rw [pick_its, ← hl2]
        have hrel := picked_rel rs (pickI ds.length k)
        refine ⟨.ref _, _, I5.laid (t' := s4.toks) (o := .lst (picked vs (pickI ds.length k))) (fun b ob q => Heap.get?_push_of_some _ q) (Nat.le_refl _) ?_, rfl, Post.ret1 S1 (same_upd hn) post (RelD.newLst S1.bart (fun a h => .inl h) hn hrel)⟩
        exact ⟨by rw [hrel.length]; exact fits_line hfit, _, 0, picked_vals r _, Heap.get?_push_size _ rfl⟩
      · cases hr
  | tup ds =>
    simp only [stG] at hr
    split at hr
    · cases hr
    · rename_i hk0
      split at hr
      · rename_i hfit
        cases hr
        obtain ⟨b, vs, rfl, hx, rs⟩ := rw1.tup
        rw [← ok.K] at hx
        cases r1
        obtain ⟨its, r, ht, hz⟩ := I5.tuple hx
        have hl2 : ds.length = its.length := by rw [← rs.length, r.length]
        have hrel := picked_rel rs (pickT ds.length k)
        have hval := picked_vals r (pickT ds.length k)
        have hpl := hval.length
        refine tail_any (ops := [.ref b, .ref s4.heap.objs.size]) ht.typeIs (PyProof.Rows.slot_tuple_getitem.lookup) (item_step ht (Heap.IsSliceOf.new _ _ _ vst) ps (fun z => hk0 (.inl z)) (fun z => hk0 (.inr z)) (by rw [← hl2, ← hpl, hrel.length]; exact fits_line hfit) ?_) (by with_unfolding_all rfl)
        rw [← hl2]
        refine ⟨.ref _, _, I5.laid (t' := s4.toks) (o := .tup (picked vs (pickT ds.length k))) (fun b ob q => Heap.get?_push_of_some _ q) (Nat.le_refl _) ?_, rfl, Post.ret1 S1 (same_upd hn) post (RelD.newTup (fun a h => .inl h) hn hrel)⟩
        exact ⟨by rw [hrel.length]; exact fits_line hfit, _, hval, IsTup.new _ _⟩
      · cases hr
  | _ => cases hr
theorem ee_su {j : Nat} {p1 : Pos} (ok : Ok T X) (ha : EW T W X a ma) : EE T W X (.Subscript a (.Slice none none (some (.Constant (.int k) j p1)) p2) pos) (mSu ma k) :=
  ee_sup ok (PO.imp (po_some pe_int) fun σ H Q q => ⟨k, rfl, q⟩) ha
theorem ee_suN {j : Nat} {p1 p3 : Pos} (ok : Ok T X) (ha : EW T W X a ma) : EE T W X (.Subscript a (.Slice none none (some (.UnaryOp .USub (.Constant (.int k) j p1) p3)) p2) pos) (mSu ma (-k)) :=
  ee_sup ok (PO.imp (po_some (pe_un un_neg pe_int)) fun σ H Q q => ⟨k, rfl, -k, rfl, q⟩) ha
end
end Z

namespace Z
open PySem PySem.Spec PyProof.Rows L2 LamX
set_option autoImplicit false
/-! ### x is True -/
def isO2 (d e : D) : Option D := match e with
  | .bl b => (match d with
    | .bl a => some (.bl (decide (a = b)))
    | _ => none)
  | e => isO d e
theorem od_is2 {T : Wd} {X : Cx} : OpD T X (compareOp .Is) isO2 := by
  intro pins s σ H x y v u Q I rx ry ⟨ι, bar, d, e, r, hb, hi, rd, re, hk, q⟩
  unfold isO2 at hk
  split at hk
  · split at hk
    · cases hk
      have ex := rd.bl
      have ey := re.bl
      exact op_is_bl pins s σ H x y v u Q I rx ry ⟨_, _, ex, ey, q _ _ (Same.refl H) (RelD.ofBl _)⟩
    · cases hk
  · exact od_is pins s σ H x y v u Q I rx ry ⟨ι, bar, d, _, r, hb, hi, rd, re, hk, q⟩
def isNotO2 (d e : D) : Option D := match e with
  | .bl b => (match d with
    | .bl a => some (.bl (!decide (a = b)))
    | _ => none)
  | e => isNotO d e
theorem od_isNot2 {T : Wd} {X : Cx} : OpD T X (compareOp .IsNot) isNotO2 := by
  intro pins s σ H x y v u Q I rx ry ⟨ι, bar, d, e, r, hb, hi, rd, re, hk, q⟩
  unfold isNotO2 at hk
  split at hk
  · split at hk
    · cases hk
      have ex := rd.bl
      have ey := re.bl
      exact op_isnot_bl pins s σ H x y v u Q I rx ry ⟨_, _, ex, ey, q _ _ (Same.refl H) (RelD.ofBl _)⟩
    · cases hk
  · exact od_isNot pins s σ H x y v u Q I rx ry ⟨ι, bar, d, _, r, hb, hi, rd, re, hk, q⟩
end Z

namespace Z
open PySem PySem.Spec PyProof.Rows L2 LamX
set_option autoImplicit false
/-! ### methods of texts -/
def strsD : List D → Option (List Str)
  | [] => some []
  | .str x :: ds => (match strsD ds with
    | some ys => some (x :: ys)
    | none => none)
  | _ => none
theorem strsD_vs {T : Wd} {ι : List Addr} {bar : Addr → Prop} {H : Hp} : ∀ {ds : List D} {ys : List Str} {vs : List V}, strsD ds = some ys → RelDs T ι bar H ds vs → vs = ys.map V.str
  | [], ys, vs, h, r => by cases h; cases r; rfl
  | d :: ds, ys, vs, h, r => by
    obtain ⟨v, us, rfl, r1, r2⟩ := r.uncons
    cases d with
    | str x =>
      unfold strsD at h
      cases q : strsD ds with
      | none => rw [q] at h; cases h
      | some zs =>
        rw [q] at h
        cases h
        have r1 : v = .str x := by simpa only [RelD] using r1
        rw [r1, strsD_vs q r2]
        rfl
    | _ => cases h
def joinOk (a : Str) (ys : List Str) : Bool := decide ((ys.map (·.length)).sum + ys.length * a.length ≤ 16777216)
def joinF (d : D) (es : List D) : Option D := match d, es with
  | .str a, [.lst ds] => (match strsD ds with
    | some ys => if joinOk a ys then some (.str (Txt.join a ys)) else none
    | none => none)
  | .str a, [.tup ds] => (match strsD ds with
    | some ys => if joinOk a ys then some (.str (Txt.join a ys)) else none
    | none => none)
  | _, _ => none
def splitF (d : D) (es : List D) : Option D := match d, es with
  | .str a, [.str b] => if (b.length == 0) = false ∧ a.length + 2 ≤ 16777216 then some (.lst ((Txt.split a b).map D.str)) else none
  | _, _ => none
def upperF (d : D) : Option D := match d with
  | .str a => if a.length ≤ 5592405 then some (.str (Txt.upper a)) else none
  | _ => none
theorem strs_rel {T : Wd} {ι : List Addr} {bar : Addr → Prop} {H : Hp} : ∀ ys : List Str, RelDs T ι bar H (ys.map D.str) (ys.map V.str)
  | [] => .nil
  | y :: ys => .cons (by simp only [RelD]) (strs_rel ys)
section
variable {T : Wd} {W : WX} {X : Cx} {o e : Expr} {mo : Ev} {ma : EvL} {apos cpos : Pos}
theorem mt_joinD (ok : Ok T X) : MtR X "str.join" (rM T joinF) := by
  intro pins s σ H x xs v us Q I rx rxs ⟨ι, bar, d, es, r, hb, hi, rd, re, hk, q⟩
  have go : ∀ a ds ys p vs, d = .str a → strsD ds = some ys → joinOk a ys = true → r = .str (Txt.join a ys) → xs = [.ref p] → RelDs T ι bar H ds vs → (SqL X.K H p vs ∨ SqT X.K H p vs) →
      wpAny (model X.prog X.w) X.A (call (.builtin "str.join") (v :: us)) (EP X pins σ Q) X.xe s := by
    intro a ds ys p vs e1 e2 e3 e4 e5 rr hp
    subst e1
    refine mt_join pins s σ H x xs v us Q I rx rxs ⟨a, p, ys, RelW.str rd, e5, ?_, of_decide_eq_true e3, q _ _ (Same.refl H) (by subst e4; simp only [RelD])⟩
    rw [strsD_vs e2 rr] at hp
    exact hp
  unfold joinF at hk
  split at hk
  · rename_i a ds
    obtain ⟨x1, xs1, rfl, re1, re2⟩ := re.uncons
    cases re2
    split at hk
    · rename_i ys hy
      split at hk
      · rename_i hj
        cases hk
        obtain ⟨p, vs, rfl, hr, _, rs⟩ : ∃ p vs, x1 = .ref p ∧ Rd H p (.lst vs) ∧ ¬ bar p ∧ RelDs T ι bar H ds vs := by simpa only [RelD] using re1
        exact go a ds ys p vs rfl hy hj rfl rfl rs (.inl (.inl hr))
      · cases hk
    · cases hk
  · rename_i a ds
    obtain ⟨x1, xs1, rfl, re1, re2⟩ := re.uncons
    cases re2
    split at hk
    · rename_i ys hy
      split at hk
      · rename_i hj
        cases hk
        obtain ⟨p, vs, rfl, hr, rs⟩ : ∃ p vs, x1 = .ref p ∧ SqT T.K H p vs ∧ RelDs T ι bar H ds vs := by simpa only [RelD] using re1
        exact go a ds ys p vs rfl hy hj rfl rfl rs (.inr (ok.K ▸ hr))
      · cases hk
    · cases hk
  · cases hk
theorem mt_splitD (ok : Ok T X) : MtR X "str.split" (rM T splitF) := by
  intro pins s σ H x xs v us Q I rx rxs ⟨ι, bar, d, es, r, hb, hi, rd, re, hk, q⟩
  unfold splitF at hk
  split at hk
  · rename_i a b
    split at hk
    · rename_i hc
      cases hk
      obtain ⟨x1, xs1, rfl, re1, re2⟩ := re.uncons
      cases re2
      have e1 : x1 = .str b := by simpa only [RelD] using re1
      subst e1
      refine mt_split pins s σ H x _ v us Q I rx rxs ⟨a, b, RelW.str rd, rfl, hc.1, hc.2, fun p hp => ?_⟩
      exact q _ _ (same_upd hp) (RelD.newLst hb hi hp (strs_rel _))
    · cases hk
  · cases hk
theorem ee_join (ok : Ok T X) (ho : EW T W X o mo) (ha : EAs T W X [e] ma)
    (hbase : attributeBase o "join" X.env (eval o X.env) = eval o X.env := by rfl)
    (hfew : ((backTo cpos (starEach [e] X.env)).all (fun x => !x.1) && (backToKw cpos (keywordEach [] X.env)).all (fun x => x.1.isSome)
      && decide (([e] : List Expr).length + ([] : List Keyword).length + (if ([] : List Keyword).isEmpty then 0 else 1) < 30)) = true := by rfl)
    (hline : (apos.endLine == cpos.line) = true := by rfl) (hs : starEach [e] X.env = (false, eval e X.env) :: starEach [] X.env := by rfl) (hplain : (backTo cpos (starEach [] X.env)).any (·.1) = false := by rfl) :
    EE T W X (.Call (.Attribute o "join" apos) [e] [] cpos) (mMt isStr joinF mo ma) := ee_mt kd_S ty_S PySem.F.plainAttrs_str PySem.F.slot_str_join PySem.F.type_str_join (mt_joinD ok) ho ha hbase hfew hline hs hplain
theorem ee_split (ok : Ok T X) (ho : EW T W X o mo) (ha : EAs T W X [e] ma)
    (hbase : attributeBase o "split" X.env (eval o X.env) = eval o X.env := by rfl)
    (hfew : ((backTo cpos (starEach [e] X.env)).all (fun x => !x.1) && (backToKw cpos (keywordEach [] X.env)).all (fun x => x.1.isSome)
      && decide (([e] : List Expr).length + ([] : List Keyword).length + (if ([] : List Keyword).isEmpty then 0 else 1) < 30)) = true := by rfl)
    (hline : (apos.endLine == cpos.line) = true := by rfl) (hs : starEach [e] X.env = (false, eval e X.env) :: starEach [] X.env := by rfl) (hplain : (backTo cpos (starEach [] X.env)).any (·.1) = false := by rfl) :
    EE T W X (.Call (.Attribute o "split" apos) [e] [] cpos) (mMt isStr splitF mo ma) := ee_mt kd_S ty_S PySem.F.plainAttrs_str PySem.F.slot_str_split PySem.F.type_str_split (mt_splitD ok) ho ha hbase hfew hline hs hplain
theorem ee_upper (ho : EW T W X o mo) (hbase : attributeBase o "upper" X.env (eval o X.env) = eval o X.env := by rfl) (hline : (apos.endLine == cpos.line) = true := by rfl) :
    EE T W X (.Call (.Attribute o "upper" apos) [] [] cpos) (mUn upperF mo) := PE.imp (pe_upper ho hbase hline) fun σ H Q ⟨γ, ρ, g, S, p⟩ => by
  refine ⟨γ, ρ, g, S, p.bind fun d g1 _ v ι1 H1 s1 G1 r1 p1 => ?_⟩
  have S1 := S.step s1 G1
  cases d with
  | str a =>
    obtain rfl := RelW.str r1
    refine ⟨⟨_, rfl⟩, ?_⟩
    unfold upperF at p1
    by_cases hl : a.length ≤ 5592405
    · simp only [hl, if_true] at p1
      exact ⟨a, rfl, rfl, hl, p1.ret0 (g0 := g) S1 (by simp only [RelD])⟩
    · simp only [hl, if_false] at p1
      exact p1.elim
  | _ => exact p1.elim
end
/-! ### a < b < c < d -/
def mCh3 (k k' k2 : D → D → Option D) (a b c c2 : Ev) : Ev := fun ρ g => (a ρ g).bind fun d g1 => (b ρ g1).bind fun e g2 => (ret (k d e) g2).bind fun r g2 => (ret (isB r) g2).bind fun q g2 =>
  if q = true then (c ρ g2).bind fun f g3 => (ret (k' e f) g3).bind fun r g3 => (ret (isB r) g3).bind fun q g3 => if q = true then (c2 ρ g3).bind fun h g4 => ret (k2 f h) g4 else .ok (.bl false) g3 else .ok (.bl false) g2
end Z

namespace Z
open PySem PySem.Spec PyProof.Rows L2 LamX
set_option autoImplicit false
/-! ### sets of keys carried by value -/
abbrev LV := Leaf × Value
def putV (acc : List LV) (p : LV) : List LV := if p.1 ∈ acc.map (·.1) then acc else acc ++ [p]
theorem putV_in {acc : List LV} {p : LV} (h : p.1 ∈ acc.map (·.1)) : putV acc p = acc := if_pos h
theorem putV_out {acc : List LV} {p : LV} (h : p.1 ∉ acc.map (·.1)) : putV acc p = acc ++ [p] := if_neg h
theorem putV_len {acc : List LV} {p : LV} : (putV acc p).length ≤ acc.length + 1 := by unfold putV; split <;> simp
theorem foldV_len : ∀ (ys acc : List LV), (ys.foldl putV acc).length ≤ acc.length + ys.length
  | [], acc => by simp
  | y :: ys, acc => by
    have h1 := foldV_len ys (putV acc y)
    have h2 := putV_len (acc := acc) (p := y)
    simp only [List.foldl_cons, List.length_cons]
    omega
section
variable {P : Program} {w : World} {A : Around} {E : Value → Shared → Prop} {st : Shared} {a : Addr} {L : List LV}
abbrev rowV (P : Program) (w : World) (p : LV) : Int × Value := ((leafKind P w).hash p.1, p.2)
theorem LfS.keep {h h' : Heap} (R : LfS P w h a L) (k : ∀ o, h.get? a = some o → h'.get? a = some o) : LfS P w h' a L := ⟨let ⟨o, es, ep, t, e, r⟩ := R.ob; ⟨o, es, ep, t, k o e, r⟩, R.good, R.nd, R.few⟩
theorem rowsV_good (g : ∀ p ∈ L, (leafKind P w).is p.1 p.2 = true ∧ p.2.scannable = true) : ElemsOf (leafKind P w) (L.map (rowV P w)) := fun e he => by
  obtain ⟨p, hp, rfl⟩ := List.mem_map.mp he
  exact ⟨⟨p.1, (g p hp).1, rfl⟩, (g p hp).2⟩
theorem find_row (g : ∀ p ∈ L, (leafKind P w).is p.1 p.2 = true ∧ p.2.scannable = true) (k : Leaf) : k ∈ L.map (·.1) ↔ ∃ e ∈ L.map (rowV P w), (leafKind P w).is k e.2 = true := by
  constructor
  · intro h
    obtain ⟨p, hp, rfl⟩ := List.mem_map.mp h
    exact ⟨rowV P w p, List.mem_map.mpr ⟨p, hp, rfl⟩, (g p hp).1⟩
  · rintro ⟨e, he, q⟩
    obtain ⟨p, hp, rfl⟩ := List.mem_map.mp he
    exact List.mem_map.mpr ⟨p, hp, (leafKind P w).inj _ _ _ (g p hp).1 q⟩
/-- rows, rearranged -/
theorem rows_perm {rs : List (Int × Value)} (pm : rs.Perm (L.map (rowV P w))) : ∃ L' : List LV, L'.Perm L ∧ rs = L'.map (rowV P w) := by
  have go : ∀ {xs ys : List (Int × Value)}, xs.Perm ys → ∀ M : List LV, ys = M.map (rowV P w) → ∃ M' : List LV, M'.Perm M ∧ xs = M'.map (rowV P w) := by
    intro xs ys h
    induction h with
    | nil => intro M e; exact ⟨M, .refl _, e⟩
    | cons x _ ih =>
      intro M e
      cases M with
      | nil => cases e
      | cons m M =>
        simp only [List.map_cons, List.cons.injEq] at e
        obtain ⟨M', q, e2⟩ := ih M e.2
        exact ⟨m :: M', q.cons m, by rw [List.map_cons, ← e.1, ← e2]⟩
    | swap x y l =>
      intro M e
      cases M with
      | nil => cases e
      | cons m M =>
        cases M with
        | nil => cases e
        | cons n M =>
          simp only [List.map_cons, List.cons.injEq] at e
          exact ⟨n :: m :: M, .swap m n M, by rw [List.map_cons, List.map_cons, ← e.1, ← e.2.1, ← e.2.2]⟩
    | trans _ _ ih1 ih2 =>
      intro M e
      obtain ⟨M1, q1, e1⟩ := ih2 M e
      obtain ⟨M2, q2, e2⟩ := ih1 M1 e1
      exact ⟨M2, q2.trans q1, e2⟩
  exact go pm L rfl
theorem addV_tail {gv : Bool → Sem Unit} (hgv : ∀ (b : Bool) (s1 : Shared) (Q1 : Unit → Shared → Prop), Q1 () s1 → wpAny (model P w) A (gv b) Q1 E s1)
    {ob : Obj} {es : Array (Int × Value)} {ep : Nat} {tb : SetTable} (hob : st.heap.get? a = some ob) (hx : ob.ExactSet) (hdt : ob.data = .set es ep tb)
    {es1 : Array (Int × Value)} {tb2 : SetTable} {L1 : List LV} (e1 : es1.toList = L1.map (rowV P w)) (g1 : ∀ p ∈ L1, (leafKind P w).is p.1 p.2 = true ∧ p.2.scannable = true) (nd1 : (L1.map (·.1)).Nodup)
    (few : L1.length < scanBound) (ft : tb2.fits es1.size = true) (rs : Ris tb2.place.toList) (ld : w.params.followText "set-order" = true ∨ tb2.led = true) {wasD : Bool} {R : Option Bool → Shared → Prop}
    (q : ∀ h' L', Heap.SameBut a st.heap h' → LfS P w h' a L' → L'.Perm L1 → R (some true) { st with heap := h' }) :
    wpAny (model P w) A (do
        storeSet a es1 tb2
        if (!wasD && tb2.tooFull) = true then do
            gv (relayAll tb2 es1 (SetTable.grown es1.size)).2.2
            storeSet a (relayAll tb2 es1 (SetTable.grown es1.size)).1 (relayAll tb2 es1 (SetTable.grown es1.size)).2.1
            pure (some true)
          else pure (some true)) R E st := by
  have sz1 : es1.size = L1.length := by rw [← Array.length_toList, e1, List.length_map]
  refine wpAny_bind (wpAny_storeSet_of hob hdt ?_ (fits_of_scanBound (by rw [sz1]; exact few)))
  have hob1 := store_at (es' := es1) (t' := tb2) hob hdt
  have sb1 := Heap.SameBut.update st.heap a (Obj.putSet es1 tb2)
  split
  · have pm := relayAll_perm tb2 es1 (SetTable.grown es1.size); have ft3 := relayAll_fits tb2 es1 (SetTable.grown es1.size)
    have rs3 := relayAll_ris tb2 es1 (SetTable.grown es1.size); have ld3 := relayAll_led tb2 es1 (SetTable.grown es1.size)
    generalize relayAll tb2 es1 (SetTable.grown es1.size) = Zr at pm ft3 rs3 ld3 ⊢
    obtain ⟨es2, tb3, gave⟩ := Zr
    dsimp only at pm ft3 rs3 ld3 ⊢
    rw [e1] at pm
    obtain ⟨L2, pL, e2⟩ := rows_perm pm
    have sz2 : es2.size = L1.length := by rw [← Array.length_toList, e2, List.length_map, pL.length_eq]
    refine wpAny_bind (hgv _ _ _ ?_)
    refine wpAny_bind (wpAny_storeSet_of hob1 rfl ?_ (fits_of_scanBound (by rw [sz2]; exact few)))
    have hob2 := store_at (es' := es2) (t' := tb3) hob1 rfl
    refine wpAny_pure (q _ L2 (sb1.trans (Heap.SameBut.update _ a _)) ⟨⟨_, es2, _, tb3, hob2, hx, rfl, e2, ft3, rs3, ld.imp id fun z => by rw [ld3]; exact z⟩, fun p hp => g1 p (pL.mem_iff.mp hp), (pL.map (·.1)).nodup_iff.mpr nd1, by rw [pL.length_eq]; exact few⟩ pL)
  · exact wpAny_pure (q _ L1 sb1 ⟨⟨_, es1, _, tb2, hob1, hx, rfl, e1, ft, rs, ld⟩, g1, nd1, few⟩ (.refl _))
theorem addV {k : Leaf} {v : Value} {Q : Bool → Shared → Prop} (R : LfS P w st.heap a L) (hk : (leafKind P w).is k v = true) (hs : v.scannable = true) (room : L.length + 1 < scanBound)
    (q : ∀ b h' L', Heap.SameBut a st.heap h' → LfS P w h' a L' → L'.Perm (putV L (k, v)) → Q b { st with heap := h' }) :
    wpAny (model P w) A (setAddHashed a v ((leafKind P w).hash k)) Q E st := by
  obtain ⟨ob, es, ep, tb, hob, hx, hdt, ers, ft, rs, ld⟩ := R.ob
  have g := R.good
  have sz : es.size = L.length := by rw [← Array.length_toList, ers, List.length_map]
  have hb : es.size < scanBound := by rw [sz]; exact R.few
  have hel : ElemsOf (leafKind P w) es.toList := by rw [ers]; exact rowsV_good g
  unfold setAddHashed setAddHashedIn
  refine wpAny_holding (wpAny_bind (wpAny_setState_of hob hdt ft ?_))
  dsimp only
  rw [byScan_of hs hb hel]
  simp only [↓reduceIte]
  unfold setAddByScan
  refine wpAny_bind (wpAny_bind (wpAny_rule (wpAny_bind (wpAny_setScan_of hk hob hdt ft hel ?_))))
  cases hfi : List.findIdx? (fun e => (leafKind P w).is k e.2) es.toList with
  | some j =>
    dsimp only
    obtain ⟨hj, pj, _⟩ := List.findIdx?_eq_some_iff_getElem.mp hfi
    have hin : k ∈ L.map (·.1) := (find_row (P := P) (w := w) g k).2 ⟨es.toList[j], by rw [← ers]; exact List.getElem_mem hj, pj⟩
    refine wpAny_pure (wpAny_pure ?_)
    exact q _ st.heap L (Heap.SameBut.refl a st.heap) R (by unfold putV; rw [if_pos hin])
  | none =>
    dsimp only
    have hnk : k ∉ L.map (·.1) := fun z => by
      obtain ⟨e, he, qq⟩ := (find_row (P := P) (w := w) g k).1 z
      have c := List.findIdx?_eq_none_iff.mp hfi e (by rw [ers]; exact he)
      rw [qq] at c
      cases c
    have hgw : ∀ (b : Bool) {s1 : Shared} {Q1 : Unit → Shared → Prop}, Q1 () s1 → wpAny (model P w) A (match b with | true => rule "set.scan.the-table-gave-way" | false => pure ()) Q1 E s1 :=
      fun b s1 Q1 qq => by cases b <;> first | exact wpAny_pure qq | exact wpAny_rule qq
    have pm := layNew_perm tb es ((leafKind P w).hash k) v; have ft1 := layNew_fits tb es ((leafKind P w).hash k) v
    have rs1 := layNew_ris tb es ((leafKind P w).hash k) v rs; have ld1 := layNew_led tb es ((leafKind P w).hash k) v
    generalize layNew tb es ((leafKind P w).hash k) v = Zr at pm ft1 rs1 ld1 ⊢
    obtain ⟨es1, tb1, wasD, gave⟩ := Zr
    dsimp only at pm ft1 rs1 ld1 ⊢
    rw [Array.toList_push, ers] at pm
    have pm2 : es1.toList.Perm ((L ++ [(k, v)]).map (rowV P w)) := by rw [List.map_append]; exact pm
    obtain ⟨L1, pL, e1⟩ := rows_perm pm2
    have g1 : ∀ p ∈ L1, (leafKind P w).is p.1 p.2 = true ∧ p.2.scannable = true := fun p hp => by
      rcases List.mem_append.mp (pL.mem_iff.mp hp) with z | z
      · exact g p z
      · rw [List.mem_singleton.mp z]; exact ⟨hk, hs⟩
    have nd1 : (L1.map (·.1)).Nodup := by
      refine (pL.map (·.1)).nodup_iff.mpr ?_
      rw [List.map_append, List.nodup_append]
      refine ⟨R.nd, by simp, fun x hx1 y hy => ?_⟩
      simp only [List.map_cons, List.map_nil, List.mem_singleton] at hy
      rw [hy]
      exact fun z => hnk (z ▸ hx1)
    have few1 : L1.length < scanBound := by rw [pL.length_eq, List.length_append]; exact room
    have led1 : w.params.followText "set-order" = true ∨ tb1.led = true := ld.imp id fun z => by rw [ld1]; exact z
    have fin : ∀ h' L', Heap.SameBut a st.heap h' → LfS P w h' a L' → L'.Perm L1 → Q true { st with heap := h' } := fun h' L' sb r pr => q _ h' L' sb r (by unfold putV; rw [if_neg hnk]; exact pr.trans pL)
    refine wpAny_bind (hgw _ ?_)
    split
    · refine wpAny_bind ?_
      rw [hashByValue_scannable 8 hs]
      refine wpAny_pure ?_
      refine addV_tail ?_ hob hx hdt e1 g1 nd1 few1 ?_ ?_ ?_ ?_
      · intro b s1 Q1 qq; cases b <;> first | exact wpAny_pure qq | exact wpAny_rule qq
      · first | (split <;> first | exact ft1 | exact SetTable.fits_plain_off ft1) | exact ft1
      · first | (split <;> exact rs1) | exact rs1
      · first | (split <;> exact led1) | exact led1
      · intro h' L' sb r pr; dsimp only; exact wpAny_pure (fin h' L' sb r pr)
    · refine wpAny_bind (wpAny_pure ?_)
      simp only [↓reduceIte]
      refine addV_tail ?_ hob hx hdt e1 g1 nd1 few1 ft1 rs1 led1 ?_
      · intro b s1 Q1 qq; cases b <;> first | exact wpAny_pure qq | exact wpAny_rule qq
      · intro h' L' sb r pr; dsimp only; exact wpAny_pure (fin h' L' sb r pr)
theorem loopV {I : Addr} {fp wr : List Addr} {G : Array GenState → Array GenState → Prop} {n : Nat} {Pv : Nat → Value → Prop} {St : Nat → Shared → Prop} {R : Result → Shared → Prop} (W : WalksS P w A.in1 I fp wr G n Pv St) (a : Addr) (naf : a ∉ fp) (h0 : Heap) (xs : List LV) (hn : n = xs.length)
    (few : xs.length + 1 < scanBound) (hv : ∀ i v, Pv i v → ∃ p, xs[i]? = some p ∧ v = p.2) (hk : ∀ p ∈ xs, (leafKind P w).is p.1 p.2 = true ∧ p.2.scannable = true) (old : ∀ b o, h0.get? b = some o → b ≠ a ∧ b ∉ wr) :
    ∀ (j i : Nat) (st : Shared) (L : List LV), n - i = j → i ≤ n → St i st → Keeps h0 st.heap → LfS P w st.heap a L → L.Perm ((xs.take i).foldl putV []) →
      (∀ (s' : Shared) (L' : List LV), Moved (a :: wr) G st s' → Keeps h0 s'.heap → LfS P w s'.heap a L' → L'.Perm (xs.foldl putV []) → (n = 0 → ∀ o, st.heap.get? a = some o → s'.heap.get? a = some o) → R (.ok (.ret .none)) s') →
      codeAny (model P w) A (.builtin "set.update.loop" ⟨[.ref a, .ref I], []⟩) R st := by
  have naw : a ∉ wr := fun z => naf (W.sub _ z)
  have sub2 : ∀ b ∈ wr, b ∈ a :: wr := fun b z => List.mem_cons_of_mem _ z
  intro j
  induction j with
  | zero =>
    intro i st L hj hi hst kp T pm hR
    obtain rfl : i = n := by omega
    refine codeAny_builtin F.entry_set_update_loop ?_; rw [Around.under_plainId F.plain_set_update_loop _]
    show wpAny _ A.in1 (pyNext (.ref I) >>= _) _ _ st
    refine wpAny_bind (W.done st _ _ hst fun s' hm => ?_)
    show wpAny _ A.in1 (PySem.ret Value.none) _ _ s'
    have tk : xs.take i = xs := List.take_of_length_le (by omega)
    rw [tk] at pm
    exact wpAny_pure (hR s' L (hm.mono sub2) (fun b o q => hm.heap b o (old b o q).2 (kp b o q)) (T.keep fun o e => hm.heap a o naw e) pm fun _ o e => hm.heap a o naw e)
  | succ j ih =>
    intro i st L hj hi hst kp T pm hR
    have lt : i < n := by omega
    refine codeAny_builtin F.entry_set_update_loop ?_; rw [Around.under_plainId F.plain_set_update_loop _]
    show wpAny _ A.in1 (pyNext (.ref I) >>= _) _ _ st
    refine wpAny_bind (W.item i st _ _ lt hst fun v s' hP hst' hm => ?_)
    obtain ⟨p, hp, rfl⟩ := hv i v hP
    have kp' : Keeps h0 s'.heap := fun b o q => hm.heap b o (old b o q).2 (kp b o q)
    have T' : LfS P w s'.heap a L := T.keep fun o e => hm.heap a o naw e
    have kx := hk p (List.mem_of_getElem? hp)
    have lenL : L.length ≤ i := by
      have := foldV_len (xs.take i) []
      rw [pm.length_eq]
      simp only [List.length_nil, List.length_take] at this
      omega
    show wpAny _ A.in1 (holding [p.2] (setAdd a p.2) >>= _) _ _ s'
    refine wpAny_bind (wpAny_holding ?_)
    unfold setAdd
    refine wpAny_holding (wpAny_bind ((leafKind P w).pyHash kx.1 ?_))
    refine addV (st := { s' with toks := s'.toks + 1 }) T' kx.1 kx.2 (by omega) fun bb h' L' sb R' pr => ?_
    have pm' : L'.Perm ((xs.take (i + 1)).foldl putV []) := by
      rw [List.take_add_one, hp, List.foldl_append]
      show L'.Perm (putV ((xs.take i).foldl putV []) p)
      refine pr.trans ?_
      have iff_ : p.1 ∈ L.map (·.1) ↔ p.1 ∈ ((xs.take i).foldl putV []).map (·.1) := (pm.map (·.1)).mem_iff
      by_cases z : p.1 ∈ L.map (·.1)
      · rw [putV_in (p := (p.1, p.2)) z, putV_in (p := p) (iff_.mp z)]; exact pm
      · rw [putV_out (p := (p.1, p.2)) z, putV_out (p := p) fun y => z (iff_.mpr y)]; exact pm.append_right _
    refine wpAny_pure ⟨plainId_quiet F.plain_set_update_loop _, ih (i + 1) _ L' (by omega) lt (W.frame _ s' _ _ hst' (Nat.le_succ _) fun b hb o e => ?_) (fun b o q => (sb.2 b (old b o q).1).trans (kp' b o q)) R' pm' fun s'' L2 mv k2 T2 p2 _ => ?_⟩
    · rw [sb.2 b fun z : b = a => naf (by rw [← z]; exact hb)]; exact e
    · refine hR s'' L2 (Moved.trans W.gtrans ((hm.mono sub2).then_heap (Nat.le_succ _) fun b o hb e => ?_) mv) k2 T2 p2 fun z => absurd z (by omega)
      rw [sb.2 b fun z : b = a => hb (by rw [z]; exact List.mem_cons_self)]; exact e
end
end Z

namespace Z
open PySem PySem.Spec PyProof.Rows L2 LamX
set_option autoImplicit false
section
variable {P : Program} {w : World} {A : Around} {E : Value → Shared → Prop} {st : Shared}
/-- what stands behind set(xs) -/
structure VMade (P : Program) (w : World) (h h' : Heap) (a : Addr) (xs : List LV) : Prop where
  keep : Keeps h h'
  tab : ∃ L, L.Perm (xs.foldl putV []) ∧ LfS P w h' a L
  nil : xs = [] → h'.get? a = some (newS w)
theorem fresh_lfs {h : Heap} {a : Addr} (e : h.get? a = some (newS w)) : LfS P w h a [] := ⟨⟨_, #[], 0, _, e, ⟨rfl, rfl, rfl⟩, rfl, rfl, by rfl, List.Pairwise.nil, by
  show _ ∨ (!w.params.followText "set-order") = true
  cases w.params.followText "set-order"
  · exact .inr rfl
  · exact .inl rfl⟩, fun p hp => by simp at hp, by simp, by decide⟩
set_option maxHeartbeats 3200000 in
theorem setV_call_List {tp : Addr} {its : Array Value} (xs : List LV) {Q : Value → Shared → Prop} (ha : A.handled = none) (ht : st.heap.IsList tp its) (hi : ∀ (i : Nat) (v : Value), its[i]? = some v → ∃ p, xs[i]? = some p ∧ v = p.2) (hz : its.size = xs.length) (few : xs.length + 1 < scanBound) (hk : ∀ p ∈ xs, (leafKind P w).is p.1 p.2 = true ∧ p.2.scannable = true)
    (q : ∀ (h' : Heap) (tk : Nat), VMade P w st.heap h' st.heap.objs.size xs → Q (.ref st.heap.objs.size) { st with heap := h', toks := tk }) :
    wpAny (model P w) A (call (.type "set") [.ref tp]) Q E st := by
  obtain ⟨c, tl, hmro⟩ := F.called_set.mro
  have hmade := F.called_set.made; have hsub := F.called_set.sub
  refine wpAny_call (codeAny_of_tree ?_)
  show wpAny _ _ (callAny (.type "set") _) _ _ _
  refine wpAny_pure ⟨Code.quiet_builtin _ (by decide +kernel), codeAny_builtin F.entry_type_call ?_⟩; rw [Around.under_plain (weight_type_call_type "set" [.ref tp] []) rfl]
  have h1 := F.called_set.notType; have h2 := F.called_set.canCreate; have hct := F.typeCall_set_1 (.ref tp)
  repeat (any_goals (first | assumption | wp_step))
  have big : Keeps st.heap (st.heap.push (newS w)) := fun b o e => Heap.get?_push_of_some _ e
  refine codeAny_mono (code_set_led1 (.ref tp) (E := E) (Q₁ := fun ob s1 => ob = .ref st.heap.objs.size ∧ s1 = { st with heap := st.heap.push (newS w) }) ⟨rfl, rfl⟩) fun r s1 hr => ?_
  cases r with
  | error e => exact hr
  | ok fl =>
    cases fl with
    | ret ob =>
      obtain ⟨rfl, rfl⟩ := hr
      have hS : (st.heap.push (newS w)).get? st.heap.objs.size = some (newS w) := Heap.get?_push_size _ rfl
      have hT : Shared.TypeIs { st with heap := st.heap.push (newS w) } (.ref st.heap.objs.size) "set" := ⟨_, hS, rfl⟩
      have hli := F.called_set.init.lookup; have hbi := F.called_set.init.bind (.ref st.heap.objs.size)
      repeat (any_goals (first | assumption | wp_step))
      refine codeAny_mono (codeAny_call_builtin (R := wants (fun r s2 => r = .none ∧ ∃ h' tk, s2 = { st with heap := h', toks := tk } ∧ VMade P w st.heap h' st.heap.objs.size xs) E) F.called_set.init.plain F.entry_set_init (check_set_init_1 hT ?_)) fun r2 s2 hr2 => ?_
      · obtain ⟨⟨oc, od, odt, osl⟩, hol, hcl, nl, hdl⟩ := ht
        simp only at hcl hdl
        subst hcl hdl
        have hol' := big _ _ hol
        have hsls := F.sub_list_set; have hslf := F.sub_list_frozenset
        have hne : (Value.type "list" == Value.type "dict") = false := by decide
        have hl1 : (st.heap.push (newS w)).IsList tp its := ⟨_, hol', rfl, nl, rfl⟩
        unfold Builtin.«set.__init__» noKeywords Builtin.Frozenset.updateFrom
        generalize hPI : pyIter = PI
        wp_walk
        subst hPI
        refine wpAny_pyIter_list hl1 (wpAny_bind (wpAny_runValue ?_))
        have hlS : tp < st.heap.objs.size := Heap.lt_size hol
        have hh3 : A.in1.in1.in1.handled = none := by simp [ha]
        have hz1 : (st.heap.push (newS w)).objs.size = st.heap.objs.size + 1 := Heap.size_push ..
        have hneI : tp ≠ (st.heap.push (newS w)).objs.size := by rw [hz1]; exact Nat.ne_of_lt (Nat.lt_succ_of_lt hlS)
        have naf : st.heap.objs.size ∉ [(st.heap.push (newS w)).objs.size, tp] := by
          rw [hz1]
          simp only [List.mem_cons, List.not_mem_nil, or_false, not_or]
          exact ⟨Nat.ne_of_lt (Nat.lt_succ_self _), Nat.ne_of_gt hlS⟩
        have old : ∀ b o, st.heap.get? b = some o → b ≠ st.heap.objs.size ∧ b ∉ [(st.heap.push (newS w)).objs.size] := fun b o e => by
          have lt := Heap.lt_size e
          rw [hz1]
          simp only [List.mem_cons, List.not_mem_nil, or_false]
          exact ⟨Nat.ne_of_lt lt, Nat.ne_of_lt (Nat.lt_succ_of_lt lt)⟩
        refine loopV ((Walks.list hh3 _ tp hneI its).toS) st.heap.objs.size naf st.heap xs hz few hi hk old (its.size - 0) 0 _ [] (by omega) (Nat.zero_le _) ⟨⟨_, Heap.get?_push_size _ rfl, rfl, rfl⟩, hl1.push _⟩ (fun b o e => Heap.get?_push_of_some _ (big b o e)) (fresh_lfs (Heap.get?_push_of_some _ hS)) (by simp) ?hR
        case hR =>
          intro s' L hm kp T pm nl0
          obtain ⟨h', g2, d', tk', os'⟩ := s'
          have eg : g2 = st.gens := hm.gens
          have ed : d' = st.drawn := hm.drawn
          have eo : os' = st.os := hm.os
          subst eg ed eo
          show wpAny _ _ _ _ _ _
          refine wpAny_pure ?_
          show wpAny _ _ (PySem.ret Value.none) _ _ _
          exact wpAny_pure ⟨rfl, h', tk', rfl, kp, ⟨L, pm, T⟩, fun e => nl0 (by rw [hz, e]; rfl) _ (Heap.get?_push_of_some _ hS)⟩
      · cases r2 with
        | error e => exact hr2
        | ok fl2 =>
          cases fl2 with
          | ret r =>
            obtain ⟨rfl, h', tk, rfl, sm⟩ := hr2
            repeat (any_goals (first | assumption | wp_step))
            exact q _ _ sm
          | _ => exact hr2.elim
    | _ => exact hr.elim
set_option maxHeartbeats 3200000 in
theorem setV_call_Tuple {tp : Addr} {its : Array Value} (xs : List LV) {Q : Value → Shared → Prop} (ha : A.handled = none) (ht : st.heap.IsTuple tp its) (hi : ∀ (i : Nat) (v : Value), its[i]? = some v → ∃ p, xs[i]? = some p ∧ v = p.2) (hz : its.size = xs.length) (few : xs.length + 1 < scanBound) (hk : ∀ p ∈ xs, (leafKind P w).is p.1 p.2 = true ∧ p.2.scannable = true)
    (q : ∀ (h' : Heap) (tk : Nat), VMade P w st.heap h' st.heap.objs.size xs → Q (.ref st.heap.objs.size) { st with heap := h', toks := tk }) :
    wpAny (model P w) A (call (.type "set") [.ref tp]) Q E st := by
  obtain ⟨c, tl, hmro⟩ := F.called_set.mro
  have hmade := F.called_set.made; have hsub := F.called_set.sub
  refine wpAny_call (codeAny_of_tree ?_)
  show wpAny _ _ (callAny (.type "set") _) _ _ _
  refine wpAny_pure ⟨Code.quiet_builtin _ (by decide +kernel), codeAny_builtin F.entry_type_call ?_⟩; rw [Around.under_plain (weight_type_call_type "set" [.ref tp] []) rfl]
  have h1 := F.called_set.notType; have h2 := F.called_set.canCreate; have hct := F.typeCall_set_1 (.ref tp)
  repeat (any_goals (first | assumption | wp_step))
  have big : Keeps st.heap (st.heap.push (newS w)) := fun b o e => Heap.get?_push_of_some _ e
  refine codeAny_mono (code_set_led1 (.ref tp) (E := E) (Q₁ := fun ob s1 => ob = .ref st.heap.objs.size ∧ s1 = { st with heap := st.heap.push (newS w) }) ⟨rfl, rfl⟩) fun r s1 hr => ?_
  cases r with
  | error e => exact hr
  | ok fl =>
    cases fl with
    | ret ob =>
      obtain ⟨rfl, rfl⟩ := hr
      have hS : (st.heap.push (newS w)).get? st.heap.objs.size = some (newS w) := Heap.get?_push_size _ rfl
      have hT : Shared.TypeIs { st with heap := st.heap.push (newS w) } (.ref st.heap.objs.size) "set" := ⟨_, hS, rfl⟩
      have hli := F.called_set.init.lookup; have hbi := F.called_set.init.bind (.ref st.heap.objs.size)
      repeat (any_goals (first | assumption | wp_step))
      refine codeAny_mono (codeAny_call_builtin (R := wants (fun r s2 => r = .none ∧ ∃ h' tk, s2 = { st with heap := h', toks := tk } ∧ VMade P w st.heap h' st.heap.objs.size xs) E) F.called_set.init.plain F.entry_set_init (check_set_init_1 hT ?_)) fun r2 s2 hr2 => ?_
      · obtain ⟨⟨oc, od, odt, osl⟩, hol, hcl, nl, hdl⟩ := ht
        simp only at hcl hdl
        subst hcl hdl
        have hol' := big _ _ hol
        have hsls := F.sub_tuple_set; have hslf := F.sub_tuple_frozenset
        have hne : (Value.type "tuple" == Value.type "dict") = false := by decide
        have hl1 : (st.heap.push (newS w)).IsTuple tp its := ⟨_, hol', rfl, nl, rfl⟩
        unfold Builtin.«set.__init__» noKeywords Builtin.Frozenset.updateFrom
        generalize hPI : pyIter = PI
        wp_walk
        subst hPI
        refine wpAny_pyIter_tuple hl1 (wpAny_bind (wpAny_runValue ?_))
        have hlS : tp < st.heap.objs.size := Heap.lt_size hol
        have hh3 : A.in1.in1.in1.handled = none := by simp [ha]
        have hz1 : (st.heap.push (newS w)).objs.size = st.heap.objs.size + 1 := Heap.size_push ..
        have hneI : tp ≠ (st.heap.push (newS w)).objs.size := by rw [hz1]; exact Nat.ne_of_lt (Nat.lt_succ_of_lt hlS)
        have naf : st.heap.objs.size ∉ [(st.heap.push (newS w)).objs.size, tp] := by
          rw [hz1]
          simp only [List.mem_cons, List.not_mem_nil, or_false, not_or]
          exact ⟨Nat.ne_of_lt (Nat.lt_succ_self _), Nat.ne_of_gt hlS⟩
        have old : ∀ b o, st.heap.get? b = some o → b ≠ st.heap.objs.size ∧ b ∉ [(st.heap.push (newS w)).objs.size] := fun b o e => by
          have lt := Heap.lt_size e
          rw [hz1]
          simp only [List.mem_cons, List.not_mem_nil, or_false]
          exact ⟨Nat.ne_of_lt lt, Nat.ne_of_lt (Nat.lt_succ_of_lt lt)⟩
        refine loopV ((Walks.tuple hh3 _ tp hneI its).toS) st.heap.objs.size naf st.heap xs hz few hi hk old (its.size - 0) 0 _ [] (by omega) (Nat.zero_le _) ⟨⟨_, Heap.get?_push_size _ rfl, rfl, rfl⟩, hl1.push _⟩ (fun b o e => Heap.get?_push_of_some _ (big b o e)) (fresh_lfs (Heap.get?_push_of_some _ hS)) (by simp) ?hR
        case hR =>
          intro s' L hm kp T pm nl0
          obtain ⟨h', g2, d', tk', os'⟩ := s'
          have eg : g2 = st.gens := hm.gens
          have ed : d' = st.drawn := hm.drawn
          have eo : os' = st.os := hm.os
          subst eg ed eo
          show wpAny _ _ _ _ _ _
          refine wpAny_pure ?_
          show wpAny _ _ (PySem.ret Value.none) _ _ _
          exact wpAny_pure ⟨rfl, h', tk', rfl, kp, ⟨L, pm, T⟩, fun e => nl0 (by rw [hz, e]; rfl) _ (Heap.get?_push_of_some _ hS)⟩
      · cases r2 with
        | error e => exact hr2
        | ok fl2 =>
          cases fl2 with
          | ret r =>
            obtain ⟨rfl, h', tk, rfl, sm⟩ := hr2
            repeat (any_goals (first | assumption | wp_step))
            exact q _ _ sm
          | _ => exact hr2.elim
    | _ => exact hr.elim
end
end Z

namespace Z
open PySem PySem.Spec PyProof.Rows L2 LamX
set_option autoImplicit false
/-! ### sorted(set(xs)), the items texts or whole numbers -/
def lE : Leaf → Leaf → Bool
  | .none, .none => true
  | .num i, .num j => i == j
  | .text x, .text y => sEq x y
  | _, _ => false
theorem lE_iff (a b : Leaf) : lE a b = true ↔ a = b := by
  cases a <;> cases b <;> simp [lE, sEq_eq]
def hasL (acc : List D) (l : Leaf) : Bool := acc.any fun e => match lf e with
  | some m => lE m l
  | none => false
def putF (acc : List D) (d : D) : List D := match lf d with
  | some l => if hasL acc l then acc else acc ++ [d]
  | none => acc
def dedD (ds : List D) : List D := ds.foldl putF []
theorem lfs_cons {d : D} {ds : List D} {ls : List Leaf} (h : lfs (d :: ds) = some ls) : ∃ l m, lf d = some l ∧ lfs ds = some m ∧ ls = l :: m := by
  unfold lfs at h
  split at h
  · cases h; exact ⟨_, _, by assumption, by assumption, rfl⟩
  · cases h
theorem lfs_app : ∀ {ds es : List D} {ls ms : List Leaf}, lfs ds = some ls → lfs es = some ms → lfs (ds ++ es) = some (ls ++ ms)
  | [], es, ls, ms, h, h2 => by cases h; exact h2
  | d :: ds, es, ls, ms, h, h2 => by
    obtain ⟨l, m, e1, e2, rfl⟩ := lfs_cons h
    have ih := lfs_app e2 h2
    show lfs (d :: (ds ++ es)) = _
    unfold lfs
    rw [e1, ih]
    rfl
theorem lfs_len : ∀ {ds : List D} {ls : List Leaf}, lfs ds = some ls → ls.length = ds.length
  | [], ls, h => by cases h; rfl
  | d :: ds, ls, h => by
    obtain ⟨l, m, e1, e2, rfl⟩ := lfs_cons h
    simp [lfs_len e2]
theorem hasL_iff : ∀ {ds : List D} {ls : List Leaf} (l : Leaf), lfs ds = some ls → (hasL ds l = true ↔ l ∈ ls)
  | [], ls, l, h => by cases h; simp [hasL]
  | d :: ds, ls, l, h => by
    obtain ⟨a, m, e1, e2, rfl⟩ := lfs_cons h
    have ih := hasL_iff l e2
    unfold hasL at ih ⊢
    rw [List.any_cons, Bool.or_eq_true, ih, e1]
    simp only [lE_iff, List.mem_cons]
    constructor
    · rintro (h | h)
      · exact .inl h.symm
      · exact .inr h
    · rintro (h | h)
      · exact .inl h.symm
      · exact .inr h
theorem leaf_is {P : Program} {w : World} {T : Wd} {ι : List Addr} {bar : Addr → Prop} {H : Hp} {d : D} {v : V} {u : Value} {l : Leaf} (h : lf d = some l) (r : RelD T ι bar H d v) (ru : L2.RelV v u) : (leafKind P w).is l u = true ∧ u.scannable = true := by
  cases d with
  | non => cases h; have r : v = .non := by simpa only [RelD] using r
           subst r; cases ru; exact ⟨rfl, rfl⟩
  | bl b =>
    cases h
    have r : v = .bl b := by simpa only [RelD] using r
    subst r; cases ru; cases b <;> exact ⟨rfl, rfl⟩
  | int i =>
    cases h
    have r : v = .int i := by simpa only [RelD] using r
    subst r
    obtain ⟨t, rfl⟩ := ru
    exact ⟨decide_eq_true rfl, rfl⟩
  | str x =>
    cases h
    have r : v = .str x := by simpa only [RelD] using r
    subst r
    obtain ⟨t, rfl⟩ := ru
    exact ⟨by show (x == x) = true; simp, rfl⟩
  | _ => cases h
theorem leafs_is {P : Program} {w : World} {T : Wd} {ι : List Addr} {bar : Addr → Prop} {H : Hp} : ∀ {ds : List D} {vs : List V} {us : List Value} {ls : List Leaf}, lfs ds = some ls → RelDs T ι bar H ds vs → Vals vs us → ∀ p ∈ ls.zip us, (leafKind P w).is p.1 p.2 = true ∧ p.2.scannable = true
  | [], _, _, _, h, _, _, p, hp => by cases h; simp at hp
  | d :: ds, vs, us, ls, h, r, rv, p, hp => by
    obtain ⟨a, m, e1, e2, rfl⟩ := lfs_cons h
    obtain ⟨v, vr, rfl, r1, r2⟩ := r.uncons
    cases rv with
    | cons q1 q2 =>
      rw [List.zip_cons_cons] at hp
      rcases List.mem_cons.mp hp with z | z
      · rw [z]; exact leaf_is e1 r1 q1
      · exact leafs_is e2 r2 q2 p z
theorem Vals.app {vs ws : List V} {us zs : List Value} (r : Vals vs us) (q : Vals ws zs) : Vals (vs ++ ws) (us ++ zs) := by
  induction r with
  | nil => exact q
  | cons a _ ih => exact .cons a ih
theorem fst_zipL {α β : Type} : ∀ {xs : List α} {ys : List β}, xs.length = ys.length → (xs.zip ys).map (·.1) = xs
  | [], _, _ => by simp
  | x :: xs, [], h => by simp at h
  | x :: xs, y :: ys, h => by simp [fst_zipL (xs := xs) (ys := ys) (by simpa using h)]
theorem snd_zipL {α β : Type} : ∀ {xs : List α} {ys : List β}, xs.length = ys.length → (xs.zip ys).map (·.2) = ys
  | [], [], _ => by simp
  | [], y :: ys, h => by simp at h
  | x :: xs, [], h => by simp at h
  | x :: xs, y :: ys, h => by simp [snd_zipL (xs := xs) (ys := ys) (by simpa using h)]
theorem fold_putV {T : Wd} {ι : List Addr} {bar : Addr → Prop} {H : Hp} : ∀ {ds acc : List D} {vs va : List V} {us ua : List Value} {ls la : List Leaf}, lfs ds = some ls → RelDs T ι bar H ds vs → Vals vs us → lfs acc = some la → RelDs T ι bar H acc va → Vals va ua →
    ∃ lz vz uz, lfs (ds.foldl putF acc) = some lz ∧ RelDs T ι bar H (ds.foldl putF acc) vz ∧ Vals vz uz ∧ lz.zip uz = (ls.zip us).foldl putV (la.zip ua)
  | [], acc, vs, va, us, ua, ls, la, h, r, rv, ha, ra, rva => by
    cases h; cases r; cases rv
    exact ⟨la, va, ua, ha, ra, rva, rfl⟩
  | d :: ds, acc, vs, va, us, ua, ls, la, h, r, rv, ha, ra, rva => by
    obtain ⟨l, m, e1, e2, rfl⟩ := lfs_cons h
    obtain ⟨v, vr, rfl, r1, r2⟩ := r.uncons
    cases rv with
    | cons q1 q2 =>
      rename_i u ur
      rw [List.zip_cons_cons, List.foldl_cons, List.foldl_cons]
      have hla : la.length = ua.length := by rw [lfs_len ha, ← rva.length, ra.length]
      have fz : (la.zip ua).map (·.1) = la := fst_zipL hla
      by_cases hh : hasL acc l = true
      · have e3 : putF acc d = acc := by unfold putF; rw [e1]; simp [hh]
        have e4 : putV (la.zip ua) (l, u) = la.zip ua := putV_in (by rw [fz]; exact (hasL_iff l ha).mp hh)
        rw [e3, e4]
        exact fold_putV e2 r2 q2 ha ra rva
      · have e3 : putF acc d = acc ++ [d] := by unfold putF; rw [e1]; simp [hh]
        have e4 : putV (la.zip ua) (l, u) = (la ++ [l]).zip (ua ++ [u]) := by
          rw [putV_out (by rw [fz]; exact fun z => hh ((hasL_iff l ha).mpr z)), List.zip_append hla]
          rfl
        rw [e3, e4]
        exact fold_putV e2 r2 q2 (lfs_app ha (by unfold lfs; rw [e1]; rfl)) (ra.append (.cons r1 .nil)) (Vals.app rva (.cons q1 .nil))
theorem putV_nd : ∀ (ys acc : List LV), (acc.map (·.1)).Nodup → ((ys.foldl putV acc).map (·.1)).Nodup
  | [], acc, h => h
  | y :: ys, acc, h => by
    rw [List.foldl_cons]
    refine putV_nd ys _ ?_
    by_cases z : y.1 ∈ acc.map (·.1)
    · rw [putV_in z]; exact h
    · rw [putV_out z, List.map_append, List.nodup_append]
      refine ⟨h, by simp, fun x hx w hw => ?_⟩
      simp only [List.map_cons, List.map_nil, List.mem_singleton] at hw
      rw [hw]
      exact fun q => z (q ▸ hx)
def isTx : D → Bool
  | .str _ => true
  | _ => false
def isNm : D → Bool
  | .int _ => true
  | _ => false
def seqD : D → Option (List D)
  | .lst ds => some ds
  | .tup ds => some ds
  | _ => none
def flatS (ds : List D) : Bool := ds.all isTx || ds.all isNm
def sortSetF (d : D) : Option D := match seqD d with
  | some ds => if flatS ds && decide (ds.length < 4000) && sortOk (dedD ds) then some (.lst (sortD (dedD ds))) else none
  | none => none
theorem flat_lfs : ∀ {ds : List D}, flatS ds = true → ∃ ls, lfs ds = some ls := by
  have go : ∀ (ds : List D), (∀ d ∈ ds, ∃ l, lf d = some l) → ∃ ls, lfs ds = some ls := by
    intro ds
    induction ds with
    | nil => intro _; exact ⟨[], rfl⟩
    | cons d ds ih =>
      intro h
      obtain ⟨l, e⟩ := h d List.mem_cons_self
      obtain ⟨ls, e2⟩ := ih fun x hx => h x (List.mem_cons_of_mem _ hx)
      exact ⟨l :: ls, by unfold lfs; rw [e, e2]⟩
  intro ds h
  refine go ds fun d hd => ?_
  unfold flatS at h
  rcases Bool.or_eq_true_iff.mp h with h | h
  · have := List.all_eq_true.mp h d hd
    cases d <;> first | exact ⟨_, rfl⟩ | cases this
  · have := List.all_eq_true.mp h d hd
    cases d <;> first | exact ⟨_, rfl⟩ | cases this
theorem ded_sub : ∀ {ds acc : List D} {d : D}, d ∈ ds.foldl putF acc → d ∈ acc ∨ d ∈ ds
  | [], acc, d, h => .inl h
  | e :: ds, acc, d, h => by
    rw [List.foldl_cons] at h
    rcases ded_sub h with h | h
    · unfold putF at h
      split at h
      · split at h
        · exact .inl h
        · rcases List.mem_append.mp h with h | h
          · exact .inl h
          · exact .inr (by rw [List.mem_singleton.mp h]; exact List.mem_cons_self)
      · exact .inl h
    · exact .inr (List.mem_cons_of_mem _ h)
theorem flat_ded {ds : List D} (h : flatS ds = true) : flatS (dedD ds) = true := by
  unfold flatS at h ⊢
  rcases Bool.or_eq_true_iff.mp h with h | h
  · refine Bool.or_eq_true_iff.mpr (.inl (List.all_eq_true.mpr fun d hd => List.all_eq_true.mp h d ?_))
    rcases ded_sub hd with z | z
    · cases z
    · exact z
  · refine Bool.or_eq_true_iff.mpr (.inr (List.all_eq_true.mpr fun d hd => List.all_eq_true.mp h d ?_))
    rcases ded_sub hd with z | z
    · cases z
    · exact z
theorem le_flat {ds : List D} (h : flatS ds = true) {a b : D} (ha : a ∈ ds) (hb : b ∈ ds) (h1 : PySem.W.dataLe false py a b = true) (h2 : PySem.W.dataLe false py b a = true) : a = b := by
  have tk : PySem.W.keyToks (py a) = PySem.W.keyToks (py b) := by
    have e1 : PySem.W.dataLt (py b) (py a) = false := by
      rw [PySem.W.dataLe_eq] at h1
      simpa using h1
    have e2 : PySem.W.dataLt (py a) (py b) = false := by
      rw [PySem.W.dataLe_eq] at h2
      simpa using h2
    exact (PyProof.Rows.listOrd PyProof.Rows.itemOrd).total _ _ e2 e1
  unfold flatS at h
  rcases Bool.or_eq_true_iff.mp h with h | h
  · have x1 := List.all_eq_true.mp h a ha
    have x2 := List.all_eq_true.mp h b hb
    cases a <;> first | (simp [isTx, isNm] at x1; done) | skip
    cases b <;> first | (simp [isTx, isNm] at x2; done) | skip
    simp only [py, PySem.W.keyToks, List.cons.injEq, Sum.inr.injEq, and_true] at tk
    rw [PySem.W.str_of_cps tk]
  · have x1 := List.all_eq_true.mp h a ha
    have x2 := List.all_eq_true.mp h b hb
    cases a <;> first | (simp [isTx, isNm] at x1; done) | skip
    cases b <;> first | (simp [isTx, isNm] at x2; done) | skip
    simp only [py, PySem.W.keyToks, List.cons.injEq, Sum.inl.injEq, and_true] at tk
    rw [tk]
theorem sort_flat {ds es : List D} (h : flatS ds = true) (p : es.Perm ds) : es.mergeSort (PySem.W.dataLe false py) = ds.mergeSort (PySem.W.dataLe false py) := by
  have tt := PySem.W.sortLe_total (PyProof.Rows.listOrd PyProof.Rows.itemOrd) false fun b => PySem.W.keyToks (py b)
  refine List.Perm.eq_of_pairwise (le := fun a b => PySem.W.dataLe false py a b = true) (fun a b ha hb h1 h2 => ?_) (PySem.W.sort_pairwise tt es) (PySem.W.sort_pairwise tt ds) (((List.mergeSort_perm _ _).trans p).trans (List.mergeSort_perm _ _).symm)
  exact le_flat h (p.mem_iff.mp ((List.mergeSort_perm _ _).mem_iff.mp ha)) ((List.mergeSort_perm _ _).mem_iff.mp hb) h1 h2
theorem each_perm {α β : Type} {R : α → β → Prop} {us vs : List α} (p : vs.Perm us) : ∀ {ds : List β}, PySem.W.EachIs R us ds → ∃ es : List β, es.Perm ds ∧ PySem.W.EachIs R vs es := by
  induction p with
  | nil => intro ds h; exact ⟨ds, .refl _, h⟩
  | cons x _ ih =>
    intro ds h
    cases h with
    | cons a b => obtain ⟨es, q, r⟩ := ih b; exact ⟨_ :: es, q.cons _, .cons a r⟩
  | swap x y l =>
    intro ds h
    cases h with
    | cons a b => cases b with
      | cons c d => exact ⟨_, .swap _ _ _, .cons c (.cons a d)⟩
  | trans _ _ ih1 ih2 =>
    intro ds h
    obtain ⟨e1, q1, r1⟩ := ih2 h
    obtain ⟨e2, q2, r2⟩ := ih1 r1
    exact ⟨e2, q2.trans q1, r2⟩
theorem flat_reads {T : Wd} {ι : List Addr} {bar : Addr → Prop} {H : Hp} {h : Heap} : ∀ {us : List Value} {ds : List D}, (∀ d ∈ ds, isTx d = true ∨ isNm d = true) → PySem.W.EachIs (VR T ι bar H) us ds → PySem.W.EachIs (fun v b => ∃ as, Reads h v (py b) as) us ds
  | [], [], _, _ => .nil
  | _ :: _, [], _, r => nomatch r
  | [], _ :: _, _, r => nomatch r
  | u :: us, d :: ds, g, r => by
    cases r with
    | cons a b =>
      refine .cons ?_ (flat_reads (fun x hx => g x (List.mem_cons_of_mem _ hx)) b)
      obtain ⟨v, rv, rd⟩ := a
      rcases g d List.mem_cons_self with z | z
      · cases d <;> first | (simp [isTx, isNm] at z; done) | skip
        rename_i x
        have e : v = .str x := by simpa only [RelD] using rd
        subst e
        obtain ⟨t, rfl⟩ := rv
        exact ⟨[], .str _ t⟩
      · cases d <;> first | (simp [isTx, isNm] at z; done) | skip
        rename_i x
        have e : v = .int x := by simpa only [RelD] using rd
        subst e
        obtain ⟨t, rfl⟩ := rv
        exact ⟨[], .int _ t⟩
end Z

namespace Z
open PySem PySem.Spec PyProof.Rows L2 LamX
set_option autoImplicit false
def rSetX (T : Wd) : List V → Hp → VK → Prop := fun xs H Q => ∃ (x : V) (ι : List Addr) (bar : Addr → Prop) (d : D) (ds : List D), xs = [x] ∧ (∀ a, bar a → H a ≠ none) ∧ (∀ a ∈ ι, bar a) ∧ RelW T ι bar H d x ∧ seqD d = some ds ∧ flatS ds = true ∧ ds.length < 4000 ∧
  ∀ (p : Addr) (ls : List Leaf) (us : List V), H p = none → lfs (dedD ds) = some ls → ls.Nodup → RelDs T ι bar H (dedD ds) us → Q (.ref p) (upd H p (.ext (SetF T.P T.w p ls us)))
def rSortX (T : Wd) : List V → Hp → VK → Prop := fun xs H Q => ∃ (p : Addr) (ι : List Addr) (bar : Addr → Prop) (ds : List D) (ls : List Leaf) (us : List V), xs = [.ref p] ∧ H p = some (.ext (SetF T.P T.w p ls us)) ∧ lfs ds = some ls ∧ flatS ds = true ∧ sortOk ds = true ∧ RelDs T ι bar H ds us ∧
  ∀ (p2 : Addr) (vs : List V), H p2 = none → RelDs T ι bar H (sortD ds) vs → Q (.ref p2) (upd H p2 (.lst vs))
section
variable {T : Wd} {W : WX} {X : Cx}
theorem setF_new {P : Program} {w : World} {H : Hp} {h : Heap} {a : Addr} {ls : List Leaf} {us : List V} (r : SetF P w a ls us h) : ObjOk P w H h a (.ext (SetF P w a ls us)) := by
  obtain ⟨L, zs, vz, pm, R⟩ := r
  refine ⟨⟨L, zs, vz, pm, R⟩, let ⟨q, _, _, _, e, _⟩ := R.ob; ⟨q, e⟩, fun h1 h2 z kk => ?_⟩
  obtain ⟨L2, z2, y1, y2, y3⟩ := z
  exact ⟨L2, z2, y1, y2, y3.keep kk⟩
theorem cr_setX (ok : Ok T X) (hc : X.calm = true) : CallR X (.type "set") (rSetX T) := by
  intro pins s σ H xs us Q I r ⟨x, ι, bar, d, ds, e1, hb, hi, rd, hs, hf, hl, q⟩
  subst e1
  obtain ⟨u, rfl, rx⟩ := vals1 r
  obtain ⟨ls, el⟩ := flat_lfs hf
  have fin : ∀ (its : List Value) (vs : List V), RelDs T ι bar H ds vs → Vals vs its → ∀ (h' : Heap) (tk : Nat), VMade X.prog X.w s.heap h' s.heap.objs.size (ls.zip its) → EP X pins σ Q (.ref s.heap.objs.size) { s with heap := h', toks := tk } := by
    intro its vs rs rv h' tk vm
    obtain ⟨L, pm, R⟩ := vm.tab
    have nH : H s.heap.objs.size = none := I.hok.fresh (Nat.le_refl _)
    obtain ⟨lz, vz, uz, f1, f2, f3, f4⟩ := fold_putV (acc := []) el rs rv rfl .nil .nil
    have sf : SetF X.prog X.w s.heap.objs.size lz vz h' := ⟨L, uz, f3, by rw [f4]; exact pm, R⟩
    have len : lz.length = uz.length := by rw [lfs_len f1, ← f3.length, f2.length]
    have nd : lz.Nodup := by
      have := putV_nd (ls.zip its) [] (by simp)
      have e : (([] : List Leaf).zip ([] : List Value)) = [] := rfl
      rw [e] at f4
      rw [← f4, fst_zipL len] at this
      exact this
    have I2 := I.laid (t' := tk) vm.keep (Nat.le_refl _) (setF_new (H := upd H s.heap.objs.size (.ext (SetF X.prog X.w s.heap.objs.size lz vz))) sf)
    refine ⟨.ref _, _, I2, rfl, ?_⟩
    have := q s.heap.objs.size lz vz nH f1 nd f2
    rw [← ok.P, ← ok.w] at this
    exact this
  cases d with
  | lst ds' =>
    cases hs
    obtain ⟨a, vs, rfl, hr, rs⟩ := rd.lst
    cases rx
    obtain ⟨its, rv, ⟨ob, n, ho, hcl, hdn, hd⟩, _⟩ := I.list (.inl hr)
    have li : its.length = ds.length := by rw [← rv.length, rs.length]
    refine setV_call_List (its := its.toArray) (ls.zip its) (I.ok.hd hc) ⟨ob, ho, hcl, n, hd⟩ (fun i v hv => ?_) (by rw [List.size_toArray, List.length_zip, lfs_len el, li, Nat.min_self]) (by rw [List.length_zip, lfs_len el, li, Nat.min_self]; unfold scanBound; omega) (leafs_is el rs rv) fun h' tk vm => fin its vs rs rv h' tk vm
    have hv' : its[i]? = some v := by simpa using hv
    have hi2 := (List.getElem?_eq_some_iff.mp hv').1
    have hi3 : i < ls.length := by rw [lfs_len el, ← li]; exact hi2
    exact ⟨(ls[i], v), by rw [List.getElem?_zip_eq_some]; exact ⟨List.getElem?_eq_getElem hi3, hv'⟩, rfl⟩
  | tup ds' =>
    cases hs
    obtain ⟨a, vs, rfl, h1, rs⟩ := rd.tup
    rw [← ok.K] at h1
    cases rx
    obtain ⟨its, rv, tp, _⟩ := I.tuple h1
    have li : its.length = ds.length := by rw [← rv.length, rs.length]
    refine setV_call_Tuple (its := its.toArray) (ls.zip its) (I.ok.hd hc) tp (fun i v hv => ?_) (by rw [List.size_toArray, List.length_zip, lfs_len el, li, Nat.min_self]) (by rw [List.length_zip, lfs_len el, li, Nat.min_self]; unfold scanBound; omega) (leafs_is el rs rv) fun h' tk vm => fin its vs rs rv h' tk vm
    have hv' : its[i]? = some v := by simpa using hv
    have hi2 := (List.getElem?_eq_some_iff.mp hv').1
    have hi3 : i < ls.length := by rw [lfs_len el, ← li]; exact hi2
    exact ⟨(ls[i], v), by rw [List.getElem?_zip_eq_some]; exact ⟨List.getElem?_eq_getElem hi3, hv'⟩, rfl⟩
  | _ => cases hs
theorem cr_sortX (ok : Ok T X) (rm : Rm X) (hc : X.calm = true) : CallR X (.builtin "sorted") (rSortX T) := by
  intro pins s σ H xs us Q I r ⟨p, ι, bar, ds, ls, vs0, e1, hp, el, hf, hso, rs, q⟩
  subst e1
  rw [Vals.ref1 r]
  obtain ⟨L, zs, vz, pm, R⟩ := ext_at I hp
  obtain ⟨ob, es, ep, tb, hob, hx, hdt, ers, ft, ris, ld⟩ := R.ob
  have len : ls.length = zs.length := by rw [lfs_len el, ← vz.length, rs.length]
  have szs : es.size < scanBound := by rw [← Array.length_toList, ers, List.length_map]; exact R.few
  obtain ⟨p1, p2, p3, p4, p5⟩ := sort_prem hso
  refine Calls.call_function_entry kind_sorted plain_sorted entry_sorted (args_sorted1 _) ?_
  unfold Builtin.«sorted»
  refine wpAny_bind (m := checkCount "sorted" 1 1 _) (wpAny_pure ?_)
  rw [← ok.w] at ld
  refine wpAny_bind (collect_set (A := X.A.in1) (I.ok.hd hc) ⟨ob, hob, hx.1, hdt⟩ ft szs ris ld fun s1 vs k1 hz g1 o1 pm2 => ?_)
  have pv : vs.Perm zs := by
    rw [ers, List.map_map] at pm2
    refine pm2.trans ?_
    have := pm.map (·.2)
    rw [snd_zipL len] at this
    exact this
  obtain ⟨ds2, pd, ea⟩ := each_perm pv (each_of rs vz)
  have al : ∀ d ∈ ds2, isTx d = true ∨ isNm d = true := fun d hd => by
    have := pd.mem_iff.mp hd
    unfold flatS at hf
    rcases Bool.or_eq_true_iff.mp hf with h | h
    · exact .inl (List.all_eq_true.mp h d this)
    · exact .inr (List.all_eq_true.mp h d this)
  have lv : vs.length = ds.length := by rw [pv.length_eq, ← vz.length, rs.length]
  have lv2 : vs.length ≤ sizeLine := by rw [lv]; exact p3
  refine wpAny_bind (wpAny_newList ?_ lv2)
  have hoL : (s1.heap.push (seqObj "list" vs.toArray 0)).get? s1.heap.objs.size = some (seqObj "list" vs.toArray 0) := Heap.get?_push_size _ rfl
  have hal : PySem.W.AllAlike (ds2.map py) := fun a ha b hb => p1 a ((pd.map py).mem_iff.mp ha) b ((pd.map py).mem_iff.mp hb)
  have hk : PySem.W.Sortable (ds2.map py) := by
    rcases p2 with h | h
    · exact .inl fun a ha => h a ((pd.map py).mem_iff.mp ha)
    · exact .inr fun a ha => h a ((pd.map py).mem_iff.mp ha)
  have er := fun h : Heap => flat_reads (h := h) al ea
  have hbd : ∀ d, d ∈ ds2.map py → X.A.in1.in1.units + d.depth < cLine := fun d hd => by
    obtain ⟨b, hb, rfl⟩ := List.mem_map.mp hd
    have := depth_mem (pd.mem_iff.mp hb)
    have := rm.hu
    show X.A.units + 1 + 1 + _ < _
    omega
  have S : PySem.W.SortsAt X.prog X.w X.A.in1.in1 { s1 with heap := PySem.W.sortingHeap (s1.heap.push (seqObj "list" vs.toArray 0)) s1.heap.objs.size vs } _ vs := PySem.W.SortsAt.data (PySem.W.each_map (R := fun v d => ∃ as, Reads (PySem.W.sortingHeap (s1.heap.push (seqObj "list" vs.toArray 0)) s1.heap.objs.size vs) v d as) py (er _)) hal hk hbd
  refine wpAny_bind (wpAny_holding (PyProof.Rows.wpAny_call_entry_kw slot_list_sort ⟨_, hoL, rfl⟩ entry_list_sort ?body (args_list_sort _)))
  case body =>
    refine wpAny_mono (PySem.W.list_sort_vals (s := { s1 with heap := s1.heap.push (seqObj "list" vs.toArray 0) }) (P := fun f s' => f = .done (.ret .none) ∧ EP X pins σ Q (.ref s1.heap.objs.size) s') hoL S lv2 ⟨rfl, ?_⟩) (fun f s' hfn => ?_) fun _ _ e => e
    · have ho2 := PySem.W.sortVals_data (h' := PySem.W.sortingHeap (s1.heap.push (seqObj "list" vs.toArray 0)) s1.heap.objs.size vs) false ea (er _) hal
      rw [sort_flat hf pd] at ho2
      obtain ⟨ws, k2, k3⟩ := of_each ho2
      obtain ⟨c, hcc⟩ := sortedHeap_at (vs := vs) (out := (PySem.W.sortVals (PySem.W.dataKind (PySem.W.sortingHeap (s1.heap.push (seqObj "list" vs.toArray 0)) s1.heap.objs.size vs) (ds2.map py)) false vs vs).toArray) hoL
      have nH : H s1.heap.objs.size = none := I.hok.fresh hz
      have kk : ∀ b u, s.heap.get? b = some u → (sortedHeap (s1.heap.push (seqObj "list" vs.toArray 0)) s1.heap.objs.size vs (PySem.W.sortVals (PySem.W.dataKind (PySem.W.sortingHeap (s1.heap.push (seqObj "list" vs.toArray 0)) s1.heap.objs.size vs) (ds2.map py)) false vs vs).toArray).get? b = some u := fun b u e => by
        have q1 := k1 b u e
        have hlt := Heap.lt_size q1
        rw [sortedHeap_old (Nat.ne_of_lt hlt) (by rw [size_push']; exact Nat.lt_succ_of_lt hlt)]
        exact Heap.get?_push_of_some _ q1
      have lw : ws.length ≤ sizeLine := by rw [k3.length, List.length_mergeSort]; exact p3
      have J : Inv X pins σ (upd H s1.heap.objs.size (.lst ws)) { s with heap := _, gens := s1.gens, drawn := s1.drawn, toks := s1.toks } :=
        I.call (ch := []) (Un.laid kk hz nH) (I.hok.laid kk hz ⟨lw, _, c, k2, hcc⟩) (by rw [g1]; exact I.bare) (fun _ z => nomatch z)
      have es1 : ({ s1 with heap := sortedHeap (s1.heap.push (seqObj "list" vs.toArray 0)) s1.heap.objs.size vs (PySem.W.sortVals (PySem.W.dataKind (PySem.W.sortingHeap (s1.heap.push (seqObj "list" vs.toArray 0)) s1.heap.objs.size vs) (ds2.map py)) false vs vs).toArray } : Shared) = { s with heap := sortedHeap (s1.heap.push (seqObj "list" vs.toArray 0)) s1.heap.objs.size vs (PySem.W.sortVals (PySem.W.dataKind (PySem.W.sortingHeap (s1.heap.push (seqObj "list" vs.toArray 0)) s1.heap.objs.size vs) (ds2.map py)) false vs vs).toArray, gens := s1.gens, drawn := s1.drawn, toks := s1.toks } := by
        cases s1
        cases s
        cases o1
        rfl
      rw [sortD_eq] at q
      have goal := q s1.heap.objs.size ws nH k3
      show EP X pins σ Q _ { s1 with heap := sortedHeap _ _ vs _ }
      rw [es1]
      exact ⟨.ref _, _, J, rfl, goal⟩
    · obtain ⟨rfl, hq⟩ := hfn
      exact ⟨_, rfl, wpAny_pure ⟨_, rfl, hq⟩⟩
theorem ee_sortset {m : Ev} {e : Expr} {p p2 pos pos2 : Pos} (ok : Ok T X) (rm : Rm X) (hc : X.calm = true) (he : EW T W X e m) (hg : Gl X "sorted") (hm : X.mg "sorted" = none) (hg2 : Gl X "set") (hm2 : X.mg "set" = none)
    (hs : starEach [.Call (.Name "set" p2) [e] [] pos2] X.env = (false, eval (.Call (.Name "set" p2) [e] [] pos2) X.env) :: starEach [] X.env := by rfl) (hs2 : starEach [e] X.env = (false, eval e X.env) :: starEach [] X.env := by rfl) :
    EE T W X (.Call (.Name "sorted" p) [.Call (.Name "set" p2) [e] [] pos2] [] pos) (mUn sortSetF m) :=
  PE.imp (pe_callB (cr_sortX ok rm hc) hg hm rfl (pa_cons (pe_callTy (cr_setX ok hc) hg2 hm2 rfl (pa_cons he pa_nil hs2) (by decide) (by decide) hs2 rfl) pa_nil hs) (by decide) (by decide) hs rfl) fun σ H Q h => by
    obtain ⟨γ, ρ, g, S, q⟩ := un_imp h
    refine ⟨γ, ρ, g, S, ?_⟩
    revert q
    cases m ρ g with
    | exc x g' => exact fun q => q
    | bad => exact fun q => q
    | ok d g' =>
      intro q v ι' H' s1 G1 r1
      obtain ⟨ι, bar, d, r, hb, hi, rd, hk, q2⟩ := q v ι' H' s1 G1 r1
      unfold sortSetF at hk
      split at hk
      · rename_i ds hsq
        split at hk
        · rename_i hcc
          cases hk
          simp only [Bool.and_eq_true, decide_eq_true_eq] at hcc
          refine ⟨v, ι, bar, d, ds, rfl, hb, hi, rd, hsq, hcc.1.1, hcc.1.2, fun p ls us hp e nd rs => ?_⟩
          refine ⟨p, ι, bar, dedD ds, ls, us, rfl, upd_same, e, flat_ded hcc.1.1, hcc.2, rs.keep (.same (same_upd hp)) hi (fun a h => .inl h), fun p2 vs hp2 rv => ?_⟩
          refine q2 _ _ ((same_upd hp).trans (same_upd hp2)) (RelD.newLst (fun a ha hz => ?_) hi hp2 rv)
          cases hh : H' a with
          | none => exact hb a ha hh
          | some o => rw [same_upd hp a o hh] at hz; cases hz
        · cases hk
      · cases hk
end
end Z

namespace Z
open PySem PySem.Spec PyProof.Rows L2 LamX
set_option autoImplicit false
/-! ### a tuple's items into names, some of them owning -/
abbrev GNs (X : Cx) (es : List Expr) (is : List Nat) : Prop := PGs X es (fun vs σ H Q => vs.length = is.length ∧ Q (setVs is vs σ) H)
section
variable {T : Wd} {W : WX} {X : Cx}
theorem gns_nil : GNs X [] [] := PGs.imp pgs_nil fun vs σ H Q ⟨hl, q⟩ => by
  cases vs with
  | nil => exact ⟨rfl, q⟩
  | cons _ _ => cases hl
theorem gns_cons {es : List Expr} {is : List Nat} {pos : Pos} (i : Nat) {x : Str} (hN : X.N.Nodup) (h2 : GNs X es is) (hi : X.N[i]? = some x := by rfl) (hx : Loc X.env.scope x := by first | exact .inl rfl | exact .inr rfl)
    (hf : X.fn x = true ∨ X.env.scope.names.lookup x = some .local := by first | exact .inl rfl | exact .inr rfl | assumption)
    (hs : (assignEach (.Name x pos :: es) X.env).map (·.2) = assign (.Name x pos) X.env :: (assignEach es X.env).map (·.2) := by rfl) : GNs X (.Name x pos :: es) (i :: is) := PGs.imp (pgs_cons (pg_name hN hi hx hf) h2 hs) fun vs σ H Q ⟨hl, q⟩ => by
  cases vs with
  | nil => cases hl
  | cons v vs => exact ⟨v, vs, rfl, by simpa using hl, q⟩
theorem par_imp3 {m : EvF} {is : List Nat} {D' : Ends} {σ : L2.St} {H : Hp} (h : tS T W (sPar is m) D' σ H) : tFs T W m σ H fun vs H1 => vs.length = is.length ∧ ∀ H2, Same H1 H2 → D'.nx (setVs is vs σ) H2 := by
  obtain ⟨E0, γ, ρ, g, S, p⟩ := h
  have key : ∀ ds g1, m ρ g = .ok ds g1 → ds.length = is.length := fun ds g1 e => by
    unfold sPar at p
    rw [e] at p
    dsimp only at p
    cases he : setFs is ds ρ with
    | none => rw [he] at p; exact p.elim
    | some ρ' => exact setFs_len he
  refine ⟨γ, ρ, g, S.st, ?_⟩
  unfold sPar at p
  revert p
  cases hm : m ρ g with
  | bad => exact fun p => p
  | exc x g1 => exact fun p cls dx ι' H' s1 G1 r1 => p (γ.to ι') σ H' cls dx (S.step s1 G1) r1
  | ok ds g1 =>
    have hl := key ds g1 hm
    dsimp only
    cases he : setFs is ds ρ with
    | none => exact fun p => p.elim
    | some ρ' =>
      intro p vs A ι1 H1 s1 nd hA G1 r1
      have R1 := S.st.stepAdds s1 hA G1
      obtain ⟨γ', S'⟩ := StS.sets (E0 := E0) is ds vs A (γ.to ι1) ρ ρ' σ R1 (S.kept.keep s1 γ.bi (grows_adds (ι1 := ι1) s1 fun a h => (hA a h).1)) (S.ent.trans s1) S.fav S.own0 nd (fun a h => ⟨S.ent.back (hA a h).1, (hA a h).2.1, (hA a h).2.2.1⟩) r1 he
      exact ⟨by rw [r1.len, hl], fun H2 sm => p (γ'.to γ'.ι) _ H2 (S'.step (.same sm) (S'.st.cells.keep sm (Gho.bi _) (Gho.grows (.same sm))))⟩
theorem ss_unp {ts es : List Expr} {is : List Nat} {m : EvF} {pos pt p2 : Pos} {kt k2 n : Nat} (hc : X.calm = true) (ha : EFs T W X es m) (gn : GNs X ts is) (hl : is.length = n := by rfl) (hz : n ≤ 1000 := by decide)
    (hn : (assignEach ts X.env).length = n := by rfl) (hst : (assignEach ts X.env).findIdx? (·.1) = none := by rfl)
    (hs : swapsWithSole [.Tuple ts kt pt] (.Tuple es k2 p2) pos.line X.env = pure false := by rfl) (hw : swappedStores [.Tuple ts kt pt] (.Tuple es k2 p2) X.env = pure none := by rfl)
    (h1 : (assignEach [.Tuple ts kt pt] X.env).map (·.2) = [assign (.Tuple ts kt pt) X.env] := by rfl) : SS T W X (.Assign [.Tuple ts kt pt] (.Tuple es k2 p2) pos) (sPar is m) :=
  PS.imp (ps_asg (pe_tup ha) (pg_tup hc gn hn hst) hs hw h1) fun D' σ H h => by
    obtain ⟨γ, ρ, g, S, p⟩ := par_imp3 h
    refine ⟨γ, ρ, g, S, ?_⟩
    revert p
    cases m ρ g with
    | bad => exact fun p => p
    | exc x g1 => exact fun p => p
    | ok ds g1 =>
      intro p vs A ι1 H1 s1 nd hA G1 r1
      obtain ⟨hv, q⟩ := p vs A ι1 H1 s1 nd hA G1 r1
      refine ⟨by rw [hv, hl]; exact Nat.le_trans hz (by decide), fun a ha => ⟨a, vs, rfl, SqT.of upd_same, by rw [hv, hl], hv, q _ (same_upd ha)⟩⟩
end
/-! ### zip -/
def zipD (xs ys : List D) : List D := (xs.zip ys).map fun p => .tup [p.1, p.2]
theorem zipD_get {xs ys : List D} {i : Nat} {d : D} (h : (zipD xs ys)[i]? = some d) : ∃ x y, xs[i]? = some x ∧ ys[i]? = some y ∧ d = .tup [x, y] := by
  unfold zipD at h
  rw [List.getElem?_map] at h
  obtain ⟨p, h1, rfl⟩ := Option.map_eq_some_iff.mp h
  rw [List.getElem?_zip_eq_some] at h1
  exact ⟨_, _, h1.1, h1.2, rfl⟩
theorem zipD_len {xs ys : List D} : (zipD xs ys).length = min xs.length ys.length := by unfold zipD; rw [List.length_map, List.length_zip]
def iZp (ma mb : Ev) : EvI := fun ρ g => match ma ρ g with
  | .ok d g1 => (match mb ρ g1 with
    | .ok e g2 => (match d, e with
      | .tup xs, .tup ys => .ok (zipD xs ys) g2
      | .lst xs, .lst ys => .ok (zipD xs ys) g2
      | _, _ => .bad)
    | .exc x g2 => .exc x g2
    | .bad => .bad)
  | .exc x g1 => .exc x g1
  | .bad => .bad
theorem it_zpT (T : Wd) (a b : Addr) (xs ys : List D) : ItOk T (RZ.ItzT T.K a b) (zipD xs ys) (fun ι bar H => RelDs T ι bar H [.tup xs, .tup ys] [.ref a, .ref b]) := by
  have key : ∀ ι bar H, RelDs T ι bar H [.tup xs, .tup ys] [.ref a, .ref b] → ∃ vs us, SqT T.K H a vs ∧ RelDs T ι bar H xs vs ∧ SqT T.K H b us ∧ RelDs T ι bar H ys us := fun ι bar H h => by
    obtain ⟨v, r, e, h1, h2⟩ := h.uncons
    cases e
    obtain ⟨v, r, e, h2, _⟩ := h2.uncons
    cases e
    simp only [RelD] at h1 h2
    obtain ⟨_, vs, e, q, rs⟩ := h1
    cases e
    obtain ⟨_, us, e, q2, rs2⟩ := h2
    cases e
    exact ⟨vs, us, q, rs, q2, rs2⟩
  refine ⟨fun ι bar H i k hl => ?_, fun ι bar H i d k e => ?_, fun ι bar H i d x H' hi k e y => ?_⟩
  · obtain ⟨vs, us, q, rs, q2, rs2⟩ := key _ _ _ k
    rw [zipD_len] at hl
    exact ⟨vs, us, q, q2, by rw [rs.length, rs2.length]; omega⟩
  · obtain ⟨vs, us, q, rs, q2, rs2⟩ := key _ _ _ k
    obtain ⟨x, y, e1, e2, rfl⟩ := zipD_get e
    obtain ⟨v, f1, _⟩ := rs.get e1
    obtain ⟨u, f2, _⟩ := rs2.get e2
    exact ⟨vs, us, v, u, q, q2, f1, f2⟩
  · obtain ⟨vs, us, q, rs, q2, rs2⟩ := key _ _ _ k
    obtain ⟨x0, y0, e1, e2, rfl⟩ := zipD_get e
    obtain ⟨v, f1, r1⟩ := rs.get e1
    obtain ⟨u, f2, r2⟩ := rs2.get e2
    obtain ⟨p, x1, y1, rfl, np, rfl, z1, z2⟩ := y
    have w1 := z1 vs q
    rw [f1] at w1; cases w1
    have w2 := z2 us q2
    rw [f2] at w2; cases w2
    exact ⟨same_upd np, RelD.newTup hi np (.cons r1 (.cons r2 .nil))⟩
theorem it_zpL (T : Wd) (a b : Addr) (xs ys : List D) : ItOk T (Itz T.K a b) (zipD xs ys) (fun ι bar H => RelDs T ι bar H [.lst xs, .lst ys] [.ref a, .ref b]) := by
  have key : ∀ ι bar H, RelDs T ι bar H [.lst xs, .lst ys] [.ref a, .ref b] → ∃ vs us, SqL T.K H a vs ∧ RelDs T ι bar H xs vs ∧ SqL T.K H b us ∧ RelDs T ι bar H ys us := fun ι bar H h => by
    obtain ⟨v, r, e, h1, h2⟩ := h.uncons
    cases e
    obtain ⟨v, r, e, h2, _⟩ := h2.uncons
    cases e
    simp only [RelD] at h1 h2
    obtain ⟨_, vs, e, q, _, rs⟩ := h1
    cases e
    obtain ⟨_, us, e, q2, _, rs2⟩ := h2
    cases e
    exact ⟨vs, us, .inl q, rs, .inl q2, rs2⟩
  refine ⟨fun ι bar H i k hl => ?_, fun ι bar H i d k e => ?_, fun ι bar H i d x H' hi k e y => ?_⟩
  · obtain ⟨vs, us, q, rs, q2, rs2⟩ := key _ _ _ k
    rw [zipD_len] at hl
    exact ⟨vs, us, q, q2, by rw [rs.length, rs2.length]; omega⟩
  · obtain ⟨vs, us, q, rs, q2, rs2⟩ := key _ _ _ k
    obtain ⟨x, y, e1, e2, rfl⟩ := zipD_get e
    obtain ⟨v, f1, _⟩ := rs.get e1
    obtain ⟨u, f2, _⟩ := rs2.get e2
    exact ⟨vs, us, v, u, q, q2, f1, f2⟩
  · obtain ⟨vs, us, q, rs, q2, rs2⟩ := key _ _ _ k
    obtain ⟨x0, y0, e1, e2, rfl⟩ := zipD_get e
    obtain ⟨v, f1, r1⟩ := rs.get e1
    obtain ⟨u, f2, r2⟩ := rs2.get e2
    obtain ⟨p, x1, y1, rfl, np, rfl, z1, z2⟩ := y
    have w1 := z1 vs q
    rw [f1] at w1; cases w1
    have w2 := z2 us q2
    rw [f2] at w2; cases w2
    exact ⟨same_upd np, RelD.newTup hi np (.cons r1 (.cons r2 .nil))⟩
section
variable {T : Wd} {W : WX} {X : Cx} {e e2 : Expr} {ma mb : Ev} {elts : List Expr} {kk : Nat} {tpos p pos : Pos}
theorem ei_zip (ok : Ok T X) (hg : Gl X "zip") (hm : X.mg "zip" = none) (he : EE T W X e ma) (he2 : EE T W X e2 mb) (hs : starEach [e, e2] X.env = (false, eval e X.env) :: starEach [e2] X.env := by rfl) (hs2 : starEach [e2] X.env = (false, eval e2 X.env) :: starEach [] X.env := by rfl) (hpl : (backTo pos (starEach [e2] X.env)).any (·.1) = false := by rfl) :
    EI T W X (.Tuple elts kk tpos) (.Call (.Name "zip" p) [e, e2] [] pos) (iZp ma mb) := by
  refine ⟨fun pins s σ H R I q => ?_⟩
  obtain ⟨γ, ρ, g, S, pp⟩ := q
  refine (RZ.pi_zipA hg hm (pa_cons he (pa_cons he2 pa_nil hs2) hs) hs hpl).run pins s σ H R I ⟨γ, ρ, g, S, ?_⟩
  unfold iZp at pp
  revert pp
  cases hma : ma ρ g with
  | bad => exact fun pp => pp
  | exc x g' => exact fun pp => pp
  | ok d g1 =>
    dsimp only
    intro pp v ι1 H1 s1 G1 r1
    refine ⟨γ.to ι1, ρ, g1, S.step s1 G1, ?_⟩
    revert pp
    cases hmb : mb ρ g1 with
    | bad => exact fun pp => pp
    | exc x g' => exact fun pp cls dx ι' H' s2 G2 r2 => pp cls dx ι' H' (s1.trans s2) G2 r2
    | ok d2 g2 =>
      dsimp only
      intro pp u ι2 H2 s2 G2 r2
      have r1 := r1.keep s2 (γ.to ι1).bi (Gho.grows s2)
      cases d with
      | tup xs =>
        cases d2 with
        | tup ys =>
          obtain ⟨a, vs, rfl, sq, rs⟩ : ∃ a vs, v = .ref a ∧ SqT T.K H2 a vs ∧ RelDs T ι2 _ H2 xs vs := by simpa only [RelD] using r1
          obtain ⟨b, us, rfl, sq2, rs2⟩ : ∃ a vs, u = .ref a ∧ SqT T.K H2 a vs ∧ RelDs T ι2 _ H2 ys vs := by simpa only [RelD] using r2
          refine ⟨a, b, vs, us, rfl, .inr ⟨ok.K ▸ sq, ok.K ▸ sq2, ?_⟩⟩
          rw [ok.K]
          exact pp _ _ _ _ ⟨[.tup xs, .tup ys], [.ref a, .ref b], fun _ _ _ => Iff.rfl⟩ (it_zpT T a b xs ys) (s1.trans s2) G2 (.cons r1 (.cons r2 .nil))
        | _ => exact pp.elim
      | lst xs =>
        cases d2 with
        | lst ys =>
          obtain ⟨a, vs, rfl, sq, _, rs⟩ : ∃ a vs, v = .ref a ∧ Rd H2 a (.lst vs) ∧ ¬ _ ∧ RelDs T ι2 _ H2 xs vs := by simpa only [RelD] using r1
          obtain ⟨b, us, rfl, sq2, _, rs2⟩ : ∃ a vs, u = .ref a ∧ Rd H2 a (.lst vs) ∧ ¬ _ ∧ RelDs T ι2 _ H2 ys vs := by simpa only [RelD] using r2
          refine ⟨a, b, vs, us, rfl, .inl ⟨.inl sq, .inl sq2, ?_⟩⟩
          rw [ok.K]
          exact pp _ _ _ _ ⟨[.lst xs, .lst ys], [.ref a, .ref b], fun _ _ _ => Iff.rfl⟩ (it_zpL T a b xs ys) (s1.trans s2) G2 (.cons r1 (.cons r2 .nil))
        | _ => exact pp.elim
      | _ => exact pp.elim
end
end Z

namespace Z
open PySem PySem.Spec PyProof.Rows L2 LamX
set_option autoImplicit false
section
variable {T : Wd} {W : WX} {X : Cx}
theorem ee_gint {x : Str} {i : Int} {t : Tok} {pos : Pos} (hg : Gl X x) (hm : X.mg x = some (.int i t)) (hdb : (x == ("__debug__" : Str)) = false := by decide) : EE T W X (.Name x pos) (mC (.int i)) :=
  ee_glob hg hm (v := .int i) ⟨t, rfl⟩ (fun _ _ _ => RelD.ofInt _) hdb
theorem ee_gstr {x y : Str} {t : Tok} {pos : Pos} (hg : Gl X x) (hm : X.mg x = some (.str y t)) (hdb : (x == ("__debug__" : Str)) = false := by decide) : EE T W X (.Name x pos) (mC (.str y)) :=
  ee_glob hg hm (v := .str y) ⟨t, rfl⟩ (fun _ _ _ => RelD.ofStr _) hdb
end
end Z

namespace Z
open PySem PySem.Spec PyProof.Rows L2 LamX
set_option autoImplicit false
/-! ### the logic of denotations: what holds behind them -/
def Res.Ok {α : Type} (r : Res α) (P : α → G → Prop) : Prop := match r with
  | .ok a g => P a g
  | _ => False
def SR.Ok (r : SR) (N : Env → G → Prop) (R : D → G → Prop) : Prop := match r with
  | .nx ρ g => N ρ g
  | .rt d g => R d g
  | _ => False
section
variable {α β : Type}
theorem Res.Ok.mono {r : Res α} {P Q : α → G → Prop} (h : r.Ok P) (i : ∀ a g, P a g → Q a g) : r.Ok Q := by
  cases r with
  | ok a g => exact i a g h
  | _ => exact h.elim
theorem Res.Ok.ex {r : Res α} {P : α → G → Prop} (h : r.Ok P) : ∃ a g, r = .ok a g ∧ P a g := by
  cases r with
  | ok a g => exact ⟨a, g, rfl, h⟩
  | _ => exact h.elim
theorem Res.Ok.of {r : Res α} {P : α → G → Prop} {a : α} {g : G} (e : r = .ok a g) (h : P a g) : r.Ok P := by subst e; exact h
theorem SR.Ok.mono {r : SR} {N N' : Env → G → Prop} {R R' : D → G → Prop} (h : r.Ok N R) (i : ∀ ρ g, N ρ g → N' ρ g) (j : ∀ d g, R d g → R' d g) : r.Ok N' R' := by
  cases r with
  | nx ρ g => exact i ρ g h
  | rt d g => exact j d g h
  | _ => exact h.elim
theorem ok_ok (a : α) (g : G) (P : α → G → Prop) : (Res.ok a g).Ok P ↔ P a g := Iff.rfl
theorem ret_ok (o : Option α) (g : G) (P : α → G → Prop) : (ret o g).Ok P ↔ ∃ a, o = some a ∧ P a g := by
  cases o with
  | none => exact ⟨fun h => h.elim, fun ⟨_, e, _⟩ => by cases e⟩
  | some a => exact ⟨fun h => ⟨a, rfl, h⟩, fun ⟨_, e, h⟩ => by cases e; exact h⟩
theorem bind_ok (r : Res α) (f : α → G → Res β) (P : β → G → Prop) : (r.bind f).Ok P ↔ r.Ok fun a g => (f a g).Ok P := by cases r <;> exact Iff.rfl
theorem ite_ok (c : Bool) (x y : Res α) (P : α → G → Prop) : (if c = true then x else y).Ok P ↔ (c = true → x.Ok P) ∧ (c = false → y.Ok P) := by cases c <;> simp
theorem itp_ok (c : Prop) [Decidable c] (x : Res α) (P : α → G → Prop) : (if c then x else .bad).Ok P ↔ c ∧ x.Ok P := by
  by_cases h : c
  · simp [h]
  · rw [if_neg h]; exact ⟨fun z => z.elim, fun z => (h z.1).elim⟩
end
section
variable {ρ : Env} {g : G} {N : Env → G → Prop} {R : D → G → Prop} {a b : Sm} {m : Ev} {c : EvB} {i : Nat}
theorem seq_ok : (sSeq a b ρ g).Ok N R ↔ (a ρ g).Ok (fun ρ g => (b ρ g).Ok N R) R := by
  unfold sSeq
  cases a ρ g <;> exact Iff.rfl
theorem nx_ok : (sNx ρ g).Ok N R ↔ N ρ g := Iff.rfl
theorem set_ok : (sSet i m ρ g).Ok N R ↔ (m ρ g).Ok fun d g => N (ρ.set i (.val d)) g := by
  unfold sSet
  cases m ρ g <;> exact Iff.rfl
theorem srt_ok : (sRet m ρ g).Ok N R ↔ (m ρ g).Ok R := by
  unfold sRet
  cases m ρ g <;> exact Iff.rfl
theorem drop_ok : (sDrop m ρ g).Ok N R ↔ (m ρ g).Ok fun _ g => N ρ g := by
  unfold sDrop
  cases m ρ g <;> exact Iff.rfl
theorem sif_ok : (sIf c a b ρ g).Ok N R ↔ (c ρ g).Ok fun k g => (k = true → (a ρ g).Ok N R) ∧ (k = false → (b ρ g).Ok N R) := by
  unfold sIf
  cases c ρ g with
  | ok k g => cases k <;> simp [Res.Ok]
  | _ => exact Iff.rfl
theorem ow_ok : (sOw i m ρ g).Ok N R ↔ (m ρ g).Ok fun d g => i < ρ.length ∧ N (ρ.set i (.own d)) g := by
  unfold sOw
  cases m ρ g with
  | ok d g =>
    show (if i < ρ.length then SR.nx (ρ.set i (.own d)) g else SR.bad).Ok N R ↔ _
    by_cases h : i < ρ.length
    · rw [if_pos h]; exact ⟨fun z => ⟨h, z⟩, fun z => z.2⟩
    · rw [if_neg h]; exact ⟨fun z => z.elim, fun z => (h z.1).elim⟩
  | _ => exact Iff.rfl
theorem fz_ok {m : Sm} : (sFrz i m ρ g).Ok N R ↔ (m (frz ρ i) g).Ok N R := Iff.rfl
theorem fzz_ok {m : Sm} : (sFzz i m ρ g).Ok N R ↔ (m ρ g).Ok (fun ρ g => N (frz ρ i) g) R := by
  unfold sFzz
  cases m ρ g <;> exact Iff.rfl
theorem app_ok : (sApp i m ρ g).Ok N R ↔ ∃ ds, ownL ρ i = some ds ∧ (m ρ g).Ok fun d g => fits (ds.length + 1) = true ∧ N (ρ.set i (.own (.lst (ds ++ [d])))) g := by
  unfold sApp
  cases ownL ρ i with
  | none => exact ⟨fun h => h.elim, fun ⟨_, e, _⟩ => by cases e⟩
  | some ds =>
    dsimp only
    cases m ρ g with
    | ok d g =>
      show (if fits (ds.length + 1) = true then SR.nx _ g else SR.bad).Ok N R ↔ _
      by_cases h : fits (ds.length + 1) = true
      · rw [if_pos h]; exact ⟨fun z => ⟨ds, rfl, h, z⟩, fun ⟨_, e, z⟩ => by cases e; exact z.2⟩
      · rw [if_neg h]; exact ⟨fun z => z.elim, fun ⟨_, e, z⟩ => by cases e; exact (h z.1).elim⟩
    | _ => exact ⟨fun z => z.elim, fun ⟨_, _, z⟩ => z.elim⟩
theorem ext_ok : (sExt i m ρ g).Ok N R ↔ ∃ ds, ownL ρ i = some ds ∧ (m ρ g).Ok fun d g => ∃ es, d = .lst es ∧ fits (ds.length + es.length) = true ∧ N (ρ.set i (.own (.lst (ds ++ es)))) g := by
  unfold sExt
  cases ownL ρ i with
  | none => exact ⟨fun h => h.elim, fun ⟨_, e, _⟩ => by cases e⟩
  | some ds =>
    dsimp only
    cases m ρ g with
    | ok d g =>
      cases d with
      | lst es =>
        show (if fits (ds.length + es.length) = true then SR.nx _ g else SR.bad).Ok N R ↔ _
        by_cases h : fits (ds.length + es.length) = true
        · rw [if_pos h]; exact ⟨fun z => ⟨ds, rfl, es, rfl, h, z⟩, fun ⟨_, e, z⟩ => by cases e; obtain ⟨_, e, _, z⟩ := z; cases e; exact z⟩
        · rw [if_neg h]; exact ⟨fun z => z.elim, fun ⟨_, e, z⟩ => by cases e; obtain ⟨_, e, z, _⟩ := z; cases e; exact (h z).elim⟩
      | _ => exact ⟨fun z => z.elim, fun ⟨_, _, z⟩ => by obtain ⟨_, e, _⟩ := z; cases e⟩
    | _ => exact ⟨fun z => z.elim, fun ⟨_, _, z⟩ => z.elim⟩
theorem par_ok {is : List Nat} {m : EvF} : (sPar is m ρ g).Ok N R ↔ (m ρ g).Ok fun ds g => ∃ ρ', setFs is ds ρ = some ρ' ∧ N ρ' g := by
  unfold sPar
  cases m ρ g with
  | ok ds g =>
    dsimp only
    cases h : setFs is ds ρ with
    | none => exact ⟨fun z => z.elim, fun ⟨_, e, _⟩ => by rw [h] at e; cases e⟩
    | some ρ' => exact ⟨fun z => ⟨ρ', h, z⟩, fun ⟨_, e, z⟩ => by rw [h] at e; cases e; exact z⟩
  | _ => exact Iff.rfl
theorem asg_ok {t : Tg} : (sAsg m t ρ g).Ok N R ↔ (m ρ g).Ok fun d g => ∃ ρ', t d ρ = some ρ' ∧ N ρ' g := by
  unfold sAsg
  cases m ρ g with
  | ok d g =>
    dsimp only
    cases h : t d ρ with
    | none => exact ⟨fun z => z.elim, fun ⟨_, e, _⟩ => by rw [h] at e; cases e⟩
    | some ρ' => exact ⟨fun z => ⟨ρ', h, z⟩, fun ⟨_, e, z⟩ => by rw [h] at e; cases e; exact z⟩
  | _ => exact Iff.rfl
theorem for_ok {mi : EvI} {t : Tg} : (sFor mi t b ρ g).Ok N R ↔ (mi ρ g).Ok fun ds g => (forL t b ds ρ g).Ok N R := by
  unfold sFor
  cases mi ρ g <;> exact Iff.rfl
theorem fcons_ok {o : Bool} {mf : EvF} {P : List (Bool × D) → G → Prop} : (fCons o m mf ρ g).Ok P ↔ (m ρ g).Ok fun d g => (mf ρ g).Ok fun ds g => P ((o, d) :: ds) g := by
  unfold fCons
  cases m ρ g with
  | ok d g1 =>
    dsimp only
    cases h : mf ρ g1 with
    | exc x g2 => cases o <;> simp [Res.Ok, h]
    | ok ds g2 => simp [Res.Ok, h]
    | bad => simp [Res.Ok, h]
  | _ => exact Iff.rfl
theorem fnil_ok {P : List (Bool × D) → G → Prop} : (fNil ρ g).Ok P ↔ P [] g := Iff.rfl
/-- a loop by its invariant -/
theorem for_inv {t : Tg} : ∀ (ds : List D) (I : Nat → Env → G → Prop) (ρ : Env) (g : G), I 0 ρ g → (∀ (i : Nat) (d : D) (ρ : Env) (g : G), ds[i]? = some d → I i ρ g → ∃ ρ1, t d ρ = some ρ1 ∧ (b ρ1 g).Ok (I (i + 1)) R) → (∀ ρ g, I ds.length ρ g → N ρ g) → (forL t b ds ρ g).Ok N R
  | [], I, ρ, g, h0, _, h2 => h2 ρ g h0
  | d :: ds, I, ρ, g, h0, h1, h2 => by
    obtain ⟨ρ1, e, hb⟩ := h1 0 d ρ g rfl h0
    unfold forL
    rw [e]
    dsimp only
    cases hq : b ρ1 g with
    | nx ρ2 g2 =>
      rw [hq] at hb
      exact for_inv ds (fun i => I (i + 1)) ρ2 g2 hb (fun i d ρ g hi => h1 (i + 1) d ρ g (by simpa using hi)) (fun ρ g h => h2 ρ g (by simpa using h))
    | rt d g2 => rw [hq] at hb; exact hb
    | _ => rw [hq] at hb; exact hb.elim
end
section
variable {ρ : Env} {g : G} {P : D → G → Prop} {m a b : Ev} {c : EvB}
theorem op_ok {k : D → D → Option D} : (mOp k a b ρ g).Ok P ↔ (a ρ g).Ok fun d g => (b ρ g).Ok fun e g => ∃ r, k d e = some r ∧ P r g := by simp only [mOp, bind_ok, ret_ok]
theorem un_ok {k : D → Option D} : (mUn k a ρ g).Ok P ↔ (a ρ g).Ok fun d g => ∃ r, k d = some r ∧ P r g := by simp only [mUn, bind_ok, ret_ok]
theorem c_ok {d : D} : (mC d ρ g).Ok P ↔ P d g := Iff.rfl
theorem nil_ok {P : List D → G → Prop} : (mNil ρ g).Ok P ↔ P [] g := Iff.rfl
theorem cons_ok {ms : EvL} {P : List D → G → Prop} : (mCons a ms ρ g).Ok P ↔ (a ρ g).Ok fun d g => (ms ρ g).Ok fun ds g => P (d :: ds) g := by simp only [mCons, bind_ok, ok_ok]
theorem tup_ok {ms : EvL} : (mTup ms ρ g).Ok P ↔ (ms ρ g).Ok fun ds g => fits ds.length = true ∧ P (.tup ds) g := by simp only [mTup, bind_ok, itp_ok, ok_ok]
theorem lst_ok {ms : EvL} : (mLst ms ρ g).Ok P ↔ (ms ρ g).Ok fun ds g => fits ds.length = true ∧ P (.lst ds) g := by simp only [mLst, bind_ok, itp_ok, ok_ok]
theorem v_ok {i : Nat} {d : D} (h : ρ[i]? = some (.val d)) : (mV i ρ g).Ok P ↔ P d g := by unfold mV; rw [h]; exact Iff.rfl
theorem vo_ok {i : Nat} {d : D} (h : ρ[i]? = some (.own d)) : (mV i ρ g).Ok P ↔ P d g := by unfold mV; rw [h]; exact Iff.rfl
theorem vs_ok {i : Nat} {d : D} (h : ρ[i]? = some (.val d)) : (mVs i ρ g).Ok P ↔ P d g := by unfold mVs; rw [h]; exact Iff.rfl
theorem if_ok : (mIf c a b ρ g).Ok P ↔ (c ρ g).Ok fun k g => (k = true → (a ρ g).Ok P) ∧ (k = false → (b ρ g).Ok P) := by simp only [mIf, bind_ok, ite_ok]
theorem andV_ok : (mAndV a b ρ g).Ok P ↔ (a ρ g).Ok fun d g => ∃ k, tr d = some k ∧ (k = true → (b ρ g).Ok P) ∧ (k = false → P d g) := by simp only [mAndV, bind_ok, ret_ok, ite_ok, ok_ok]
theorem orV_ok : (mOrV a b ρ g).Ok P ↔ (a ρ g).Ok fun d g => ∃ k, tr d = some k ∧ (k = true → P d g) ∧ (k = false → (b ρ g).Ok P) := by simp only [mOrV, bind_ok, ret_ok, ite_ok, ok_ok]
theorem notV_ok : (mNotV a ρ g).Ok P ↔ (a ρ g).Ok fun d g => ∃ k, tr d = some k ∧ P (.bl !k) g := by simp only [mNotV, bind_ok, ret_ok, ok_ok]
theorem ch_ok {k k' : D → D → Option D} {c : Ev} : (mCh k k' a b c ρ g).Ok P ↔ (a ρ g).Ok fun d g => (b ρ g).Ok fun e g => ∃ r, k d e = some r ∧ ∃ q, isB r = some q ∧ (q = true → (c ρ g).Ok fun f g => ∃ r, k' e f = some r ∧ P r g) ∧ (q = false → P (.bl false) g) := by simp only [mCh, bind_ok, ret_ok, ite_ok, ok_ok]
theorem tr_ok {P : Bool → G → Prop} : (mTr a ρ g).Ok P ↔ (a ρ g).Ok fun d g => ∃ k, tr d = some k ∧ P k g := by simp only [mTr, bind_ok, ret_ok]
theorem b_ok {P : Bool → G → Prop} : (mB a ρ g).Ok P ↔ (a ρ g).Ok fun d g => ∃ k, isB d = some k ∧ P k g := by simp only [mB, bind_ok, ret_ok]
theorem and_ok {c c2 : EvB} {P : Bool → G → Prop} : (mAnd c c2 ρ g).Ok P ↔ (c ρ g).Ok fun k g => (k = true → (c2 ρ g).Ok P) ∧ (k = false → P false g) := by simp only [mAnd, bind_ok, ite_ok, ok_ok]
theorem or_ok {c c2 : EvB} {P : Bool → G → Prop} : (mOr c c2 ρ g).Ok P ↔ (c ρ g).Ok fun k g => (k = true → P true g) ∧ (k = false → (c2 ρ g).Ok P) := by simp only [mOr, bind_ok, ite_ok, ok_ok]
theorem not_ok {P : Bool → G → Prop} : (mNot c ρ g).Ok P ↔ (c ρ g).Ok fun k g => P (!k) g := by simp only [mNot, bind_ok, ok_ok]
theorem yes_ok {P : Bool → G → Prop} : (mYes ρ g).Ok P ↔ P true g := Iff.rfl
theorem no_ok {P : Option Int → G → Prop} : (oNo ρ g).Ok P ↔ P none g := Iff.rfl
theorem is_ok {P : Option Int → G → Prop} : (oIs a ρ g).Ok P ↔ (a ρ g).Ok fun d g => ∃ i, d = .int i ∧ P (some i) g := by
  unfold oIs
  rw [bind_ok]
  cases h : a ρ g with
  | ok d g' =>
    cases d with
    | int i => exact ⟨fun z => ⟨i, rfl, z⟩, fun ⟨_, e, z⟩ => by cases e; exact z⟩
    | _ => exact ⟨fun z => z.elim, fun ⟨_, e, _⟩ => by cases e⟩
  | _ => exact Iff.rfl
theorem sl_ok {lo hi : EvO} : (mSl a lo hi ρ g).Ok P ↔ (a ρ g).Ok fun d g => (lo ρ g).Ok fun l g => (hi ρ g).Ok fun u g => ∃ r, slO d l u = some r ∧ P r g := by simp only [mSl, bind_ok, ret_ok]
theorem call_ok {den : Den} {n q : Nat} {gD : List D → List D → List D} {ms mk : EvL} : (mCallB den n q gD ms mk ρ g).Ok P ↔ (ms ρ g).Ok fun ds g => (mk ρ g).Ok fun es g => (ds.length = n ∧ es.length = q) ∧ (den (gD ds es) g).Ok P := by simp only [mCallB, bind_ok, itp_ok]
theorem mt_ok {kd : D → Bool} {f : D → List D → Option D} {ms : EvL} : (mMt kd f a ms ρ g).Ok P ↔ (a ρ g).Ok fun d g => kd d = true ∧ (ms ρ g).Ok fun ds g => ∃ r, f d ds = some r ∧ P r g := by
  unfold mMt
  rw [bind_ok]
  cases h : a ρ g with
  | ok d g' =>
    show (if kd d = true then _ else Res.bad).Ok P ↔ _
    rw [itp_ok]
    simp only [bind_ok, ret_ok]
    exact Iff.rfl
  | _ => exact Iff.rfl
theorem opF_ok {k : D → D → Option (List D)} : (mOpF k a b ρ g).Ok P ↔ (a ρ g).Ok fun d g => (b ρ g).Ok fun e g => ∃ r, k d e = some r ∧ P (.lst r) g := by
  simp only [mOpF, bind_ok, ret_ok, Option.map_eq_some_iff]
  constructor <;> intro h <;> refine h.mono fun d g h => h.mono fun e g h => ?_
  · obtain ⟨_, ⟨r, e, rfl⟩, p⟩ := h; exact ⟨r, e, p⟩
  · obtain ⟨r, e, p⟩ := h; exact ⟨_, ⟨r, e, rfl⟩, p⟩
theorem den_ok {n : Nat} {m : Sm} {ds : List D} : (denOf n m ds g).Ok P ↔ (m (entE n ds) g).Ok (fun _ g => P .non g) P := by
  unfold denOf
  cases m (entE n ds) g <;> exact Iff.rfl
theorem iv_ok {P : List D → G → Prop} : (iV a ρ g).Ok P ↔ (a ρ g).Ok fun d g => ∃ ds, itemsD d = some ds ∧ P ds g := by
  unfold iV
  cases h : a ρ g with
  | ok d g' =>
    dsimp only
    cases h2 : itemsD d with
    | none => exact ⟨fun z => z.elim, fun ⟨_, e, _⟩ => by rw [h2] at e; cases e⟩
    | some ds => exact ⟨fun z => ⟨ds, h2, z⟩, fun ⟨_, e, z⟩ => by rw [h2] at e; cases e; exact z⟩
  | _ => exact Iff.rfl
theorem ir_ok {ms : EvL} {P : List D → G → Prop} : (iR1 ms ρ g).Ok P ↔ (ms ρ g).Ok fun ds g => ∃ j, ds = [.int j] ∧ (-(2 ^ 62) ≤ j ∧ j < 2 ^ 62) ∧ P (rngD 0 j.toNat) g := by
  cases h : ms ρ g with
  | ok ds g' =>
    by_cases hj : ∃ j, ds = [.int j]
    · obtain ⟨j, rfl⟩ := hj
      have e : iR1 ms ρ g = if -(2 ^ 62) ≤ j ∧ j < 2 ^ 62 then Res.ok (rngD 0 j.toNat) g' else .bad := by unfold iR1; rw [h]
      rw [e, itp_ok]
      exact ⟨fun z => ⟨j, rfl, z⟩, fun ⟨_, e, z⟩ => by cases e; exact z⟩
    · have e : iR1 ms ρ g = .bad := by
        unfold iR1
        rw [h]
        split
        · rename_i q; cases q; exact absurd ⟨_, rfl⟩ hj
        · rename_i q; cases q
        · rfl
      rw [e]
      exact ⟨fun z => z.elim, fun ⟨j, e, _⟩ => (hj ⟨j, e⟩).elim⟩
  | exc x g' =>
    have e : iR1 ms ρ g = .exc x g' := by unfold iR1; rw [h]
    rw [e]; exact Iff.rfl
  | bad =>
    have e : iR1 ms ρ g = .bad := by unfold iR1; rw [h]
    rw [e]; exact Iff.rfl
/-! comprehensions -/
theorem lc_ok {mi : EvI} {vs : List Nat} {t : Tg} {ms : ElM} : (mLc mi vs t ms ρ g).Ok P ↔ (mi ρ g).Ok fun ds g => (gaL t ms (wipeE ρ vs) ds g).Ok fun ys g => fits ys.length = true ∧ P (.lst ys) g := by
  unfold mLc
  cases h : mi ρ g with
  | ok ds g' =>
    show _ ↔ (gaL t ms (wipeE ρ vs) ds g').Ok fun ys g => fits ys.length = true ∧ P (.lst ys) g
    dsimp only
    cases h2 : gaL t ms (wipeE ρ vs) ds g' with
    | ok ys g2 => dsimp only; rw [itp_ok]; exact Iff.rfl
    | _ => exact Iff.rfl
  | _ => exact Iff.rfl
theorem el1_ok {mt : EvB} {me : Ev} {P : List D → G → Prop} : (el1 mt me ρ g).Ok P ↔ (mt ρ g).Ok fun k g => (k = true → (me ρ g).Ok fun y g => P [y] g) ∧ (k = false → P [] g) := by
  unfold el1
  cases h : mt ρ g with
  | ok k g1 =>
    cases k with
    | true =>
      cases h2 : me ρ g1 <;> simp [Res.Ok, h2]
    | false => simp [Res.Ok]
  | _ => exact Iff.rfl
/-- turns by an invariant over what was gathered -/
theorem ga_inv {t : Tg} {ms : ElM} {ρ : Env} : ∀ (ds : List D) (I : Nat → List D → G → Prop) (acc : List D) (g : G) (P : List D → G → Prop), I 0 acc g → (∀ (i : Nat) (d : D) (ys : List D) (g : G), ds[i]? = some d → I i ys g → ∃ ρ1, t d ρ = some ρ1 ∧ (ms ρ1 g).Ok fun zs g => I (i + 1) (ys ++ zs) g) → (∀ ys g, I ds.length (acc ++ ys) g → P ys g) → (gaL t ms ρ ds g).Ok P
  | [], I, acc, g, P, h0, _, h2 => h2 [] g (by simpa using h0)
  | d :: ds, I, acc, g, P, h0, h1, h2 => by
    obtain ⟨ρ1, e, hb⟩ := h1 0 d acc g rfl h0
    unfold gaL
    rw [e]
    dsimp only
    cases hq : ms ρ1 g with
    | ok ys g1 =>
      rw [hq] at hb
      dsimp only
      have ih := ga_inv ds (fun i => I (i + 1)) (acc ++ ys) g1 (fun zs g => P (ys ++ zs) g) hb (fun i d ys g hi => h1 (i + 1) d ys g (by simpa using hi)) (fun zs g h => h2 (ys ++ zs) g (by rw [← List.append_assoc]; simpa using h))
      cases hz : gaL t ms ρ ds g1 with
      | ok zs g2 => rw [hz] at ih; exact ih
      | _ => rw [hz] at ih; exact ih.elim
    | _ => rw [hq] at hb; exact hb.elim
/-- .. each turn a plain one -/
theorem ga_pure {t : Tg} {ms : ElM} {ρ : Env} {f : D → List D} : ∀ (ds : List D) (g : G), (∀ d ∈ ds, ∃ ρ1, t d ρ = some ρ1 ∧ ms ρ1 g = .ok (f d) g) → gaL t ms ρ ds g = .ok (ds.flatMap f) g
  | [], g, _ => rfl
  | d :: ds, g, h => by
    obtain ⟨ρ1, e, e2⟩ := h d List.mem_cons_self
    unfold gaL
    rw [e]
    dsimp only
    rw [e2]
    dsimp only
    rw [ga_pure ds g fun x hx => h x (List.mem_cons_of_mem _ hx)]
    rfl
theorem ga_map {α : Type} {t : Tg} {ms : ElM} {ρ : Env} {k : α → D} {f : α → List D} : ∀ (xs : List α) (g : G), (∀ x ∈ xs, ∃ ρ1, t (k x) ρ = some ρ1 ∧ ms ρ1 g = .ok (f x) g) → gaL t ms ρ (xs.map k) g = .ok (xs.flatMap f) g
  | [], g, _ => rfl
  | d :: ds, g, h => by
    obtain ⟨ρ1, e, e2⟩ := h d List.mem_cons_self
    rw [List.map_cons]
    unfold gaL
    rw [e]
    dsimp only
    rw [e2]
    dsimp only
    rw [ga_map ds g fun x hx => h x (List.mem_cons_of_mem _ hx)]
    rfl
theorem Res.Ok.eq {α : Type} {r : Res α} {a : α} {g : G} (h : r.Ok fun d g' => d = a ∧ g' = g) : r = .ok a g := by
  obtain ⟨d, g', e, rfl, rfl⟩ := h.ex
  exact e
theorem ok_of {α : Type} {r : Res α} {a : α} {g : G} (e : r = .ok a g) (P : α → G → Prop) : r.Ok P ↔ P a g := by rw [e]; exact Iff.rfl
end
end Z

namespace Z
open PySem PySem.Spec PyProof.Rows L2 LamX
set_option autoImplicit false
/-! ### how long data are when written -/
mutual
def wtP : PyData → Nat
  | .none => 4
  | .bool _ => 5
  | .int i => if i.natAbs < 1000 then 4 else 1921
  | .str x => 10 * x.length + 2
  | .list xs => wtPs xs + 2
  | .tuple xs => wtPs xs + 4
  | .dict _ => 0
def wtPs : List PyData → Nat
  | [] => 0
  | x :: xs => wtP x + 2 + wtPs xs
end
mutual
def gdP : PyData → Bool
  | .none => true
  | .bool _ => true
  | .int i => decide (i.natAbs.log2 < 1920)
  | .str x => x.cps.toList.all fun c => decide (c < 16 ^ 8)
  | .list xs => gdPs xs
  | .tuple xs => gdPs xs
  | .dict _ => false
def gdPs : List PyData → Bool
  | [] => true
  | x :: xs => gdP x && gdPs xs
end
theorem sl_len (x : Str) : (sl x).length = x.length := by simp [sl, Str.length]
mutual
theorem shF_len : ∀ (d : PyData) (r : List Nat), gdP d = true → (shF d r).length ≤ wtP d + r.length
  | .none, r, _ => by simp [shF, wtP]; omega
  | .bool b, r, _ => by
    have h : (sl (if b = true then "True" else "False")).length ≤ 5 := by cases b <;> decide +kernel
    simp only [shF, wtP, List.length_append]
    omega
  | .int i, r, h => by
    have h1 := int_text_len_1921 (i := i) (of_decide_eq_true h)
    have h2 := sl_len (PySem.Str.ofString (toString i))
    simp only [shF, wtP, List.length_append]
    have : (sl (toString i : String)).length ≤ 1921 := by rw [← h2] at h1; exact h1
    by_cases hs : i.natAbs < 1000
    · rw [if_pos hs]
      have h3 := int_text_length_le10 (a := i) (k := 3) (by decide) hs
      have h4 : (sl (toString i : String)).length ≤ 4 := by
        have e : (PySem.Str.ofString (toString i)).length = (toString i).length := PySem.ofString_length _
        rw [← e, ← h2] at h3
        exact h3
      omega
    · rw [if_neg hs]
      omega
  | .str x, r, h => by
    have h1 := StrLaws.reprText_len x fun c hc => of_decide_eq_true (List.all_eq_true.mp h c hc)
    simp only [shF, wtP, List.length_append, sl_len]
    omega
  | .list xs, r, h => by
    have := shFs_len xs (93 :: r) h
    simp only [shF, wtP, List.length_cons] at this ⊢
    omega
  | .tuple xs, r, h => by
    simp only [shF, wtP, List.length_cons]
    split
    · rename_i x
      have := shFs_len [x] (44 :: 41 :: r) h
      simp only [List.length_cons] at this
      omega
    · have := shFs_len xs (41 :: r) h
      simp only [List.length_cons] at this
      omega
  | .dict _, _, h => by cases h
theorem shFs_len : ∀ (xs : List PyData) (r : List Nat), gdPs xs = true → (shFs xs r).length ≤ wtPs xs + r.length
  | [], r, _ => by simp [shFs, wtPs]
  | x :: xs, r, h => by
    simp only [gdPs, Bool.and_eq_true] at h
    have h1 := shF_len x (shFt xs r) h.1
    have h2 := shFt_len xs r h.2
    simp only [shFs, wtPs]
    omega
theorem shFt_len : ∀ (xs : List PyData) (r : List Nat), gdPs xs = true → (shFt xs r).length ≤ wtPs xs + r.length
  | [], r, _ => by simp [shFt, wtPs]
  | x :: xs, r, h => by
    simp only [gdPs, Bool.and_eq_true] at h
    have h1 := shF_len x (shFt xs r) h.1
    have h2 := shFt_len xs r h.2
    simp only [shFt, wtPs, List.length_cons]
    omega
end
mutual
theorem gd_showable : ∀ d : PyData, gdP d = true → d.showable = true
  | .none, _ => by simp [PyData.showable]
  | .bool _, _ => by simp [PyData.showable]
  | .int i, h => by simpa [PyData.showable, gdP] using h
  | .str _, _ => by simp [PyData.showable]
  | .list xs, h => by simp only [PyData.showable]; exact gds_showable xs h
  | .tuple xs, h => by simp only [PyData.showable]; exact gds_showable xs h
  | .dict _, h => by cases h
theorem gds_showable : ∀ ds : List PyData, gdPs ds = true → PyData.showableAll ds = true
  | [], _ => by simp [PyData.showableAll]
  | d :: ds, h => by
    simp only [gdPs, Bool.and_eq_true] at h
    simp [PyData.showableAll, gd_showable d h.1, gds_showable ds h.2]
end
/-- pure data, of a length and a depth -/
structure Fit (n k : Nat) (d : D) : Prop where
  p : isD d = true
  g : gdP (py d) = true
  w : wtP (py d) ≤ n
  z : (py d).depth ≤ k
theorem Fit.mono {n k n' k' : Nat} {d : D} (h : Fit n k d) (a : n ≤ n') (b : k ≤ k') : Fit n' k' d := ⟨h.p, h.g, Nat.le_trans h.w a, Nat.le_trans h.z b⟩
theorem Fits.all {n k : Nat} : ∀ {ds : List D}, (∀ d ∈ ds, Fit n k d) → isDs ds = true ∧ gdPs (pys ds) = true ∧ wtPs (pys ds) ≤ ds.length * (n + 2) ∧ PyData.depthAll (pys ds) ≤ k
  | [], _ => by simp [isDs, pys, gdPs, wtPs, PyData.depthAll]
  | d :: ds, h => by
    obtain ⟨a, b, c, e⟩ := Fits.all (ds := ds) fun x hx => h x (List.mem_cons_of_mem _ hx)
    have f := h d List.mem_cons_self
    have := f.w
    have := f.z
    refine ⟨by simp [isDs, f.p, a], by simp [pys, gdPs, f.g, b], ?_, ?_⟩
    · simp only [pys, wtPs, List.length_cons, Nat.add_mul]; omega
    · simp only [pys, PyData.depthAll]; omega
theorem Fit.tup {n k : Nat} {ds : List D} (h : ∀ d ∈ ds, Fit n k d) {m : Nat} (hm : ds.length ≤ m) : Fit (m * (n + 2) + 4) (k + 1) (.tup ds) := by
  obtain ⟨a, b, c, e⟩ := Fits.all h
  have := Nat.mul_le_mul_right (n + 2) hm
  refine ⟨by simpa [isD] using a, by simpa [py, gdP] using b, ?_, ?_⟩
  · simp only [py, wtP]; omega
  · simp only [py, PyData.depth]; omega
theorem Fit.lst {n k : Nat} {ds : List D} (h : ∀ d ∈ ds, Fit n k d) {m : Nat} (hm : ds.length ≤ m) : Fit (m * (n + 2) + 2) (k + 1) (.lst ds) := by
  obtain ⟨a, b, c, e⟩ := Fits.all h
  have := Nat.mul_le_mul_right (n + 2) hm
  refine ⟨by simpa [isD] using a, by simpa [py, gdP] using b, ?_, ?_⟩
  · simp only [py, wtP]; omega
  · simp only [py, PyData.depth]; omega
theorem Fit.non : Fit 4 0 .non := ⟨rfl, rfl, Nat.le_refl _, Nat.le_refl _⟩
theorem Fit.bl (b : Bool) : Fit 5 0 (.bl b) := ⟨rfl, rfl, Nat.le_refl _, Nat.le_refl _⟩
theorem Fit.int {i : Int} (h : i.natAbs < 2 ^ 1000) : Fit 1921 0 (.int i) := by
  refine ⟨rfl, ?_, by show (if i.natAbs < 1000 then 4 else 1921) ≤ 1921; split <;> omega, Nat.le_refl _⟩
  show decide (i.natAbs.log2 < 1920) = true
  refine decide_eq_true ?_
  by_cases z : i.natAbs = 0
  · rw [z]; decide
  · exact Nat.lt_of_lt_of_le ((Nat.log2_lt z).mpr h) (by decide)
theorem Fit.nat {i : Nat} (h : i < 1000) : Fit 4 0 (.int (i : Int)) := by
  refine ⟨rfl, ?_, ?_, Nat.le_refl _⟩
  · show decide ((i : Int).natAbs.log2 < 1920) = true
    refine decide_eq_true ?_
    by_cases z : (i : Int).natAbs = 0
    · rw [z]; decide
    · have h10 : (i : Int).natAbs < 2 ^ 10 := by simp only [Int.natAbs_natCast]; omega
      exact Nat.lt_of_lt_of_le ((Nat.log2_lt z).mpr h10) (by decide)
  · show (if (i : Int).natAbs < 1000 then 4 else 1921) ≤ 4
    rw [if_pos (by simpa using h)]
    exact Nat.le_refl _
theorem shown_len {d : PyData} (g : gdP d = true) : d.shown.length ≤ wtP d := by
  rw [← sl_len]
  have := shF_len d [] g
  rw [shF_eq d []] at this
  simpa using this
theorem Fit.repr {n k : Nat} {d : D} (h : Fit n k d) (hn : n ≤ 16000000) (hk : k ≤ 60) : reprOk d = true := by
  have hz := h.z
  have hw := h.w
  have hs := shown_len h.g
  unfold reprOk sh fits
  simp only [Bool.and_eq_true, decide_eq_true_eq]
  exact ⟨⟨⟨h.p, by omega⟩, gd_showable _ h.g⟩, by omega⟩
theorem repr_lst {n k : Nat} {ds : List D} (h : Fit n k (.lst ds)) (hn : n ≤ 16000000) (hk : k ≤ 60) : reprF (.lst ds) = some (.str (py (.lst ds)).shown) := by
  rw [reprF_eq]
  show (if reprOk (.lst ds) = true then _ else _) = _
  rw [if_pos (h.repr hn hk)]
theorem repr_tup {n k : Nat} {ds : List D} (h : Fit n k (.tup ds)) (hn : n ≤ 16000000) (hk : k ≤ 60) : reprF (.tup ds) = some (.str (py (.tup ds)).shown) := by
  rw [reprF_eq]
  show (if reprOk (.tup ds) = true then _ else _) = _
  rw [if_pos (h.repr hn hk)]
theorem eqF_ss (x : Str) : eqF (.str x) (.str x) = some (.bl true) := by
  show some (D.bl (sEq x x)) = _
  rw [sEq_eq]; simp
theorem neF_ss (x : Str) : neF (.str x) (.str x) = some (.bl false) := by
  show some (D.bl (!sEq x x)) = _
  rw [sEq_eq]; simp
/-! ### indices, slices -/
theorem atI_nat {α : Type} {ds : List α} {k : Nat} {d : α} (h : ds[k]? = some d) : atI ds (k : Int) = some d := by
  have hk := (List.getElem?_eq_some_iff.mp h).1
  have e2 : L2.ixN ds.length (k : Int) = some k := by
    unfold L2.ixN
    rw [if_pos (by omega), if_pos (by omega), Int.toNat_natCast]
  unfold atI
  rw [e2]
  exact h
theorem idx_tup {ds : List D} {k : Nat} {d : D} (h : ds[k]? = some d) : idxO (.tup ds) (.int k) = some d := atI_nat h
theorem idx_lst {ds : List D} {k : Nat} {d : D} (h : ds[k]? = some d) : idxO (.lst ds) (.int k) = some d := atI_nat h
theorem cut_0 (ds : List D) (k : Nat) : cutD ds none (some (k : Int)) = ds.take k := by
  unfold cutD
  rw [HT.sIx_none, HT.sIx_nat, List.drop_zero, Nat.sub_zero]
  rcases Nat.le_total k ds.length with h | h
  · rw [Nat.min_eq_left h]
  · rw [Nat.min_eq_right h, List.take_of_length_le (Nat.le_refl _), List.take_of_length_le h]
theorem cut_1 (ds : List D) (k : Nat) : cutD ds (some (k : Int)) none = ds.drop k := by
  unfold cutD
  rw [HT.sIx_none, HT.sIx_nat]
  rcases Nat.le_total k ds.length with h | h
  · rw [Nat.min_eq_left h, List.take_of_length_le (by rw [List.length_drop]; exact Nat.le_refl _)]
  · rw [Nat.min_eq_right h, List.drop_eq_nil_of_le (Nat.le_refl _), List.drop_eq_nil_of_le h]; simp
theorem cut_mem {ds : List D} {lo hi : Option Int} {d : D} (h : d ∈ cutD ds lo hi) : d ∈ ds := List.mem_of_mem_drop (List.mem_of_mem_take h)
theorem cut_len (ds : List D) (lo hi : Option Int) : (cutD ds lo hi).length ≤ ds.length := by
  unfold cutD
  rw [List.length_take, List.length_drop]
  omega
theorem cut_2 (ds : List D) (a b : Nat) : cutD ds (some (a : Int)) (some (b : Int)) = (ds.drop a).take (b - a) := by
  unfold cutD
  rw [HT.sIx_nat, HT.sIx_nat]
  rcases Nat.le_total a ds.length with h | h
  · rw [Nat.min_eq_left h]
    rcases Nat.le_total b ds.length with h2 | h2
    · rw [Nat.min_eq_left h2]
    · rw [Nat.min_eq_right h2, List.take_of_length_le (by rw [List.length_drop]; exact Nat.le_refl _), List.take_of_length_le (by rw [List.length_drop]; omega)]
  · rw [Nat.min_eq_right h, List.drop_eq_nil_of_le (Nat.le_refl _), List.drop_eq_nil_of_le h]; simp
/-! ### sorted lists of texts -/
theorem perm_map {α β : Type} {f : α → β} {xs : List β} {ys : List α} (p : xs.Perm (ys.map f)) : ∃ zs : List α, zs.Perm ys ∧ xs = zs.map f := by
  have go : ∀ {xs ws : List β}, xs.Perm ws → ∀ M : List α, ws = M.map f → ∃ M' : List α, M'.Perm M ∧ xs = M'.map f := by
    intro xs ws h
    induction h with
    | nil => intro M e; exact ⟨M, .refl _, e⟩
    | cons x _ ih =>
      intro M e
      cases M with
      | nil => cases e
      | cons m M =>
        simp only [List.map_cons, List.cons.injEq] at e
        obtain ⟨M', q, e2⟩ := ih M e.2
        exact ⟨m :: M', q.cons m, by rw [List.map_cons, ← e.1, ← e2]⟩
    | swap x y l =>
      intro M e
      cases M with
      | nil => cases e
      | cons m M =>
        cases M with
        | nil => cases e
        | cons n M =>
          simp only [List.map_cons, List.cons.injEq] at e
          exact ⟨n :: m :: M, .swap m n M, by rw [List.map_cons, List.map_cons, ← e.1, ← e.2.1, ← e.2.2]⟩
    | trans _ _ ih1 ih2 =>
      intro M e
      obtain ⟨M1, q1, e1⟩ := ih2 M e
      obtain ⟨M2, q2, e2⟩ := ih1 M1 e1
      exact ⟨M2, q2.trans q1, e2⟩
  exact go p ys rfl
theorem sortD_perm (ds : List D) : (sortD ds).Perm ds := by rw [sortD_eq]; exact List.mergeSort_perm _ _
theorem sortOk_strs (xs : List Str) (h : xs.length ≤ 16777216) : sortOk (xs.map D.str) = true := by
  have a1 : isDs (xs.map D.str) = true := isDs_all.mpr fun d hd => by obtain ⟨x, _, rfl⟩ := List.mem_map.mp hd; rfl
  have a2 : alikes (xs.map D.str) = true := List.all_eq_true.mpr fun d hd => List.all_eq_true.mpr fun e he => by
    obtain ⟨x, _, rfl⟩ := List.mem_map.mp hd
    obtain ⟨y, _, rfl⟩ := List.mem_map.mp he
    rfl
  have a3 : (xs.map D.str).all notTup = true := List.all_eq_true.mpr fun d hd => by obtain ⟨x, _, rfl⟩ := List.mem_map.mp hd; rfl
  have a4 : ∀ ys : List Str, PyData.depthAll (pys (ys.map D.str)) = 0 := by
    intro ys
    induction ys with
    | nil => rfl
    | cons y ys ih => simp only [List.map_cons, pys, PyData.depthAll, ih]; rfl
  unfold sortOk shs fits
  rw [a1, a2, a3, a4]
  simp [h]
theorem sort_strs (xs : List Str) (h : xs.length ≤ 16777216) : ∃ zs : List Str, zs.Perm xs ∧ sortedF (.lst (xs.map D.str)) = some (.lst (zs.map D.str)) := by
  obtain ⟨zs, p, e⟩ := perm_map (f := D.str) (sortD_perm (xs.map D.str))
  refine ⟨zs, p, ?_⟩
  show (if sortOk (xs.map D.str) = true then some (D.lst (sortD (xs.map D.str))) else none) = _
  rw [if_pos (sortOk_strs xs h), e]
theorem of_strs : ∀ {ds : List D}, (∀ d ∈ ds, isTx d = true) → ∃ xs : List Str, ds = xs.map D.str
  | [], _ => ⟨[], rfl⟩
  | d :: ds, h => by
    obtain ⟨xs, e⟩ := of_strs fun x hx => h x (List.mem_cons_of_mem _ hx)
    have := h d List.mem_cons_self
    cases d <;> first | (simp [isTx] at this; done) | skip
    exact ⟨_ :: xs, by rw [List.map_cons, ← e]⟩
theorem ded_len : ∀ (ds acc : List D), (ds.foldl putF acc).length ≤ acc.length + ds.length
  | [], acc => by simp
  | d :: ds, acc => by
    rw [List.foldl_cons]
    have h1 := ded_len ds (putF acc d)
    have h2 : (putF acc d).length ≤ acc.length + 1 := by
      unfold putF
      split
      · split
        · omega
        · simp
      · omega
    simp only [List.length_cons]
    omega
theorem sortset_strs (xs : List Str) (h : xs.length < 4000) : ∃ zs : List Str, (∀ z ∈ zs, z ∈ xs) ∧ zs.length ≤ xs.length ∧ (∀ x ∈ xs, zs ≠ []) ∧ sortSetF (.lst (xs.map D.str)) = some (.lst (zs.map D.str)) := by
  have fl : flatS (xs.map D.str) = true := Bool.or_eq_true_iff.mpr (.inl (List.all_eq_true.mpr fun d hd => by obtain ⟨x, _, rfl⟩ := List.mem_map.mp hd; rfl))
  have hm : ∀ d ∈ dedD (xs.map D.str), d ∈ xs.map D.str := fun d hd => by
    rcases ded_sub hd with z | z
    · cases z
    · exact z
  obtain ⟨ys, ey⟩ := of_strs (ds := dedD (xs.map D.str)) fun d hd => by obtain ⟨x, _, rfl⟩ := List.mem_map.mp (hm d hd); rfl
  have ly : ys.length ≤ xs.length := by
    have := ded_len (xs.map D.str) []
    have e2 : (dedD (xs.map D.str)).length = ys.length := by rw [ey, List.length_map]
    unfold dedD at e2
    rw [e2] at this
    simpa using this
  have l2 : ys.length ≤ 16777216 := by omega
  have so : sortOk (dedD (xs.map D.str)) = true := by
    have := sortOk_strs ys l2
    rw [← ey] at this
    exact this
  have pp : (sortD (dedD (xs.map D.str))).Perm (ys.map D.str) := by
    have := sortD_perm (dedD (xs.map D.str))
    rw [← ey]
    exact this
  obtain ⟨zs, p, e⟩ := perm_map (f := D.str) (ys := ys) pp
  refine ⟨zs, fun z hz => ?_, by rw [p.length_eq]; exact ly, fun x hx hz => ?_, ?_⟩
  · have h1 : D.str z ∈ dedD (xs.map D.str) := by rw [ey]; exact List.mem_map_of_mem (p.mem_iff.mp hz)
    obtain ⟨x, hx, e⟩ := List.mem_map.mp (hm _ h1)
    cases e
    exact hx
  · subst hz
    have e0 : ys = [] := p.symm.eq_nil
    rw [e0] at ey
    cases xs with
    | nil => cases hx
    | cons a as =>
      have hin : ∀ (ds acc : List D), acc ≠ [] → ds.foldl putF acc ≠ [] := by
        intro ds
        induction ds with
        | nil => intro acc h; exact h
        | cons d ds ih =>
          intro acc h
          rw [List.foldl_cons]
          refine ih _ ?_
          unfold putF
          split
          · split
            · exact h
            · simp
          · exact h
      exact hin (as.map D.str) [.str a] (by simp) ey
  · show (if (flatS (xs.map D.str) && decide ((xs.map D.str).length < 4000) && sortOk (dedD (xs.map D.str))) = true then some (D.lst (sortD (dedD (xs.map D.str)))) else none) = _
    rw [if_pos (by simp only [fl, so, List.length_map, decide_eq_true h, Bool.and_self]), e]
end Z

namespace Z
open PySem PySem.Spec PyProof.Rows L2 LamX
set_option autoImplicit false
/-! ### a list, a tuple, times an int -/
def repD (n : Nat) (ds : List D) : List D := (List.replicate n ds).flatten
theorem repD_rel {T : Wd} {ι : List Addr} {bar : Addr → Prop} {H : Hp} {ds : List D} {vs : List V} (r : RelDs T ι bar H ds vs) : ∀ n : Nat, RelDs T ι bar H (repD n ds) (List.replicate n vs).flatten
  | 0 => .nil
  | n + 1 => by
    show RelDs T ι bar H ((List.replicate (n + 1) ds).flatten) _
    rw [List.replicate_succ, List.replicate_succ, List.flatten_cons, List.flatten_cons]
    exact r.append (repD_rel r n)
theorem rep_len {α : Type} (xs : List α) (n : Nat) : (List.replicate n xs).flatten.length = n * xs.length := by
  induction n with
  | zero => simp
  | succ n ih => rw [List.replicate_succ, List.flatten_cons, List.length_append, ih, Nat.add_mul]; omega
def mulO2 (d e : D) : Option D := match d, e with
  | .lst ds, .int k => if decide (0 ≤ k) && decide (k ≤ 1000) && decide (ds.length ≤ 1000) then some (.lst (repD k.toNat ds)) else none
  | .tup ds, .int k => if decide (2 ≤ k) && decide (k ≤ 1000) && decide (ds.length ≤ 1000) && !ds.isEmpty then some (.tup (repD k.toNat ds)) else none
  | d, e => mulO d e
section
variable {T : Wd} {X : Cx}
theorem rep_list {pins : List (Addr × Obj)} {σ : L2.St} {H : Hp} {s : Shared} {l : Addr} {k : Int} {xs : List V} {v u : Value} {Q : VK} (I : L2.Inv X pins σ H s) (rx : L2.RelV (.ref l) v) (ry : L2.RelV (.int k) u) (hH : Rd H l (.lst xs)) (h1 : 0 ≤ k) (h2 : k ≤ 1000) (hz : xs.length ≤ 1000)
    (q : ∀ p, H p = none → Q (.ref p) (upd H p (.lst (List.replicate k.toNat xs).flatten))) : wpAny (model X.prog X.w) X.A (binaryOp .Mult v u) (L2.EP X pins σ Q) X.xe s := by
  cases rx
  obtain ⟨t, rfl⟩ := ry
  obtain ⟨z, its, n, r, e⟩ := hH.ok I.hok
  have hl := r.length
  have hsz : xs.length * k.toNat ≤ sizeLine := by
    have a1 : xs.length * k.toNat ≤ 1000 * 1000 := Nat.mul_le_mul hz (by omega)
    rw [sizeLine_eq]
    omega
  have hlen : its.toArray.size * k.toNat ≤ sizeLine := by rw [List.size_toArray, ← hl]; exact hsz
  have hcap : ¬ its.toArray.size * k.toNat > (2 ^ 63 - 1) / 8 := by
    have : (sizeLine : Nat) ≤ (2 ^ 63 - 1) / 8 := by decide
    omega
  have hfit : ¬ (!Builtin.List.listFitsIndex k) = true := by
    rw [fitsIndex_both (by omega) (by omega)]
    exact Bool.false_ne_true
  have hlong : ¬ Builtin.List.listTooLong (its.toArray.size * k.toNat) = true := by
    rw [notLongL hlen]
    exact Bool.false_ne_true
  have new : List.foldl (fun p q => p ++ q) #[] (List.replicate (if its.toArray.isEmpty = true then 0 else k.toNat) its.toArray) = (List.replicate k.toNat its).flatten.toArray := by
    have f0 : ∀ m : Nat, List.foldl (fun p q => p ++ q) #[] (List.replicate m its.toArray) = (List.replicate m its).flatten.toArray := fun m => by
      have := foldl_rep its m []
      rw [List.nil_append] at this
      exact this
    rw [f0]
    cases its with
    | nil => simp
    | cons a r' => rw [if_neg (by simp)]
  refine wpAny_binaryOp_repeat_ref (T := "list") (U := "int") (by decide) ⟨_, e, rfl⟩ (fun s2 => typeIs_int s2 k t) noFill_list_mul PySem.F.fills_int_mul PySem.F.slot_int_rmul repeat_list PySem.F.slot_int_index.lookup
    (call_meets PySem.F.slot_int_rmul (typeIs_int s k t) PySem.F.entry_int_rmul (PySem.F.args_int_rmul_2 _ _) (int___rmul___int_list k t l its.toArray n)
      ⟨e, rfl, ⟨_, e, rfl⟩, call_meets PySem.F.slot_list_mul ⟨_, e, rfl⟩ PySem.F.entry_list_mul (PySem.F.args_list_mul_2 _ _) (AutoListH.list___mul___list_int_3 l its.toArray n k t hfit hcap hlong) ⟨e, ?_⟩⟩)
  rw [new]
  exact ⟨.ref _, _, I.lnew (t' := s.toks) (r.rep k.toNat) (by rw [rep_len, Nat.mul_comm]; exact hsz), rfl, q _ I.fresh⟩
theorem od_mul2 (ok : Ok T X) : OpD T X (binaryOp .Mult) mulO2 := by
  intro pins s σ H x y v u Q I rx ry ⟨ι, bar, d, e, r, hb, hi, rd, re, hk, q⟩
  by_cases c1 : ∃ ds k, d = .lst ds ∧ e = .int k
  · obtain ⟨ds, k, rfl, rfl⟩ := c1
    have hk : (if (decide (0 ≤ k) && decide (k ≤ 1000) && decide (ds.length ≤ 1000)) = true then some (D.lst (repD k.toNat ds)) else none) = some r := hk
    split at hk
    · rename_i hc
      cases hk
      simp only [Bool.and_eq_true, decide_eq_true_eq] at hc
      obtain ⟨a, vs, rfl, hr, rs⟩ := rd.lst
      obtain rfl := re.int
      refine rep_list I rx ry hr hc.1.1 hc.1.2 (by rw [rs.length]; exact hc.2) fun p hp => ?_
      exact q _ _ (same_upd hp) (RelD.newLst hb hi hp (repD_rel rs _))
    · cases hk
  · by_cases c2 : ∃ ds k, d = .tup ds ∧ e = .int k
    · obtain ⟨ds, k, rfl, rfl⟩ := c2
      have hk : (if (decide (2 ≤ k) && decide (k ≤ 1000) && decide (ds.length ≤ 1000) && !ds.isEmpty) = true then some (D.tup (repD k.toNat ds)) else none) = some r := hk
      split at hk
      · rename_i hc
        cases hk
        simp only [Bool.and_eq_true, decide_eq_true_eq, Bool.not_eq_true'] at hc
        obtain ⟨a, vs, rfl, h1, rs⟩ := rd.tup
        obtain rfl := re.int
        rw [← ok.K] at h1
        refine op_repT pins s σ H _ _ v u Q I rx ry ⟨a, k, vs, rfl, rfl, h1, fun z => ?_, hc.1.1.1, hc.1.1.2, by rw [rs.length]; exact hc.1.2, fun p hp => ?_⟩
        · have := rs.length
          rw [z] at this
          cases ds with
          | nil => simp at hc
          | cons _ _ => simp at this
        · exact q _ _ (same_upd hp) (RelD.newTup hi hp (repD_rel rs _))
      · cases hk
    · refine od_mul pins s σ H x y v u Q I rx ry ⟨ι, bar, d, e, r, hb, hi, rd, re, ?_, q⟩
      unfold mulO2 at hk
      split at hk
      · exact absurd ⟨_, _, rfl, rfl⟩ c1
      · exact absurd ⟨_, _, rfl, rfl⟩ c2
      · exact hk
end
end Z

namespace Z
open PySem PySem.Spec PyProof.Rows L2 LamX
set_option autoImplicit false
/-! ### tuples of texts in the module -/
def strsB : List Str → List Value → Bool
  | [], [] => true
  | x :: xs, .str y _ :: vs => decide (y = x) && strsB xs vs
  | _, _ => false
def tupO (xs : List Str) : Option Obj → Bool
  | some ⟨c, _, .seq its _, _⟩ => decide (c = .type "tuple") && (decide (its.size ≤ 1000) && strsB xs its.toList)
  | _ => false
def tupB (K : PySem.W.Frag) (p : Str × List Str) : Bool := He.eqO (PySem.W.nsIn K mainGlobals p.1) (some (some (.ref (He.ga K p.1)))) && tupO p.2 (K.lookup (He.ga K p.1))
theorem strsB_ok {T : Wd} {ι : List Addr} {bar : Addr → Prop} {H : Hp} : ∀ {xs : List Str} {vs : List Value}, strsB xs vs = true → Vals (xs.map V.str) vs ∧ RelDs T ι bar H (xs.map D.str) (xs.map V.str)
  | [], [], _ => ⟨.nil, .nil⟩
  | [], _ :: _, h => by cases h
  | x :: xs, [], h => by cases h
  | x :: xs, v :: vs, h => by
    cases v with
    | str y t =>
      obtain ⟨h1, h2⟩ := He.ba h
      have e := of_decide_eq_true h1
      subst e
      obtain ⟨a, b⟩ := strsB_ok (T := T) (ι := ι) (bar := bar) (H := H) h2
      exact ⟨.cons ⟨t, rfl⟩ a, .cons (by simp only [RelD]) b⟩
    | _ => cases h
theorem tupB_ok {T : Wd} {p : Str × List Str} (h : tupB T.K p = true) : PySem.W.nsIn T.K mainGlobals p.1 = some (some (.ref (He.ga T.K p.1))) ∧ ∀ ι bar H, RelD T ι bar H (.tup (p.2.map D.str)) (.ref (He.ga T.K p.1)) := by
  obtain ⟨h1, h2⟩ := He.ba h
  refine ⟨He.eqO_ok h1, fun ι bar H => ?_⟩
  unfold tupO at h2
  split at h2
  · rename_i c dd its n sl e
    obtain ⟨h3, h4⟩ := He.ba h2
    obtain ⟨h5, h6⟩ := He.ba h4
    have h3 := of_decide_eq_true h3
    have h5 := of_decide_eq_true h5
    subst h3
    obtain ⟨a, b⟩ := strsB_ok (T := T) (ι := ι) (bar := bar) (H := H) h6
    simp only [RelD]
    exact ⟨_, _, rfl, .inr ⟨_, its, n, e, rfl, rfl, Nat.le_trans h5 (by decide), a⟩, b⟩
  · cases h2
section
variable {T : Wd} {W : WX} {X : Cx}
theorem ee_gtup {x : Str} {a : Addr} {d : D} {pos : Pos} (hg : Gl X x) (hm : X.mg x = some (.ref a)) (hd : ∀ ι bar H, RelD T ι bar H d (.ref a)) (hdb : (x == ("__debug__" : Str)) = false := by decide) : EE T W X (.Name x pos) (mC d) :=
  ee_glob hg hm (v := .ref a) rfl hd hdb
end
end Z

namespace Z
open PySem PySem.Spec PyProof.Rows L2 LamX
set_option autoImplicit false
/-! ### l.index(x) where x is in l -/
theorem pys_len : ∀ ds : List D, (pys ds).length = ds.length
  | [] => rfl
  | d :: ds => by simp [pys, pys_len ds]
def plcD (d : D) : List D → Option Nat
  | [] => none
  | x :: xs => bif PyData.eqv (py x) (py d) then some 0 else (plcD d xs).map (· + 1)
theorem plcD_eq (d : D) : ∀ ds : List D, SeqAt.dataPlace (pys ds) (py d) = plcD d ds
  | [] => rfl
  | x :: xs => by
    have ih := plcD_eq d xs
    unfold SeqAt.dataPlace at ih ⊢
    rw [pys, List.findIdx?_cons, ih]
    show _ = (bif PyData.eqv (py x) (py d) then some 0 else (plcD d xs).map (· + 1))
    cases PyData.eqv (py x) (py d) <;> rfl
def whereF (d : D) (es : List D) : Option D := match d, es with
  | .lst ds, [e] => if isDs ds && isD e && (sh e || shs ds) && fits ds.length then (plcD e ds).map fun j => .int (j : Nat) else none
  | _, _ => none
section
variable {T : Wd} {W : WX} {X : Cx} {o e : Expr} {mo : Ev} {ma : EvL} {apos cpos : Pos}
theorem mt_where (ok : Ok T X) (rm : Rm X) : MtR X "list.index" (rM T whereF) := by
  intro pins s σ H x xs v us Q I rx rxs ⟨ι, bar, d, es, r, hb, hi, rd, re, hk, q⟩
  unfold whereF at hk
  split at hk
  · rename_i ds e
    split at hk
    · rename_i hc
      simp only [Bool.and_eq_true] at hc
      obtain ⟨⟨⟨h2, h1⟩, h3⟩, h5⟩ := hc
      obtain ⟨j, hj, hr⟩ := Option.map_eq_some_iff.mp hk
      rw [← plcD_eq] at hj
      obtain ⟨y, ys, rfl, re1, re2⟩ := re.uncons
      cases re2
      obtain ⟨u, rfl, ru⟩ := rxs.one
      obtain ⟨as, rE⟩ := re1.reads ok I ru h1
      obtain ⟨a, vs, rfl, hl, rs⟩ := rd.lst
      cases rx
      obtain ⟨its, rv, ⟨⟨cl, dd, da, sls⟩, n, ho, hc2, hdn, hdt⟩, hlen⟩ := I.list (.inl hl)
      simp only at hc2 hdt
      subst hc2 hdt
      obtain ⟨bs, rL⟩ := RelDs.reads ok I rs rv h2
      have rL : ReadsAll s.heap its.toArray.toList (pys ds) bs := by simpa using rL
      have pL := plains_of ds h2
      have hn : its.toArray.size = (pys ds).length := SeqAt.len_at rL
      obtain ⟨hjl, hit, hno⟩ := SeqAt.hit_at rL pL hj
      have hsz : j < 2 ^ 62 := by
        have h6 := of_decide_eq_true h5
        have h7 := pys_len ds
        omega
      refine call_meets PySem.F.slot_list_index ⟨_, ho, rfl⟩ PySem.F.entry_list_index (PySem.F.args_list_index_2 _ _) (SeqAt.list_indexAt _ _ n dd sls u _ j hjl (by omega) hit hno) ⟨ho, SeqAt.items_plain rL rE pL (plain_of e h1) (depth_in rm h3), ?_⟩
      subst hr
      exact ⟨.int (j : Nat), H, I.tok _, ⟨s.toks, rfl⟩, q _ _ (Same.refl H) (RelD.ofInt _)⟩
    · cases hk
  · cases hk
theorem ee_where (ok : Ok T X) (rm : Rm X) (ho : EW T W X o mo) (ha : EAs T W X [e] ma)
    (hbase : attributeBase o "index" X.env (eval o X.env) = eval o X.env := by rfl)
    (hfew : ((backTo cpos (starEach [e] X.env)).all (fun x => !x.1) && (backToKw cpos (keywordEach [] X.env)).all (fun x => x.1.isSome)
      && decide (([e] : List Expr).length + ([] : List Keyword).length + (if ([] : List Keyword).isEmpty then 0 else 1) < 30)) = true := by rfl)
    (hline : (apos.endLine == cpos.line) = true := by rfl) (hs : starEach [e] X.env = (false, eval e X.env) :: starEach [] X.env := by rfl) (hplain : (backTo cpos (starEach [] X.env)).any (·.1) = false := by rfl) :
    EE T W X (.Call (.Attribute o "index" apos) [e] [] cpos) (mMt isLst whereF mo ma) := ee_mt kd_L ty_L PySem.F.plainAttrs_list PySem.F.slot_list_index PySem.F.type_list_index (mt_where ok rm) ho ha hbase hfew hline hs hplain
end
end Z

set_option maxHeartbeats 0
namespace Z
open PySem PySem.Spec PyProof.Rows L2
set_option autoImplicit false
def top (i : Nat) : Stmt := PySem.Challenge.pw_zonebetween_k32_strangers_told.main.body.getD i (.Pass ⟨0, 0, 0, 0⟩)
abbrev st_next_by : Stmt := top 1
abbrev N_next_by : List Str := ["rule", "state", "given", "taken", "move"]
abbrev ps_next_by : List Str := ["rule", "state", "given", "taken"]
def m_next_by : Sm := (sRet (mDix (mDc (iV (mOp idxO (mOp idxO (mOp idxO (mV 0) (mC (.int 0))) (mV 1)) (mC (.int 2)))) [4] (gN 4) (elD mYes (mSl (mV 4) oNo (oIs (mC (.int 2)))) (mOp idxO (mV 4) (mC (.int 2))))) (mTup (mCons (mVs 2) (mCons (mVs 3) mNil)))))
def den_next_by : Den := denOf 5 m_next_by
abbrev st_silent_rule : Stmt := top 3
abbrev N_silent_rule : List Str := []
abbrev ps_silent_rule : List Str := []
def m_silent_rule : Sm := (sRet (mTup (mCons (mTup (mCons (mTup (mCons (mTup (mCons (mC (.str "none")) mNil)) (mCons (mTup (mCons (mC (.str "none")) mNil)) (mCons (mTup (mCons (mTup (mCons (mC (.str "none")) (mCons (mC (.str "none")) (mCons (mC (.int 0)) mNil)))) mNil)) mNil)))) mNil)) (mCons (mTup (mCons (mC (.str "none")) mNil)) mNil))))
def den_silent_rule : Den := denOf 0 m_silent_rule
abbrev st_numbered : Stmt := top 4
abbrev N_numbered : List Str := ["rule", "side", "pairs", "numbers", "state", "sign", "k"]
abbrev ps_numbered : List Str := ["rule", "side"]
def m_numbered : Sm := (sSeq (sSet 2 (mLc (iR1 (mCons (mUn lenO (mOp idxO (mV 0) (mC (.int 0)))) mNil)) [4, 5] (gN 4) (el2 mYes (iV (mOp idxO (mOp idxO (mOp idxO (mV 0) (mC (.int 0))) (mV 4)) (mV 1))) [5] (gN 5) (el1 mYes (mTup (mCons (mVs 4) (mCons (mVs 5) mNil)))))))
  (sSeq (sFzz 3 (sOw 3 (mLc (iR1 (mCons (mUn lenO (mOp idxO (mV 0) (mC (.int 0)))) mNil)) [4] (gN 4) (el1 mYes (mUn tupleO (mLc (iR1 (mCons (mUn lenO (mV 2)) mNil)) [6] (gN 6) (el1 (mB (mOp eqF (mOp idxO (mOp idxO (mV 2) (mV 6)) (mC (.int 0))) (mV 4))) (mVs 6))))))))
  (sRet (mTup (mCons (mVs 2) (mCons (mVs 3) mNil))))))
def den_numbered : Den := denOf 7 m_numbered
abbrev st_freest_giver : Stmt := top 5
abbrev N_freest_giver : List Str := ["rule", "pairs", "numbers", "stands", "state", "given", "moves", "taken"]
abbrev ps_freest_giver : List Str := ["rule"]
def m_freest_giver : Sm := (sSeq (sAsg (mCallB den_numbered 2 0 (gP [0, 1]) (mCons (mVs 0) (mCons (mC (.int 0)) mNil)) mNil) (gTp 2 (gCn (gN 1) (gCn (gN 2) gNl))))
  (sSeq (sOw 3 (mLst mNil))
  (sSeq (sFor (iV (mVs 1)) (gTp 2 (gCn (gN 4) (gCn (gN 5) gNl)))
  (sSeq (sFzz 6 (sOw 6 (mLc (iV (mOp idxO (mOp idxO (mOp idxO (mV 0) (mC (.int 0))) (mV 4)) (mC (.int 1)))) [7] (gN 7) (el1 mYes (mTup (mCons (mC (.str "none")) (mCons (mVs 7) (mCons (mOp idxO (mV 2) (mCallB den_next_by 4 0 (gP [0, 1, 2, 3]) (mCons (mVs 0) (mCons (mVs 4) (mCons (mVs 5) (mCons (mVs 7) mNil)))) mNil)) mNil))))))))
  (sApp 3 (mTup (mCons (mC (.str "none")) (mCons (mVs 5) (mCons (mTup mNil) (mCons (mUn tupleO (mV 6)) mNil))))))))
  (sRet (mTup (mCons (mOp idxO (mV 2) (mC (.int 0))) (mCons (mUn tupleO (mV 3)) mNil)))))))
def den_freest_giver : Den := denOf 8 m_freest_giver
abbrev st_freest_taker : Stmt := top 6
abbrev N_freest_taker : List Str := ["rule", "pairs", "numbers", "stands", "state", "taken", "moves", "given"]
abbrev ps_freest_taker : List Str := ["rule"]
def m_freest_taker : Sm := (sSeq (sAsg (mCallB den_numbered 2 0 (gP [0, 1]) (mCons (mVs 0) (mCons (mC (.int 1)) mNil)) mNil) (gTp 2 (gCn (gN 1) (gCn (gN 2) gNl))))
  (sSeq (sOw 3 (mLst mNil))
  (sSeq (sFor (iV (mVs 1)) (gTp 2 (gCn (gN 4) (gCn (gN 5) gNl)))
  (sSeq (sFzz 6 (sOw 6 (mLc (iV (mOp idxO (mOp idxO (mOp idxO (mV 0) (mC (.int 0))) (mV 4)) (mC (.int 0)))) [7] (gN 7) (el1 mYes (mTup (mCons (mVs 7) (mCons (mC (.str "none")) (mCons (mOp idxO (mV 2) (mCallB den_next_by 4 0 (gP [0, 1, 2, 3]) (mCons (mVs 0) (mCons (mVs 4) (mCons (mVs 7) (mCons (mVs 5) mNil)))) mNil)) mNil))))))))
  (sApp 3 (mTup (mCons (mVs 5) (mCons (mC (.str "none")) (mCons (mTup mNil) (mCons (mUn tupleO (mV 6)) mNil))))))))
  (sRet (mTup (mCons (mOp idxO (mV 2) (mC (.int 0))) (mCons (mUn tupleO (mV 3)) mNil)))))))
def den_freest_taker : Den := denOf 8 m_freest_taker
abbrev st__law_cross : Stmt := top 8
abbrev N__law_cross : List Str := ["_law_one", "_law_two", "_law_found", "_law_x", "_law_y"]
abbrev ps__law_cross : List Str := ["_law_one", "_law_two"]
def m__law_cross : Sm := (sSeq (sOw 2 (mLst mNil))
  (sSeq (sFor (iV (mVs 0)) (gN 3)
  (sExt 2 (mLc (iV (mVs 1)) [4] (gN 4) (el1 mYes (mTup (mCons (mVs 3) (mCons (mVs 4) mNil)))))))
  (sFrz 2 (sRet (mVs 2)))))
def den__law_cross : Den := denOf 5 m__law_cross
abbrev st__law_feed : Stmt := top 9
abbrev N__law_feed : List Str := ["_law_script", "_law_cell"]
abbrev ps__law_feed : List Str := ["_law_script"]
def m__law_feed : Sm := (sRet (mCellN [("cells", (mLc (iV (mSl (mV 0) oNo (oIs (mC (.int 63))))) [1] (gN 1) (el1 mYes (mUn intO (mV 1))))), ("next", (mC (.int 0))), ("left", (mC (.int 0))), ("drawn", (mC (.int 0)))]))
def den__law_feed : Den := denOf 2 m__law_feed
abbrev st__law_draw : Stmt := top 10
abbrev N__law_draw : List Str := ["_law_feed_here", "_law_many", "_law_figure", "_law_idx", "_law_cells", "_law_cell", "_law_mixed"]
abbrev ps__law_draw : List Str := ["_law_feed_here", "_law_many"]
def m__law_draw : Sm := (sSeq (sSetC (mV 0) "drawn" (mOp addO (mGetC (mV 0) "drawn") (mC (.int 1))))
  (sSeq (sIf (mB (mOp gtO (mGetC (mV 0) "left") (mC (.int 0))))
  (sSeq (sSet 2 (mOp modO (mUn intO (mGetC (mV 0) "left")) (mV 1)))
  (sSeq (sSetC (mV 0) "left" (mOp divO (mGetC (mV 0) "left") (mV 1)))
  (sRet (mVs 2))))
  sNx)
  (sSeq (sPar [3, 4] (fCons false (mGetC (mV 0) "next") (fCons false (mGetC (mV 0) "cells") fNil)))
  (sSeq (sSetC (mV 0) "next" (mOp addO (mV 3) (mC (.int 1))))
  (sSeq (sSet 5 (mIf (mB (mOp neF (mV 4) (mLst mNil))) (mOp idxO (mV 4) (mOp modO (mUn intO (mV 3)) (mUn lenO (mV 4)))) (mC (.int 3963))))
  (sSeq (sIf (mAnd (mB (mOp geO (mV 5) (mOp powO (mC (.int 10)) (mC (.int 18))))) (mB (mOp ltO (mV 3) (mUn lenO (mV 4)))))
  (sSeq (sSetC (mV 0) "left" (mOp divO (mV 5) (mV 1)))
  (sRet (mOp modO (mUn intO (mV 5)) (mV 1))))
  sNx)
  (sSeq (sSet 6 (mOp modO (mUn intO (mOp addO (mOp addO (mOp mulO2 (mOp modO (mUn intO (mV 5)) (mC (.int 998244353))) (mC (.int 5))) (mOp mulO2 (mC (.int 60425)) (mGetC (mV 0) "drawn"))) (mC (.int 570)))) (mC (.int 2147483629))))
  (sSeq (sSet 6 (mOp modO (mUn intO (mOp addO (mOp addO (mOp mulO2 (mV 6) (mV 6)) (mOp mulO2 (mC (.int 41225)) (mGetC (mV 0) "drawn"))) (mC (.int 406)))) (mC (.int 2147483543))))
  (sRet (mOp modO (mUn intO (mOp divO (mOp modO (mUn intO (mOp addO (mOp mulO2 (mV 6) (mV 6)) (mOp mulO2 (mC (.int 337)) (mV 6)))) (mC (.int 2147483059))) (mC (.int 32)))) (mV 1)))))))))))
def den__law_draw : Den := denOf 7 m__law_draw
abbrev st__law_pick : Stmt := top 11
abbrev N__law_pick : List Str := ["_law_feed_here", "_law_some"]
abbrev ps__law_pick : List Str := ["_law_feed_here", "_law_some"]
def m__law_pick : Sm := (sRet (mOp idxO (mV 1) (mCallB den__law_draw 2 0 (gP [0, 1]) (mCons (mVs 0) (mCons (mUn lenO (mV 1)) mNil)) mNil)))
def den__law_pick : Den := denOf 2 m__law_pick
abbrev st__law_signs : Stmt := top 12
abbrev N__law_signs : List Str := ["_law_feed_here", "_law_pools"]
abbrev ps__law_signs : List Str := ["_law_feed_here"]
def m__law_signs : Sm := (sSeq (sSet 1 (mLst (mCons (mLst (mCons (mC (.str "none")) (mCons (mC (.str "box")) (mCons (mC (.str "ready")) (mCons (mC (.str "wait")) mNil))))) (mCons (mLst (mCons (mC (.str "a")) (mCons (mC (.str "ab")) (mCons (mC (.str "b")) (mCons (mC (.str "ba")) mNil))))) (mCons (mLst (mCons (mC (.str "barred")) (mCons (mC (.str "held")) (mCons (mC (.str "up")) (mCons (mC (.str "down")) mNil))))) mNil)))))
  (sSeq (sSet 1 (mOp addO (mV 1) (mLst (mCons (mLst (mCons (mC (.str "zzzzzzzz")) (mCons (mC (.str "z")) (mCons (mC (.str "zz")) (mCons (mC (.str "y")) mNil))))) (mCons (mLst (mCons (mC (.str "shown")) (mCons (mC (.str "deaf")) (mCons (mC (.str "next")) (mCons (mC (.str "pairs")) mNil))))) (mCons (mLst (mCons (mC (.str "wait")) (mCons (mC (.str "ready")) (mCons (mC (.str "none")) (mCons (mC (.str "box")) mNil))))) mNil))))))
  (sRet (mCallB den__law_pick 2 0 (gP [0, 1]) (mCons (mVs 0) (mCons (mOp addO (mV 1) (mLst (mCons (mLst (mCons (mC (.str "none")) (mCons (mC (.str "box")) (mCons (mC (.str "ready")) (mCons (mC (.str "wait")) mNil))))) mNil))) mNil)) mNil))))
def den__law_signs : Den := denOf 2 m__law_signs
abbrev st__law_made : Stmt := top 13
abbrev N__law_made : List Str := ["_law_rows", "_law_ready", "_law_found", "_law_moves", "_law_givers", "_law_takers", "_law_one"]
abbrev ps__law_made : List Str := ["_law_rows", "_law_ready"]
def m__law_made : Sm := (sSeq (sOw 2 (mLst mNil))
  (sSeq (sFor (iV (mVs 0)) (gN 3)
  (sSeq (sPar [4, 5] (fCons false (mUn sortSetF (mLc (iV (mVs 3)) [6] (gN 6) (el1 mYes (mOp idxO (mV 6) (mC (.int 0)))))) (fCons false (mUn sortSetF (mLc (iV (mVs 3)) [6] (gN 6) (el1 mYes (mOp idxO (mV 6) (mC (.int 1)))))) fNil)))
  (sApp 2 (mTup (mCons (mUn tupleO (mV 4)) (mCons (mUn tupleO (mV 5)) (mCons (mUn tupleO (mUn sortedF (mV 3))) mNil)))))))
  (sRet (mTup (mCons (mUn tupleO (mV 2)) (mCons (mUn tupleO (mUn sortedF (mV 1))) mNil))))))
def den__law_made : Den := denOf 7 m__law_made
abbrev st__law_hand : Stmt := top 14
abbrev N__law_hand : List Str := ["_law_signs_here", "_law_n", "_law_b", "_law_r", "_law_w", "_law_free"]
abbrev ps__law_hand : List Str := ["_law_signs_here"]
def m__law_hand : Sm := (sSeq (sAsg (mVs 0) (gTp 4 (gCn (gN 1) (gCn (gN 2) (gCn (gN 3) (gCn (gN 4) gNl))))))
  (sSeq (sSet 5 (mLst (mCons (mTup (mCons (mVs 1) (mCons (mVs 3) (mCons (mC (.int 1)) mNil)))) (mCons (mTup (mCons (mVs 1) (mCons (mVs 4) (mCons (mC (.int 0)) mNil)))) mNil))))
  (sRet (mCallB den__law_made 2 0 (gP [0, 1]) (mCons (mLst (mCons (mVs 5) (mCons (mOp addO (mLst (mCons (mTup (mCons (mVs 2) (mCons (mVs 3) (mCons (mC (.int 0)) mNil)))) (mCons (mTup (mCons (mVs 2) (mCons (mVs 4) (mCons (mC (.int 0)) mNil)))) mNil))) (mV 5)) mNil))) (mCons (mLst (mCons (mVs 3) mNil)) mNil)) mNil))))
def den__law_hand : Den := denOf 6 m__law_hand
abbrev st__law_fence : Stmt := top 15
abbrev N__law_fence : List Str := []
abbrev ps__law_fence : List Str := []
def m__law_fence : Sm := (sRet (mCallB den__law_made 2 0 (gP [0, 1]) (mCons (mLst (mCons (mLst (mCons (mTup (mCons (mC (.str "none")) (mCons (mC (.str "none")) (mCons (mC (.int 0)) mNil)))) mNil)) mNil)) (mCons (mLst (mCons (mC (.str "none")) mNil)) mNil)) mNil))
def den__law_fence : Den := denOf 0 m__law_fence
abbrev st__law_hand_rules : Stmt := top 16
abbrev N__law_hand_rules : List Str := ["_law_signs_here", "_law_n", "_law_b", "_law_r", "_law_w", "_law_free", "_law_some"]
abbrev ps__law_hand_rules : List Str := ["_law_signs_here"]
def m__law_hand_rules : Sm := (sSeq (sAsg (mVs 0) (gTp 4 (gCn (gN 1) (gCn (gN 2) (gCn (gN 3) (gCn (gN 4) gNl))))))
  (sSeq (sPar [5, 6] (fCons false (mLst (mCons (mTup (mCons (mVs 1) (mCons (mVs 3) (mCons (mC (.int 1)) mNil)))) (mCons (mTup (mCons (mVs 1) (mCons (mVs 4) (mCons (mC (.int 0)) mNil)))) mNil))) (fCons true (mLst (mCons (mCallB den__law_hand 1 0 (gP [0]) (mCons (mVs 0) mNil) mNil) (mCons (mCallB den__law_hand 1 0 (gP [0]) (mCons (mVs 0) mNil) mNil) mNil))) fNil)))
  (sSeq (sApp 6 (mCallB den__law_made 2 0 (gP [0, 1]) (mCons (mLst (mCons (mLst (mCons (mTup (mCons (mVs 2) (mCons (mVs 3) (mCons (mC (.int 0)) mNil)))) (mCons (mTup (mCons (mVs 2) (mCons (mVs 4) (mCons (mC (.int 0)) mNil)))) (mCons (mTup (mCons (mVs 1) (mCons (mVs 3) (mCons (mC (.int 0)) mNil)))) (mCons (mTup (mCons (mVs 1) (mCons (mVs 4) (mCons (mC (.int 0)) mNil)))) mNil))))) mNil)) (mCons (mLst (mCons (mVs 3) mNil)) mNil)) mNil))
  (sSeq (sApp 6 (mCallB den__law_made 2 0 (gP [0, 1]) (mCons (mLst (mCons (mVs 5) (mCons (mOp addO (mLst (mCons (mTup (mCons (mVs 2) (mCons (mVs 3) (mCons (mC (.int 1)) mNil)))) (mCons (mTup (mCons (mVs 2) (mCons (mVs 4) (mCons (mC (.int 0)) mNil)))) mNil))) (mV 5)) mNil))) (mCons (mLst (mCons (mVs 3) mNil)) mNil)) mNil))
  (sSeq (sApp 6 (mCallB den__law_made 2 0 (gP [0, 1]) (mCons (mLst (mCons (mLst (mCons (mTup (mCons (mVs 1) (mCons (mVs 3) (mCons (mC (.int 1)) mNil)))) mNil)) (mCons (mLst (mCons (mTup (mCons (mVs 1) (mCons (mVs 4) (mCons (mC (.int 0)) mNil)))) mNil)) mNil))) (mCons (mLst (mCons (mVs 3) mNil)) mNil)) mNil))
  (sSeq (sApp 6 (mCallB den__law_made 2 0 (gP [0, 1]) (mCons (mLst (mCons (mLst (mCons (mTup (mCons (mVs 1) (mCons (mVs 3) (mCons (mC (.int 0)) mNil)))) (mCons (mTup (mCons (mVs 1) (mCons (mVs 4) (mCons (mC (.int 0)) mNil)))) mNil))) mNil)) (mCons (mLst (mCons (mVs 4) (mCons (mVs 3) mNil))) mNil)) mNil))
  (sRet (mOp addO (mV 6) (mLst (mCons (mCallB den__law_made 2 0 (gP [0, 1]) (mCons (mLst (mCons (mLst (mCons (mTup (mCons (mVs 1) (mCons (mVs 3) (mCons (mC (.int 1)) mNil)))) (mCons (mTup (mCons (mVs 1) (mCons (mVs 4) (mCons (mC (.int 0)) mNil)))) mNil))) (mCons (mLst (mCons (mTup (mCons (mVs 2) (mCons (mVs 3) (mCons (mC (.int 2)) mNil)))) (mCons (mTup (mCons (mVs 2) (mCons (mVs 4) (mCons (mC (.int 0)) mNil)))) mNil))) (mCons (mLst (mCons (mTup (mCons (mVs 1) (mCons (mVs 4) (mCons (mC (.int 0)) mNil)))) mNil)) (mCons (mLst (mCons (mTup (mCons (mVs 2) (mCons (mVs 3) (mCons (mC (.int 3)) mNil)))) mNil)) mNil))))) (mCons (mLst (mCons (mVs 3) mNil)) mNil)) mNil) mNil))))))))))
def den__law_hand_rules : Den := denOf 7 m__law_hand_rules
abbrev st__law_rule : Stmt := top 17
abbrev N__law_rule : List Str := ["_law_feed_here", "_law_signs_here", "_law_rows", "_law_many", "_law_lap", "_law_givers", "_law_takers", "_law_d", "_law_u"]
abbrev ps__law_rule : List Str := ["_law_feed_here", "_law_signs_here"]
@[irreducible] def m__law_rule_3 : Sm := (sFrz 2 (sRet (mCallB den__law_made 2 0 (gP [0, 1]) (mCons (mVs 2) (mCons (mCallB den__law_pick 2 0 (gP [0, 1]) (mCons (mVs 0) (mCons (mLst (mCons (mSl (mV 1) (oIs (mC (.int 2))) (oIs (mC (.int 3)))) (mCons (mSl (mV 1) (oIs (mC (.int 2))) oNo) (mCons (mLst mNil) (mCons (mOp addO (mSl (mV 1) (oIs (mC (.int 3))) oNo) (mLst (mCons (mC (.str "never")) mNil))) mNil))))) mNil)) mNil) mNil)) mNil)))
@[irreducible] def m__law_rule_2 : Sm := (sSeq (sFor (iR1 (mCons (mVs 3) mNil)) (gN 4)
  (sSeq (sSet 5 (mCallB den__law_pick 2 0 (gP [0, 1]) (mCons (mVs 0) (mCons (mLst (mCons (mSl (mV 1) oNo (oIs (mC (.int 1)))) (mCons (mSl (mV 1) (oIs (mC (.int 1))) (oIs (mC (.int 2)))) (mCons (mSl (mV 1) oNo (oIs (mC (.int 2)))) (mCons (mSl (mV 1) oNo (oIs (mC (.int 2)))) mNil))))) mNil)) mNil))
  (sSeq (sSet 6 (mCallB den__law_pick 2 0 (gP [0, 1]) (mCons (mVs 0) (mCons (mLst (mCons (mSl (mV 1) (oIs (mC (.int 2))) (oIs (mC (.int 3)))) (mCons (mSl (mV 1) (oIs (mC (.int 3))) oNo) (mCons (mSl (mV 1) (oIs (mC (.int 2))) oNo) (mCons (mSl (mV 1) (oIs (mC (.int 2))) oNo) mNil))))) mNil)) mNil))
  (sApp 2 (mLc (iV (mCallB den__law_cross 2 0 (gP [0, 1]) (mCons (mVs 5) (mCons (mVs 6) mNil)) mNil)) [7, 8] (gTp 2 (gCn (gN 7) (gCn (gN 8) gNl))) (el1 mYes (mTup (mCons (mVs 7) (mCons (mVs 8) (mCons (mCallB den__law_draw 2 0 (gP [0, 1]) (mCons (mVs 0) (mCons (mVs 3) mNil)) mNil) mNil))))))))))
  m__law_rule_3)
@[irreducible] def m__law_rule_1 : Sm := (sSeq (sPar [2, 3] (fCons true (mLst mNil) (fCons false (mOp addO (mC (.int 1)) (mCallB den__law_draw 2 0 (gP [0, 1]) (mCons (mVs 0) (mCons (mC (.int 3)) mNil)) mNil)) fNil)))
  m__law_rule_2)
def m__law_rule : Sm := (sSeq (sIf (mB (mOp gtO (mCallB den__law_draw 2 0 (gP [0, 1]) (mCons (mVs 0) (mCons (mC (.int 3)) mNil)) mNil) (mC (.int 0))))
  (sRet (mCallB den__law_pick 2 0 (gP [0, 1]) (mCons (mVs 0) (mCons (mCallB den__law_hand_rules 1 0 (gP [0]) (mCons (mVs 1) mNil) mNil) mNil)) mNil))
  sNx)
  m__law_rule_1)
def den__law_rule : Den := denOf 9 m__law_rule
abbrev st__law_state : Stmt := top 18
abbrev N__law_state : List Str := ["_law_edge", "_law_q", "_law_d", "_law_u", "_law_move"]
abbrev ps__law_state : List Str := ["_law_edge", "_law_q", "_law_d", "_law_u"]
def m__law_state : Sm := (sRet (mOp idxO (mLc (iV (mOp idxO (mOp idxO (mOp idxO (mV 0) (mC (.int 0))) (mV 1)) (mC (.int 2)))) [4] (gN 4) (el1 (mB (mOp eqF (mSl (mV 4) oNo (oIs (mC (.int 2)))) (mTup (mCons (mVs 2) (mCons (mVs 3) mNil))))) (mOp idxO (mV 4) (mC (.int 2))))) (mC (.int 0))))
def den__law_state : Den := denOf 5 m__law_state
abbrev st__law_same : Stmt := top 19
abbrev N__law_same : List Str := ["_law_told", "_law_due"]
abbrev ps__law_same : List Str := ["_law_told", "_law_due"]
def m__law_same : Sm := (sRet (mOp eqF (mUn reprF (mV 0)) (mUn reprF (mV 1))))
def den__law_same : Den := denOf 2 m__law_same
abbrev st__law_stranger : Stmt := top 20
abbrev N__law_stranger : List Str := ["_law_edge", "_law_is_giver", "_law_keys", "_law_q", "_law_stands", "_law_sign", "_law_moves", "_law_heard", "_law_goal", "_law_nexts", "_law_signs_here", "_law_idx"]
abbrev ps__law_stranger : List Str := ["_law_edge", "_law_is_giver"]
@[irreducible] def m__law_stranger_4 : Sm := (sRet (mTup (mCons (mUn tupleO (mLc (iR1 (mCons (mUn lenO (mV 2)) mNil)) [11] (gN 11) (el1 (mB (mOp eqF (mOp idxO (mOp idxO (mV 2) (mV 11)) (mC (.int 0))) (mC (.int 0)))) (mVs 11)))) (mCons (mUn tupleO (mV 4)) mNil))))
@[irreducible] def m__law_stranger_3 : Sm := (sSeq (sFor (iV (mVs 2)) (gTp 2 (gCn (gN 3) (gCn (gN 5) gNl)))
  (sSeq (sOw 6 (mLst mNil))
  (sSeq (sFor (iV (mOp idxO (mOp idxO (mOp idxO (mV 0) (mC (.int 0))) (mV 3)) (mIf (mTr (mV 1)) (mC (.int 1)) (mC (.int 0))))) (gN 7)
  (sSeq (sSet 8 (mIf (mTr (mV 1)) (mCallB den__law_state 4 0 (gP [0, 1, 2, 3]) (mCons (mVs 0) (mCons (mVs 3) (mCons (mVs 5) (mCons (mVs 7) mNil)))) mNil) (mCallB den__law_state 4 0 (gP [0, 1, 2, 3]) (mCons (mVs 0) (mCons (mVs 3) (mCons (mVs 7) (mCons (mVs 5) mNil)))) mNil)))
  (sSeq (sSet 9 (mUn tupleO (mLc (iR1 (mCons (mUn lenO (mV 2)) mNil)) [11] (gN 11) (el1 (mB (mOp eqF (mOp idxO (mOp idxO (mV 2) (mV 11)) (mC (.int 0))) (mV 8))) (mVs 11)))))
  (sApp 6 (mIf (mTr (mV 1)) (mTup (mCons (mC (.str "none")) (mCons (mVs 7) (mCons (mVs 9) mNil)))) (mTup (mCons (mVs 7) (mCons (mC (.str "none")) (mCons (mVs 9) mNil)))))))))
  (sSeq (sSet 10 (mIf (mTr (mV 1)) (mTup (mCons (mC (.str "none")) (mCons (mVs 5) mNil))) (mTup (mCons (mVs 5) (mCons (mC (.str "none")) mNil)))))
  (sApp 4 (mOp addO (mV 10) (mTup (mCons (mTup mNil) (mCons (mUn tupleO (mUn sortedF (mV 6))) mNil)))))))))
  m__law_stranger_4)
@[irreducible] def m__law_stranger_2 : Sm := (sSeq (sOw 4 (mLst mNil))
  m__law_stranger_3)
@[irreducible] def m__law_stranger_1 : Sm := (sSeq (sFor (iR1 (mCons (mUn lenO (mOp idxO (mV 0) (mC (.int 0)))) mNil)) (gN 3)
  (sSet 2 (mOp addO (mV 2) (mLc (iV (mOp idxO (mOp idxO (mOp idxO (mV 0) (mC (.int 0))) (mV 3)) (mIf (mTr (mV 1)) (mC (.int 0)) (mC (.int 1))))) [5] (gN 5) (el1 mYes (mTup (mCons (mVs 3) (mCons (mVs 5) mNil))))))))
  m__law_stranger_2)
def m__law_stranger : Sm := (sSeq (sSet 2 (mLst mNil))
  m__law_stranger_1)
def den__law_stranger : Den := denOf 12 m__law_stranger
abbrev st__law_grand : Stmt := top 21
abbrev N__law_grand : List Str := ["_law_rows", "_law_q", "_law_pairs", "_law_pair"]
abbrev ps__law_grand : List Str := []
def m__law_grand : Sm := (sSeq (sOw 0 (mLst mNil))
  (sSeq (sFor (iR1 (mCons (mC (.int 12)) mNil)) (gN 1)
  (sSeq (sSet 2 (mCallB den__law_cross 2 0 (gP [0, 1]) (mCons (mLst (mCons (mC (.str "a")) (mCons (mC (.str "b")) (mCons (mC (.str "c")) mNil)))) (mCons (mLst (mCons (mC (.str "x")) (mCons (mC (.str "y")) (mCons (mC (.str "z")) mNil)))) mNil)) mNil))
  (sApp 0 (mLc (iV (mVs 2)) [3] (gN 3) (el1 mYes (mTup (mCons (mOp idxO (mV 3) (mC (.int 0))) (mCons (mOp idxO (mV 3) (mC (.int 1))) (mCons (mOp modO (mUn intO (mOp addO (mOp mulO2 (mV 1) (mC (.int 5))) (mOp mulO2 (mC (.int 7)) (mMt isLst whereF (mV 2) (mCons (mVs 3) mNil))))) (mC (.int 12))) mNil)))))))))
  (sFrz 0 (sRet (mCallB den__law_made 2 0 (gP [0, 1]) (mCons (mVs 0) (mCons (mLst (mCons (mC (.str "x")) (mCons (mC (.str "z")) mNil))) mNil)) mNil)))))
def den__law_grand : Den := denOf 4 m__law_grand
abbrev st__law_is_right : Stmt := top 22
abbrev N__law_is_right : List Str := ["_law_edge", "_law_kept", "_law_told", "_law_giver", "_law_taker"]
abbrev ps__law_is_right : List Str := ["_law_edge"]
@[irreducible] def m__law_is_right_3 : Sm := (sRet (mAndV (mCallB den__law_same 2 0 (gP [0, 1]) (mCons (mVs 2) (mCons (mLst (mCons (mVs 3) (mCons (mVs 4) (mCons (mVs 3) (mCons (mVs 4) mNil))))) mNil)) mNil) (mOp eqF (mUn reprF (mV 0)) (mV 1))))
@[irreducible] def m__law_is_right_2 : Sm := (sSeq (sPar [3, 4] (fCons false (mCallB den__law_stranger 2 0 (gP [0, 1]) (mCons (mVs 0) (mCons (mC (.bl true)) mNil)) mNil) (fCons false (mCallB den__law_stranger 2 0 (gP [0, 1]) (mCons (mVs 0) (mCons (mC (.bl false)) mNil)) mNil) fNil)))
  m__law_is_right_3)
@[irreducible] def m__law_is_right_1 : Sm := (sSeq (sSet 2 (mLst (mCons (mCallB den_freest_giver 1 0 (gP [0]) (mCons (mVs 0) mNil) mNil) (mCons (mCallB den_freest_taker 1 0 (gP [0]) (mCons (mVs 0) mNil) mNil) (mCons (mCallB den_freest_giver 0 1 (gP [0]) mNil (mCons (mVs 0) mNil)) (mCons (mCallB den_freest_taker 0 1 (gP [0]) mNil (mCons (mVs 0) mNil)) mNil))))))
  m__law_is_right_2)
def m__law_is_right : Sm := (sSeq (sSet 1 (mUn reprF (mV 0)))
  m__law_is_right_1)
def den__law_is_right : Den := denOf 5 m__law_is_right
abbrev st__law_by_hand : Stmt := top 23
abbrev N__law_by_hand : List Str := ["_law_edge", "_law_first", "_law_boxes", "_law_last", "_law_shown", "_law_stands", "_law_up", "_law_goal", "_law_back"]
abbrev ps__law_by_hand : List Str := []
@[irreducible] def m__law_by_hand_8 : Sm := (sRet (mCallB den__law_same 2 0 (gP [0, 1]) (mCons (mLst (mCons (mCallB den_freest_taker 1 0 (gP [0]) (mCons (mVs 0) mNil) mNil) (mCons (mCallB den_silent_rule 0 0 (gP []) mNil mNil) mNil))) (mCons (mLst (mCons (mTup (mCons (mTup (mCons (mC (.int 0)) (mCons (mC (.int 1)) mNil))) (mCons (mUn tupleO (mV 5)) mNil))) (mCons (mCallB den__law_fence 0 0 (gP []) mNil mNil) mNil))) mNil)) mNil))
@[irreducible] def m__law_by_hand_7 : Sm := (sSeq (sSet 5 (mOp addO (mV 5) (mLc (iV (mVs 4)) [6, 7, 8] (gTp 3 (gCn (gN 6) (gCn (gN 7) (gCn (gN 8) gNl)))) (el1 mYes (mTup (mCons (mVs 6) (mCons (mC (.str "none")) (mCons (mTup mNil) (mCons (mTup (mCons (mTup (mCons (mC (.str "box")) (mCons (mC (.str "none")) (mCons (mVs 8) mNil)))) (mCons (mTup (mCons (mC (.str "none")) (mCons (mC (.str "none")) (mCons (mVs 7) mNil)))) mNil))) mNil)))))))))
  m__law_by_hand_8)
@[irreducible] def m__law_by_hand_6 : Sm := (sSeq (sFzz 5 (sOw 5 (mLc (iV (mVs 4)) [6, 7, 8] (gTp 3 (gCn (gN 6) (gCn (gN 7) (gCn (gN 8) gNl)))) (el1 mYes (mTup (mCons (mVs 6) (mCons (mC (.str "none")) (mCons (mTup mNil) (mCons (mTup (mCons (mTup (mCons (mC (.str "none")) (mCons (mC (.str "none")) (mCons (mVs 7) mNil)))) mNil)) mNil)))))))))
  m__law_by_hand_7)
@[irreducible] def m__law_by_hand_5 : Sm := (sSeq (sSet 4 (mLst (mCons (mTup (mCons (mC (.str "ready")) (mCons (mTup (mCons (mC (.int 2)) (mCons (mC (.int 3)) mNil))) (mCons (mTup (mCons (mC (.int 0)) (mCons (mC (.int 1)) mNil))) mNil)))) (mCons (mTup (mCons (mC (.str "wait")) (mCons (mTup (mCons (mC (.int 0)) (mCons (mC (.int 1)) mNil))) (mCons (mTup (mCons (mC (.int 0)) (mCons (mC (.int 1)) mNil))) mNil)))) mNil))))
  m__law_by_hand_6)
@[irreducible] def m__law_by_hand_4 : Sm := (sSeq (sIf (mNot (mTr (mCallB den__law_same 2 0 (gP [0, 1]) (mCons (mCallB den_freest_giver 1 0 (gP [0]) (mCons (mVs 0) mNil) mNil) (mCons (mTup (mCons (mTup (mCons (mC (.int 0)) mNil)) (mCons (mTup (mCons (mVs 1) (mCons (mVs 2) (mCons (mVs 3) mNil)))) mNil))) mNil)) mNil)))
  (sRet (mC (.bl false)))
  sNx)
  m__law_by_hand_5)
@[irreducible] def m__law_by_hand_3 : Sm := (sSeq (sSet 3 (mTup (mCons (mC (.str "none")) (mCons (mC (.str "none")) (mCons (mTup mNil) (mCons (mTup (mCons (mTup (mCons (mC (.str "none")) (mCons (mC (.str "ready")) (mCons (mTup (mCons (mC (.int 1)) (mCons (mC (.int 2)) mNil))) mNil)))) (mCons (mTup (mCons (mC (.str "none")) (mCons (mC (.str "wait")) (mCons (mTup (mCons (mC (.int 0)) mNil)) mNil)))) mNil))) mNil))))))
  m__law_by_hand_4)
@[irreducible] def m__law_by_hand_2 : Sm := (sSeq (sSet 2 (mTup (mCons (mC (.str "none")) (mCons (mC (.str "box")) (mCons (mTup mNil) (mCons (mTup (mCons (mTup (mCons (mC (.str "none")) (mCons (mC (.str "ready")) (mCons (mTup (mCons (mC (.int 0)) mNil)) mNil)))) (mCons (mTup (mCons (mC (.str "none")) (mCons (mC (.str "wait")) (mCons (mTup (mCons (mC (.int 0)) mNil)) mNil)))) mNil))) mNil))))))
  m__law_by_hand_3)
@[irreducible] def m__law_by_hand_1 : Sm := (sSeq (sSet 1 (mTup (mCons (mC (.str "none")) (mCons (mC (.str "none")) (mCons (mTup mNil) (mCons (mTup (mCons (mTup (mCons (mC (.str "none")) (mCons (mC (.str "ready")) (mCons (mTup (mCons (mC (.int 1)) (mCons (mC (.int 2)) mNil))) mNil)))) (mCons (mTup (mCons (mC (.str "none")) (mCons (mC (.str "wait")) (mCons (mTup (mCons (mC (.int 0)) mNil)) mNil)))) mNil))) mNil))))))
  m__law_by_hand_2)
def m__law_by_hand : Sm := (sSeq (sSet 0 (mCallB den__law_hand 1 0 (gP [0]) (mCons (mLst (mCons (mC (.str "none")) (mCons (mC (.str "box")) (mCons (mC (.str "ready")) (mCons (mC (.str "wait")) mNil))))) mNil) mNil))
  m__law_by_hand_1)
def den__law_by_hand : Den := denOf 9 m__law_by_hand
abbrev st_law : Stmt := top 24
abbrev N_law : List Str := ["_law_script", "_law_feed_here", "_law_lap"]
abbrev ps_law : List Str := ["_law_script"]
def m_law_2 : Sm := (sRet (mAndV (mCallB den__law_by_hand 0 0 (gP []) mNil mNil) (mAndV (mCallB den__law_is_right 1 0 (gP [0]) (mCons (mCallB den__law_grand 0 0 (gP []) mNil mNil) mNil) mNil) (mCallB den__law_is_right 1 0 (gP [0]) (mCons (mCallB den_silent_rule 0 0 (gP []) mNil mNil) mNil) mNil))))
def m_law_1 : Sm := (sSeq (sFor (iR1 (mCons (mC (.int 5)) mNil)) (gN 2)
  (sIf (mNot (mTr (mCallB den__law_is_right 1 0 (gP [0]) (mCons (mCallB den__law_rule 2 0 (gP [0, 1]) (mCons (mVs 1) (mCons (mCallB den__law_signs 1 0 (gP [0]) (mCons (mVs 1) mNil) mNil) mNil)) mNil) mNil) mNil)))
  (sRet (mC (.bl false)))
  sNx))
  m_law_2)
def m_law : Sm := (sSeq (sSet 1 (mCallB den__law_feed 1 0 (gP [0]) (mCons (mVs 0) mNil) mNil))
  m_law_1)
def den_law : Den := denOf 3 m_law
def dd (x : Str) (st : Stmt) (dfl : List He.Dv) : He.DefD := ⟨(x, none), x, x, defArgs st, defBody st, defScope st, dfl, []⟩
def fn : List He.DefD := [dd "next_by" st_next_by [], dd "silent_rule" st_silent_rule [], dd "numbered" st_numbered [], dd "freest_giver" st_freest_giver [], dd "freest_taker" st_freest_taker [], dd "_law_cross" st__law_cross [], dd "_law_feed" st__law_feed [], dd "_law_draw" st__law_draw [], dd "_law_pick" st__law_pick [], dd "_law_signs" st__law_signs [], dd "_law_made" st__law_made [], dd "_law_hand" st__law_hand [], dd "_law_fence" st__law_fence [], dd "_law_hand_rules" st__law_hand_rules [], dd "_law_rule" st__law_rule [], dd "_law_state" st__law_state [], dd "_law_same" st__law_same [], dd "_law_stranger" st__law_stranger [], dd "_law_grand" st__law_grand [], dd "_law_is_right" st__law_is_right [], dd "_law_by_hand" st__law_by_hand [], dd "law" st_law []]
def fa : List He.Fa := [.glo "next_by", .glo "silent_rule", .glo "numbered", .glo "freest_giver", .glo "freest_taker", .glo "_law_cross", .glo "_law_feed", .glo "_law_draw", .glo "_law_pick", .glo "_law_signs", .glo "_law_made", .glo "_law_hand", .glo "_law_fence", .glo "_law_hand_rules", .glo "_law_rule", .glo "_law_state", .glo "_law_same", .glo "_law_stranger", .glo "_law_grand", .glo "_law_is_right", .glo "_law_by_hand", .glo "law", .free "int", .free "len", .free "range", .free "repr", .free "set", .free "sorted", .free "tuple"]
/-- what is known of the module -/
structure Kn (T : Wd) (h : Heap) (mg : Str → Option Value) : Prop where
  X : T.K.In h
  G : h.Ns mainGlobals mg
  c : He.SaysD fa fn T.K
section
variable {T : Wd} {h : Heap} {mg : Str → Option Value} {base : Heap}
theorem b_int_of (kn : Kn T h mg) : mg "int" = none := He.free_ok kn.X kn.G (kn.c.fact 22 (f := .free "int") rfl)
theorem b_len_of (kn : Kn T h mg) : mg "len" = none := He.free_ok kn.X kn.G (kn.c.fact 23 (f := .free "len") rfl)
theorem b_range_of (kn : Kn T h mg) : mg "range" = none := He.free_ok kn.X kn.G (kn.c.fact 24 (f := .free "range") rfl)
theorem b_repr_of (kn : Kn T h mg) : mg "repr" = none := He.free_ok kn.X kn.G (kn.c.fact 25 (f := .free "repr") rfl)
theorem b_set_of (kn : Kn T h mg) : mg "set" = none := He.free_ok kn.X kn.G (kn.c.fact 26 (f := .free "set") rfl)
theorem b_sorted_of (kn : Kn T h mg) : mg "sorted" = none := He.free_ok kn.X kn.G (kn.c.fact 27 (f := .free "sorted") rfl)
theorem b_tuple_of (kn : Kn T h mg) : mg "tuple" = none := He.free_ok kn.X kn.G (kn.c.fact 28 (f := .free "tuple") rfl)
theorem sc_next_by : FnScope N_next_by ps_next_by (defScope st_next_by) := ⟨rfl, rfl, rfl, by decide +kernel, rfl, by decide +kernel, by decide +kernel⟩
theorem ok_next_by (kn : Kn T h mg) (base : Heap) : ∃ fA fd, FunD T.K "next_by" "next_by" (defArgs st_next_by) (defBody st_next_by) (defScope st_next_by) [] [] fA fd ∧ FnN T mg base 1 "next_by" ps_next_by fA fd den_next_by := by
  obtain ⟨fd, F⟩ := kn.c.def_ 0 (d := dd "next_by" st_next_by []) rfl
  have S := sc_next_by
  refine ⟨_, fd, F, fn_den F S fun cdv A outer s H E dx ow => ?_, He.glo_ok kn.X kn.G (kn.c.fact 0 (f := .glo "next_by") rfl), F.kp⟩
  exact (sb_one (ss_ret (ee_dix dx.ok dx.rm (EE.weak (ee_dc dx.ok dx.rm dx.calm S.nd (EI.weak (ei_v dx.ok (ee_ix dx.ok (EE.weak (ee_ix dx.ok (EE.weak (ee_ix dx.ok (ew_v 0) (EE.weak ee_int))) (ew_v 1))) (EE.weak ee_int)))) [("move", 4)] (by rfl) (fun _ _ _ _ _ => (gt_name 4 S.nd)) (fun _ _ _ _ _ => ets_nil) (fun _ _ _ _ _ => (ee_sl dx.blk.ok (ew_v 4) eo_no (eo_is (EE.weak ee_int)))) (fun _ _ _ _ _ => (ee_ix dx.blk.ok (ew_v 4) (EE.weak ee_int))))) (ee_tup (eas_cons (ee_v 2) (eas_cons (ee_v 3) eas_nil))))))
theorem sc_silent_rule : FnScope N_silent_rule ps_silent_rule (defScope st_silent_rule) := ⟨rfl, rfl, rfl, by decide +kernel, rfl, by decide +kernel, by decide +kernel⟩
theorem ok_silent_rule (kn : Kn T h mg) (base : Heap) : ∃ fA fd, FunD T.K "silent_rule" "silent_rule" (defArgs st_silent_rule) (defBody st_silent_rule) (defScope st_silent_rule) [] [] fA fd ∧ FnN T mg base 1 "silent_rule" ps_silent_rule fA fd den_silent_rule := by
  obtain ⟨fd, F⟩ := kn.c.def_ 1 (d := dd "silent_rule" st_silent_rule []) rfl
  have S := sc_silent_rule
  refine ⟨_, fd, F, fn_den F S fun cdv A outer s H E dx ow => ?_, He.glo_ok kn.X kn.G (kn.c.fact 1 (f := .glo "silent_rule") rfl), F.kp⟩
  exact (sb_one (ss_ret (ee_tup (eas_cons (ee_tup (eas_cons (ee_tup (eas_cons (ee_tup (eas_cons ee_str eas_nil)) (eas_cons (ee_tup (eas_cons ee_str eas_nil)) (eas_cons (ee_tup (eas_cons (ee_tup (eas_cons ee_str (eas_cons ee_str (eas_cons ee_int eas_nil)))) eas_nil)) eas_nil)))) eas_nil)) (eas_cons (ee_tup (eas_cons ee_str eas_nil)) eas_nil)))))
theorem sc_numbered : FnScope N_numbered ps_numbered (defScope st_numbered) := ⟨rfl, rfl, rfl, by decide +kernel, rfl, by decide +kernel, by decide +kernel⟩
theorem ok_numbered (kn : Kn T h mg) (base : Heap) : ∃ fA fd, FunD T.K "numbered" "numbered" (defArgs st_numbered) (defBody st_numbered) (defScope st_numbered) [] [] fA fd ∧ FnN T mg base 1 "numbered" ps_numbered fA fd den_numbered := by
  have b_len := b_len_of kn
  have b_range := b_range_of kn
  have b_tuple := b_tuple_of kn
  obtain ⟨fd, F⟩ := kn.c.def_ 2 (d := dd "numbered" st_numbered []) rfl
  have S := sc_numbered
  refine ⟨_, fd, F, fn_den F S fun cdv A outer s H E dx ow => ?_, He.glo_ok kn.X kn.G (kn.c.fact 2 (f := .glo "numbered") rfl), F.kp⟩
  exact (sb_cons (ss_set 2 S.nd (EF.val (ef_lc2 dx.calm S.nd (EI.weak (ei_range1 (by rfl) b_range (eas_cons (ee_call1 (ud_len dx.ok) (EE.weak (ee_ix dx.ok (ew_v 0) (EE.weak ee_int))) (by rfl) b_len rfl) eas_nil))) [("state", 4), ("sign", 5)] [5] (by rfl) (fun _ _ _ _ _ => (gt_name 4 S.nd)) (fun _ _ _ _ _ => ets_nil) (fun _ _ _ _ _ => (ei_v dx.blk.ok (ee_ix dx.blk.ok (EE.weak (ee_ix dx.blk.ok (EE.weak (ee_ix dx.blk.ok (ew_v 0) (EE.weak ee_int))) (ew_v 4))) (ew_v 1)))) (fun _ _ _ _ _ => (gt_name 5 S.nd)) (fun _ _ _ _ _ => ets_nil) (fun _ _ _ _ _ => (ee_tup (eas_cons (ee_v 4) (eas_cons (ee_v 5) eas_nil)))))))
  (sb_cons (ss_fzz 3 (ss_lc 3 dx.calm S.nd (EI.weak (ei_range1 (by rfl) b_range (eas_cons (ee_call1 (ud_len dx.ok) (EE.weak (ee_ix dx.ok (ew_v 0) (EE.weak ee_int))) (by rfl) b_len rfl) eas_nil))) [("state", 4)] (by rfl) (fun _ _ _ _ _ => (gt_name 4 S.nd)) (fun _ _ _ _ _ => ets_nil) (fun _ _ _ _ _ => (ee_callT (ud_tuple dx.blk.ok) (EE.weak (EF.val (ef_lc dx.blk.calm S.nd (EI.weak (ei_range1 (by rfl) b_range (eas_cons (ee_call1 (ud_len dx.blk.ok) (ew_v 2) (by rfl) b_len rfl) eas_nil))) [("k", 6)] (by rfl) (fun _ _ _ _ _ => (gt_name 6 S.nd)) (fun _ _ _ _ _ => (pts_one (eb_cmp (od_eqF dx.blk.blk.ok dx.blk.blk.rm) (EE.weak (ee_ix dx.blk.blk.ok (EE.weak (ee_ix dx.blk.blk.ok (ew_v 2) (ew_v 6))) (EE.weak ee_int))) (ew_v 4)))) (fun _ _ _ _ _ => (ee_v 6))))) (by rfl) b_tuple rfl))))
  (sb_one (ss_ret (ee_tup (eas_cons (ee_v 2) (eas_cons (ee_v 3) eas_nil)))))))
theorem sc_freest_giver : FnScope N_freest_giver ps_freest_giver (defScope st_freest_giver) := ⟨rfl, rfl, rfl, by decide +kernel, rfl, by decide +kernel, by decide +kernel⟩
theorem ok_freest_giver (kn : Kn T h mg) (base : Heap) : ∃ fA fd, FunD T.K "freest_giver" "freest_giver" (defArgs st_freest_giver) (defBody st_freest_giver) (defScope st_freest_giver) [] [] fA fd ∧ FnN T mg base 2 "freest_giver" ps_freest_giver fA fd den_freest_giver := by
  have b_tuple := b_tuple_of kn
  obtain ⟨fA_numbered, fd_numbered, D_numbered, F_numbered⟩ := ok_numbered kn base
  obtain ⟨fA_next_by, fd_next_by, D_next_by, F_next_by⟩ := ok_next_by kn base
  have bd_numbered_2 := bd_plain (ps := ps_numbered) D_numbered 2 [] [0, 1] rfl rfl (fun _ _ _ _ _ _ us ws hu hw => match us, ws, hu, hw with | [_, _], [], _, _ => rfl)
  have bd_next_by_4 := bd_plain (ps := ps_next_by) D_next_by 4 [] [0, 1, 2, 3] rfl rfl (fun _ _ _ _ _ _ us ws hu hw => match us, ws, hu, hw with | [_, _, _, _], [], _, _ => rfl)
  obtain ⟨fd, F⟩ := kn.c.def_ 3 (d := dd "freest_giver" st_freest_giver []) rfl
  have S := sc_freest_giver
  refine ⟨_, fd, F, fn_den F S fun cdv A outer s H E dx ow => ?_, He.glo_ok kn.X kn.G (kn.c.fact 3 (f := .glo "freest_giver") rfl), F.kp⟩
  exact (sb_cons (ss_asg (ee_call (F_numbered.mono (by decide)) dx bd_numbered_2 (by rfl) (eas_cons (ee_v 0) (eas_cons ee_int eas_nil))) (gt_tup dx.calm dx.ok.K (gts_cons (gt_name 1 S.nd) (gts_cons (gt_name 2 S.nd) gts_nil))))
  (sb_cons (ss_own 3 S.nd (ef_lst eas_nil))
  (sb_cons (ss_for ow dx.calm (ei_v dx.ok (ee_v 1)) (gt_tup dx.calm dx.ok.K (gts_cons (gt_name 4 S.nd) (gts_cons (gt_name 5 S.nd) gts_nil)))
  (sb_cons (ss_fzz 6 (ss_lc 6 dx.calm S.nd (EI.weak (ei_v dx.ok (ee_ix dx.ok (EE.weak (ee_ix dx.ok (EE.weak (ee_ix dx.ok (ew_v 0) (EE.weak ee_int))) (ew_v 4))) (EE.weak ee_int)))) [("taken", 7)] (by rfl) (fun _ _ _ _ _ => (gt_name 7 S.nd)) (fun _ _ _ _ _ => ets_nil) (fun _ _ _ _ _ => (ee_tup (eas_cons ee_str (eas_cons (ee_v 7) (eas_cons (ee_ix dx.blk.ok (ew_v 2) (EE.weak (ee_call (F_next_by.mono (by decide)) dx.blk bd_next_by_4 (by rfl) (eas_cons (ee_v 0) (eas_cons (ee_v 4) (eas_cons (ee_v 5) (eas_cons (ee_v 7) eas_nil))))))) eas_nil)))))))
  (sb_one (ss_append 3 dx.ok (ee_tup (eas_cons ee_str (eas_cons (ee_v 5) (eas_cons (ee_tup eas_nil) (eas_cons (ee_callT (ud_tuple dx.ok) (ew_v 6) (by rfl) b_tuple rfl) eas_nil)))))))))
  (sb_one (ss_ret (ee_tup (eas_cons (ee_ix dx.ok (ew_v 2) (EE.weak ee_int)) (eas_cons (ee_callT (ud_tuple dx.ok) (ew_v 3) (by rfl) b_tuple rfl) eas_nil))))))))
theorem sc_freest_taker : FnScope N_freest_taker ps_freest_taker (defScope st_freest_taker) := ⟨rfl, rfl, rfl, by decide +kernel, rfl, by decide +kernel, by decide +kernel⟩
theorem ok_freest_taker (kn : Kn T h mg) (base : Heap) : ∃ fA fd, FunD T.K "freest_taker" "freest_taker" (defArgs st_freest_taker) (defBody st_freest_taker) (defScope st_freest_taker) [] [] fA fd ∧ FnN T mg base 2 "freest_taker" ps_freest_taker fA fd den_freest_taker := by
  have b_tuple := b_tuple_of kn
  obtain ⟨fA_numbered, fd_numbered, D_numbered, F_numbered⟩ := ok_numbered kn base
  obtain ⟨fA_next_by, fd_next_by, D_next_by, F_next_by⟩ := ok_next_by kn base
  have bd_numbered_2 := bd_plain (ps := ps_numbered) D_numbered 2 [] [0, 1] rfl rfl (fun _ _ _ _ _ _ us ws hu hw => match us, ws, hu, hw with | [_, _], [], _, _ => rfl)
  have bd_next_by_4 := bd_plain (ps := ps_next_by) D_next_by 4 [] [0, 1, 2, 3] rfl rfl (fun _ _ _ _ _ _ us ws hu hw => match us, ws, hu, hw with | [_, _, _, _], [], _, _ => rfl)
  obtain ⟨fd, F⟩ := kn.c.def_ 4 (d := dd "freest_taker" st_freest_taker []) rfl
  have S := sc_freest_taker
  refine ⟨_, fd, F, fn_den F S fun cdv A outer s H E dx ow => ?_, He.glo_ok kn.X kn.G (kn.c.fact 4 (f := .glo "freest_taker") rfl), F.kp⟩
  exact (sb_cons (ss_asg (ee_call (F_numbered.mono (by decide)) dx bd_numbered_2 (by rfl) (eas_cons (ee_v 0) (eas_cons ee_int eas_nil))) (gt_tup dx.calm dx.ok.K (gts_cons (gt_name 1 S.nd) (gts_cons (gt_name 2 S.nd) gts_nil))))
  (sb_cons (ss_own 3 S.nd (ef_lst eas_nil))
  (sb_cons (ss_for ow dx.calm (ei_v dx.ok (ee_v 1)) (gt_tup dx.calm dx.ok.K (gts_cons (gt_name 4 S.nd) (gts_cons (gt_name 5 S.nd) gts_nil)))
  (sb_cons (ss_fzz 6 (ss_lc 6 dx.calm S.nd (EI.weak (ei_v dx.ok (ee_ix dx.ok (EE.weak (ee_ix dx.ok (EE.weak (ee_ix dx.ok (ew_v 0) (EE.weak ee_int))) (ew_v 4))) (EE.weak ee_int)))) [("given", 7)] (by rfl) (fun _ _ _ _ _ => (gt_name 7 S.nd)) (fun _ _ _ _ _ => ets_nil) (fun _ _ _ _ _ => (ee_tup (eas_cons (ee_v 7) (eas_cons ee_str (eas_cons (ee_ix dx.blk.ok (ew_v 2) (EE.weak (ee_call (F_next_by.mono (by decide)) dx.blk bd_next_by_4 (by rfl) (eas_cons (ee_v 0) (eas_cons (ee_v 4) (eas_cons (ee_v 7) (eas_cons (ee_v 5) eas_nil))))))) eas_nil)))))))
  (sb_one (ss_append 3 dx.ok (ee_tup (eas_cons (ee_v 5) (eas_cons ee_str (eas_cons (ee_tup eas_nil) (eas_cons (ee_callT (ud_tuple dx.ok) (ew_v 6) (by rfl) b_tuple rfl) eas_nil)))))))))
  (sb_one (ss_ret (ee_tup (eas_cons (ee_ix dx.ok (ew_v 2) (EE.weak ee_int)) (eas_cons (ee_callT (ud_tuple dx.ok) (ew_v 3) (by rfl) b_tuple rfl) eas_nil))))))))
theorem sc__law_cross : FnScope N__law_cross ps__law_cross (defScope st__law_cross) := ⟨rfl, rfl, rfl, by decide +kernel, rfl, by decide +kernel, by decide +kernel⟩
theorem ok__law_cross (kn : Kn T h mg) (base : Heap) : ∃ fA fd, FunD T.K "_law_cross" "_law_cross" (defArgs st__law_cross) (defBody st__law_cross) (defScope st__law_cross) [] [] fA fd ∧ FnN T mg base 1 "_law_cross" ps__law_cross fA fd den__law_cross := by
  obtain ⟨fd, F⟩ := kn.c.def_ 5 (d := dd "_law_cross" st__law_cross []) rfl
  have S := sc__law_cross
  refine ⟨_, fd, F, fn_den F S fun cdv A outer s H E dx ow => ?_, He.glo_ok kn.X kn.G (kn.c.fact 5 (f := .glo "_law_cross") rfl), F.kp⟩
  exact (sb_cons (ss_own 2 S.nd (ef_lst eas_nil))
  (sb_cons (ss_for ow dx.calm (ei_v dx.ok (ee_v 0)) (gt_name 3 S.nd)
  (sb_one (ss_extend 2 dx.ok (EF.val (ef_lc dx.calm S.nd (EI.weak (ei_v dx.ok (ee_v 1))) [("_law_y", 4)] (by rfl) (fun _ _ _ _ _ => (gt_name 4 S.nd)) (fun _ _ _ _ _ => ets_nil) (fun _ _ _ _ _ => (ee_tup (eas_cons (ee_v 3) (eas_cons (ee_v 4) eas_nil)))))))))
  (sb_one (ss_frz 2 (ss_ret (ee_v 2))))))
theorem sc__law_feed : FnScope N__law_feed ps__law_feed (defScope st__law_feed) := ⟨rfl, rfl, rfl, by decide +kernel, rfl, by decide +kernel, by decide +kernel⟩
theorem ok__law_feed (kn : Kn T h mg) (base : Heap) : ∃ fA fd, FunD T.K "_law_feed" "_law_feed" (defArgs st__law_feed) (defBody st__law_feed) (defScope st__law_feed) [] [] fA fd ∧ FnN T mg base 1 "_law_feed" ps__law_feed fA fd den__law_feed := by
  have b_int := b_int_of kn
  obtain ⟨fd, F⟩ := kn.c.def_ 6 (d := dd "_law_feed" st__law_feed []) rfl
  have S := sc__law_feed
  refine ⟨_, fd, F, fn_den F S fun cdv A outer s H E dx ow => ?_, He.glo_ok kn.X kn.G (kn.c.fact 6 (f := .glo "_law_feed") rfl), F.kp⟩
  exact (sb_one (ss_ret (ee_cell (eps_cons (EF.val (ef_lc dx.calm S.nd (EI.weak (ei_v dx.ok (ee_sl dx.ok (ew_v 0) eo_no (eo_is (EE.weak ee_int))))) [("_law_cell", 1)] (by rfl) (fun _ _ _ _ _ => (gt_name 1 S.nd)) (fun _ _ _ _ _ => ets_nil) (fun _ _ _ _ _ => (ee_callT (ud_int) (ew_v 1) (by rfl) b_int rfl)))) (eps_cons ee_int (eps_cons ee_int (eps_cons ee_int eps_nil)))))))
theorem sc__law_draw : FnScope N__law_draw ps__law_draw (defScope st__law_draw) := ⟨rfl, rfl, rfl, by decide +kernel, rfl, by decide +kernel, by decide +kernel⟩
theorem ok__law_draw (kn : Kn T h mg) (base : Heap) : ∃ fA fd, FunD T.K "_law_draw" "_law_draw" (defArgs st__law_draw) (defBody st__law_draw) (defScope st__law_draw) [] [] fA fd ∧ FnN T mg base 1 "_law_draw" ps__law_draw fA fd den__law_draw := by
  have b_int := b_int_of kn
  have b_len := b_len_of kn
  obtain ⟨fd, F⟩ := kn.c.def_ 7 (d := dd "_law_draw" st__law_draw []) rfl
  have S := sc__law_draw
  refine ⟨_, fd, F, fn_den F S fun cdv A outer s H E dx ow => ?_, He.glo_ok kn.X kn.G (kn.c.fact 7 (f := .glo "_law_draw") rfl), F.kp⟩
  exact (sb_cons (ss_cset dx.rm (ew_v 0) (ee_bin (od_add dx.ok) (EE.weak (ee_cget dx.rm (ew_v 0))) (EE.weak ee_int)))
  (sb_cons (ss_if (eb_cmp (od_gt dx.ok dx.rm) (EE.weak (ee_cget dx.rm (ew_v 0))) (EE.weak ee_int))
  (sb_cons (ss_set 2 S.nd (ee_bin (od_mod) (EE.weak (ee_callT (ud_int) (EE.weak (ee_cget dx.rm (ew_v 0))) (by rfl) b_int rfl)) (ew_v 1)))
  (sb_cons (ss_cset dx.rm (ew_v 0) (ee_bin (od_div) (EE.weak (ee_cget dx.rm (ew_v 0))) (ew_v 1)))
  (sb_one (ss_ret (ee_v 2)))))
  sb_nil)
  (sb_cons (ss_par2 3 4 dx.calm S.nd (efs_val (ee_cget dx.rm (ew_v 0)) (efs_val (ee_cget dx.rm (ew_v 0)) efs_nil)))
  (sb_cons (ss_cset dx.rm (ew_v 0) (ee_bin (od_add dx.ok) (ew_v 3) (EE.weak ee_int)))
  (sb_cons (ss_set 5 S.nd (ee_if (eb_cmp (od_neF dx.ok dx.rm) (ew_v 4) (EE.weak (ee_lst eas_nil))) (ee_ix dx.ok (ew_v 4) (EE.weak (ee_bin (od_mod) (EE.weak (ee_callT (ud_int) (ew_v 3) (by rfl) b_int rfl)) (EE.weak (ee_call1 (ud_len dx.ok) (ew_v 4) (by rfl) b_len rfl))))) ee_int))
  (sb_cons (ss_if (eb_p (ep_and (eb_cmp (od_ge dx.ok dx.rm) (ew_v 5) (EE.weak (ee_bin (od_pow) (EE.weak ee_int) (EE.weak ee_int)))) (ep_and1 (eb_cmp (od_lt dx.ok dx.rm) (ew_v 3) (EE.weak (ee_call1 (ud_len dx.ok) (ew_v 4) (by rfl) b_len rfl))))))
  (sb_cons (ss_cset dx.rm (ew_v 0) (ee_bin (od_div) (ew_v 5) (ew_v 1)))
  (sb_one (ss_ret (ee_bin (od_mod) (EE.weak (ee_callT (ud_int) (ew_v 5) (by rfl) b_int rfl)) (ew_v 1)))))
  sb_nil)
  (sb_cons (ss_set 6 S.nd (ee_bin (od_mod) (EE.weak (ee_callT (ud_int) (EE.weak (ee_bin (od_add dx.ok) (EE.weak (ee_bin (od_add dx.ok) (EE.weak (ee_bin (od_mul2 dx.ok) (EE.weak (ee_bin (od_mod) (EE.weak (ee_callT (ud_int) (ew_v 5) (by rfl) b_int rfl)) (EE.weak ee_int))) (EE.weak ee_int))) (EE.weak (ee_bin (od_mul2 dx.ok) (EE.weak ee_int) (EE.weak (ee_cget dx.rm (ew_v 0))))))) (EE.weak ee_int))) (by rfl) b_int rfl)) (EE.weak ee_int)))
  (sb_cons (ss_set 6 S.nd (ee_bin (od_mod) (EE.weak (ee_callT (ud_int) (EE.weak (ee_bin (od_add dx.ok) (EE.weak (ee_bin (od_add dx.ok) (EE.weak (ee_bin (od_mul2 dx.ok) (ew_v 6) (ew_v 6))) (EE.weak (ee_bin (od_mul2 dx.ok) (EE.weak ee_int) (EE.weak (ee_cget dx.rm (ew_v 0))))))) (EE.weak ee_int))) (by rfl) b_int rfl)) (EE.weak ee_int)))
  (sb_one (ss_ret (ee_bin (od_mod) (EE.weak (ee_callT (ud_int) (EE.weak (ee_bin (od_div) (EE.weak (ee_bin (od_mod) (EE.weak (ee_callT (ud_int) (EE.weak (ee_bin (od_add dx.ok) (EE.weak (ee_bin (od_mul2 dx.ok) (ew_v 6) (ew_v 6))) (EE.weak (ee_bin (od_mul2 dx.ok) (EE.weak ee_int) (ew_v 6))))) (by rfl) b_int rfl)) (EE.weak ee_int))) (EE.weak ee_int))) (by rfl) b_int rfl)) (ew_v 1))))))))))))
theorem sc__law_pick : FnScope N__law_pick ps__law_pick (defScope st__law_pick) := ⟨rfl, rfl, rfl, by decide +kernel, rfl, by decide +kernel, by decide +kernel⟩
theorem ok__law_pick (kn : Kn T h mg) (base : Heap) : ∃ fA fd, FunD T.K "_law_pick" "_law_pick" (defArgs st__law_pick) (defBody st__law_pick) (defScope st__law_pick) [] [] fA fd ∧ FnN T mg base 2 "_law_pick" ps__law_pick fA fd den__law_pick := by
  have b_len := b_len_of kn
  obtain ⟨fA__law_draw, fd__law_draw, D__law_draw, F__law_draw⟩ := ok__law_draw kn base
  have bd__law_draw_2 := bd_plain (ps := ps__law_draw) D__law_draw 2 [] [0, 1] rfl rfl (fun _ _ _ _ _ _ us ws hu hw => match us, ws, hu, hw with | [_, _], [], _, _ => rfl)
  obtain ⟨fd, F⟩ := kn.c.def_ 8 (d := dd "_law_pick" st__law_pick []) rfl
  have S := sc__law_pick
  refine ⟨_, fd, F, fn_den F S fun cdv A outer s H E dx ow => ?_, He.glo_ok kn.X kn.G (kn.c.fact 8 (f := .glo "_law_pick") rfl), F.kp⟩
  exact (sb_one (ss_ret (ee_ix dx.ok (ew_v 1) (EE.weak (ee_call (F__law_draw.mono (by decide)) dx bd__law_draw_2 (by rfl) (eas_cons (ee_v 0) (eas_cons (ee_call1 (ud_len dx.ok) (ew_v 1) (by rfl) b_len rfl) eas_nil)))))))
theorem sc__law_signs : FnScope N__law_signs ps__law_signs (defScope st__law_signs) := ⟨rfl, rfl, rfl, by decide +kernel, rfl, by decide +kernel, by decide +kernel⟩
theorem ok__law_signs (kn : Kn T h mg) (base : Heap) : ∃ fA fd, FunD T.K "_law_signs" "_law_signs" (defArgs st__law_signs) (defBody st__law_signs) (defScope st__law_signs) [] [] fA fd ∧ FnN T mg base 3 "_law_signs" ps__law_signs fA fd den__law_signs := by
  obtain ⟨fA__law_pick, fd__law_pick, D__law_pick, F__law_pick⟩ := ok__law_pick kn base
  have bd__law_pick_2 := bd_plain (ps := ps__law_pick) D__law_pick 2 [] [0, 1] rfl rfl (fun _ _ _ _ _ _ us ws hu hw => match us, ws, hu, hw with | [_, _], [], _, _ => rfl)
  obtain ⟨fd, F⟩ := kn.c.def_ 9 (d := dd "_law_signs" st__law_signs []) rfl
  have S := sc__law_signs
  refine ⟨_, fd, F, fn_den F S fun cdv A outer s H E dx ow => ?_, He.glo_ok kn.X kn.G (kn.c.fact 9 (f := .glo "_law_signs") rfl), F.kp⟩
  exact (sb_cons (ss_set 1 S.nd (ee_lst (eas_cons (ee_lst (eas_cons ee_str (eas_cons ee_str (eas_cons ee_str (eas_cons ee_str eas_nil))))) (eas_cons (ee_lst (eas_cons ee_str (eas_cons ee_str (eas_cons ee_str (eas_cons ee_str eas_nil))))) (eas_cons (ee_lst (eas_cons ee_str (eas_cons ee_str (eas_cons ee_str (eas_cons ee_str eas_nil))))) eas_nil)))))
  (sb_cons (ss_set 1 S.nd (ee_bin (od_add dx.ok) (ew_v 1) (EE.weak (ee_lst (eas_cons (ee_lst (eas_cons ee_str (eas_cons ee_str (eas_cons ee_str (eas_cons ee_str eas_nil))))) (eas_cons (ee_lst (eas_cons ee_str (eas_cons ee_str (eas_cons ee_str (eas_cons ee_str eas_nil))))) (eas_cons (ee_lst (eas_cons ee_str (eas_cons ee_str (eas_cons ee_str (eas_cons ee_str eas_nil))))) eas_nil)))))))
  (sb_one (ss_ret (ee_call (F__law_pick.mono (by decide)) dx bd__law_pick_2 (by rfl) (eas_cons (ee_v 0) (eas_cons (ee_bin (od_add dx.ok) (ew_v 1) (EE.weak (ee_lst (eas_cons (ee_lst (eas_cons ee_str (eas_cons ee_str (eas_cons ee_str (eas_cons ee_str eas_nil))))) eas_nil)))) eas_nil)))))))
theorem sc__law_made : FnScope N__law_made ps__law_made (defScope st__law_made) := ⟨rfl, rfl, rfl, by decide +kernel, rfl, by decide +kernel, by decide +kernel⟩
theorem ok__law_made (kn : Kn T h mg) (base : Heap) : ∃ fA fd, FunD T.K "_law_made" "_law_made" (defArgs st__law_made) (defBody st__law_made) (defScope st__law_made) [] [] fA fd ∧ FnN T mg base 1 "_law_made" ps__law_made fA fd den__law_made := by
  have b_set := b_set_of kn
  have b_sorted := b_sorted_of kn
  have b_tuple := b_tuple_of kn
  obtain ⟨fd, F⟩ := kn.c.def_ 10 (d := dd "_law_made" st__law_made []) rfl
  have S := sc__law_made
  refine ⟨_, fd, F, fn_den F S fun cdv A outer s H E dx ow => ?_, He.glo_ok kn.X kn.G (kn.c.fact 10 (f := .glo "_law_made") rfl), F.kp⟩
  exact (sb_cons (ss_own 2 S.nd (ef_lst eas_nil))
  (sb_cons (ss_for ow dx.calm (ei_v dx.ok (ee_v 0)) (gt_name 3 S.nd)
  (sb_cons (ss_par2 4 5 dx.calm S.nd (efs_val (ee_sortset dx.ok dx.rm dx.calm (EE.weak (EF.val (ef_lc dx.calm S.nd (EI.weak (ei_v dx.ok (ee_v 3))) [("_law_one", 6)] (by rfl) (fun _ _ _ _ _ => (gt_name 6 S.nd)) (fun _ _ _ _ _ => ets_nil) (fun _ _ _ _ _ => (ee_ix dx.blk.ok (ew_v 6) (EE.weak ee_int)))))) (by rfl) b_sorted (by rfl) b_set) (efs_val (ee_sortset dx.ok dx.rm dx.calm (EE.weak (EF.val (ef_lc dx.calm S.nd (EI.weak (ei_v dx.ok (ee_v 3))) [("_law_one", 6)] (by rfl) (fun _ _ _ _ _ => (gt_name 6 S.nd)) (fun _ _ _ _ _ => ets_nil) (fun _ _ _ _ _ => (ee_ix dx.blk.ok (ew_v 6) (EE.weak ee_int)))))) (by rfl) b_sorted (by rfl) b_set) efs_nil)))
  (sb_one (ss_append 2 dx.ok (ee_tup (eas_cons (ee_callT (ud_tuple dx.ok) (ew_v 4) (by rfl) b_tuple rfl) (eas_cons (ee_callT (ud_tuple dx.ok) (ew_v 5) (by rfl) b_tuple rfl) (eas_cons (ee_callT (ud_tuple dx.ok) (EE.weak (ee_call1 (ud_sortedF dx.ok dx.rm) (ew_v 3) (by rfl) b_sorted rfl)) (by rfl) b_tuple rfl) eas_nil))))))))
  (sb_one (ss_ret (ee_tup (eas_cons (ee_callT (ud_tuple dx.ok) (ew_v 2) (by rfl) b_tuple rfl) (eas_cons (ee_callT (ud_tuple dx.ok) (EE.weak (ee_call1 (ud_sortedF dx.ok dx.rm) (ew_v 1) (by rfl) b_sorted rfl)) (by rfl) b_tuple rfl) eas_nil)))))))
theorem sc__law_hand : FnScope N__law_hand ps__law_hand (defScope st__law_hand) := ⟨rfl, rfl, rfl, by decide +kernel, rfl, by decide +kernel, by decide +kernel⟩
theorem ok__law_hand (kn : Kn T h mg) (base : Heap) : ∃ fA fd, FunD T.K "_law_hand" "_law_hand" (defArgs st__law_hand) (defBody st__law_hand) (defScope st__law_hand) [] [] fA fd ∧ FnN T mg base 2 "_law_hand" ps__law_hand fA fd den__law_hand := by
  obtain ⟨fA__law_made, fd__law_made, D__law_made, F__law_made⟩ := ok__law_made kn base
  have bd__law_made_2 := bd_plain (ps := ps__law_made) D__law_made 2 [] [0, 1] rfl rfl (fun _ _ _ _ _ _ us ws hu hw => match us, ws, hu, hw with | [_, _], [], _, _ => rfl)
  obtain ⟨fd, F⟩ := kn.c.def_ 11 (d := dd "_law_hand" st__law_hand []) rfl
  have S := sc__law_hand
  refine ⟨_, fd, F, fn_den F S fun cdv A outer s H E dx ow => ?_, He.glo_ok kn.X kn.G (kn.c.fact 11 (f := .glo "_law_hand") rfl), F.kp⟩
  exact (sb_cons (ss_asg (ee_v 0) (gt_tup dx.calm dx.ok.K (gts_cons (gt_name 1 S.nd) (gts_cons (gt_name 2 S.nd) (gts_cons (gt_name 3 S.nd) (gts_cons (gt_name 4 S.nd) gts_nil))))))
  (sb_cons (ss_set 5 S.nd (ee_lst (eas_cons (ee_tup (eas_cons (ee_v 1) (eas_cons (ee_v 3) (eas_cons ee_int eas_nil)))) (eas_cons (ee_tup (eas_cons (ee_v 1) (eas_cons (ee_v 4) (eas_cons ee_int eas_nil)))) eas_nil))))
  (sb_one (ss_ret (ee_call (F__law_made.mono (by decide)) dx bd__law_made_2 (by rfl) (eas_cons (ee_lst (eas_cons (ee_v 5) (eas_cons (ee_bin (od_add dx.ok) (EE.weak (ee_lst (eas_cons (ee_tup (eas_cons (ee_v 2) (eas_cons (ee_v 3) (eas_cons ee_int eas_nil)))) (eas_cons (ee_tup (eas_cons (ee_v 2) (eas_cons (ee_v 4) (eas_cons ee_int eas_nil)))) eas_nil)))) (ew_v 5)) eas_nil))) (eas_cons (ee_lst (eas_cons (ee_v 3) eas_nil)) eas_nil)))))))
theorem sc__law_fence : FnScope N__law_fence ps__law_fence (defScope st__law_fence) := ⟨rfl, rfl, rfl, by decide +kernel, rfl, by decide +kernel, by decide +kernel⟩
theorem ok__law_fence (kn : Kn T h mg) (base : Heap) : ∃ fA fd, FunD T.K "_law_fence" "_law_fence" (defArgs st__law_fence) (defBody st__law_fence) (defScope st__law_fence) [] [] fA fd ∧ FnN T mg base 2 "_law_fence" ps__law_fence fA fd den__law_fence := by
  obtain ⟨fA__law_made, fd__law_made, D__law_made, F__law_made⟩ := ok__law_made kn base
  have bd__law_made_2 := bd_plain (ps := ps__law_made) D__law_made 2 [] [0, 1] rfl rfl (fun _ _ _ _ _ _ us ws hu hw => match us, ws, hu, hw with | [_, _], [], _, _ => rfl)
  obtain ⟨fd, F⟩ := kn.c.def_ 12 (d := dd "_law_fence" st__law_fence []) rfl
  have S := sc__law_fence
  refine ⟨_, fd, F, fn_den F S fun cdv A outer s H E dx ow => ?_, He.glo_ok kn.X kn.G (kn.c.fact 12 (f := .glo "_law_fence") rfl), F.kp⟩
  exact (sb_one (ss_ret (ee_call (F__law_made.mono (by decide)) dx bd__law_made_2 (by rfl) (eas_cons (ee_lst (eas_cons (ee_lst (eas_cons (ee_tup (eas_cons ee_str (eas_cons ee_str (eas_cons ee_int eas_nil)))) eas_nil)) eas_nil)) (eas_cons (ee_lst (eas_cons ee_str eas_nil)) eas_nil)))))
theorem sc__law_hand_rules : FnScope N__law_hand_rules ps__law_hand_rules (defScope st__law_hand_rules) := ⟨rfl, rfl, rfl, by decide +kernel, rfl, by decide +kernel, by decide +kernel⟩
theorem ok__law_hand_rules (kn : Kn T h mg) (base : Heap) : ∃ fA fd, FunD T.K "_law_hand_rules" "_law_hand_rules" (defArgs st__law_hand_rules) (defBody st__law_hand_rules) (defScope st__law_hand_rules) [] [] fA fd ∧ FnN T mg base 3 "_law_hand_rules" ps__law_hand_rules fA fd den__law_hand_rules := by
  obtain ⟨fA__law_made, fd__law_made, D__law_made, F__law_made⟩ := ok__law_made kn base
  obtain ⟨fA__law_hand, fd__law_hand, D__law_hand, F__law_hand⟩ := ok__law_hand kn base
  have bd__law_hand_1 := bd_plain (ps := ps__law_hand) D__law_hand 1 [] [0] rfl rfl (fun _ _ _ _ _ _ us ws hu hw => match us, ws, hu, hw with | [_], [], _, _ => rfl)
  have bd__law_made_2 := bd_plain (ps := ps__law_made) D__law_made 2 [] [0, 1] rfl rfl (fun _ _ _ _ _ _ us ws hu hw => match us, ws, hu, hw with | [_, _], [], _, _ => rfl)
  obtain ⟨fd, F⟩ := kn.c.def_ 13 (d := dd "_law_hand_rules" st__law_hand_rules []) rfl
  have S := sc__law_hand_rules
  refine ⟨_, fd, F, fn_den F S fun cdv A outer s H E dx ow => ?_, He.glo_ok kn.X kn.G (kn.c.fact 13 (f := .glo "_law_hand_rules") rfl), F.kp⟩
  exact (sb_cons (ss_asg (ee_v 0) (gt_tup dx.calm dx.ok.K (gts_cons (gt_name 1 S.nd) (gts_cons (gt_name 2 S.nd) (gts_cons (gt_name 3 S.nd) (gts_cons (gt_name 4 S.nd) gts_nil))))))
  (sb_cons (ss_par2 5 6 dx.calm S.nd (efs_val (ee_lst (eas_cons (ee_tup (eas_cons (ee_v 1) (eas_cons (ee_v 3) (eas_cons ee_int eas_nil)))) (eas_cons (ee_tup (eas_cons (ee_v 1) (eas_cons (ee_v 4) (eas_cons ee_int eas_nil)))) eas_nil))) (efs_own (ef_lst (eas_cons (ee_call (F__law_hand.mono (by decide)) dx bd__law_hand_1 (by rfl) (eas_cons (ee_v 0) eas_nil)) (eas_cons (ee_call (F__law_hand.mono (by decide)) dx bd__law_hand_1 (by rfl) (eas_cons (ee_v 0) eas_nil)) eas_nil))) efs_nil)))
  (sb_cons (ss_append 6 dx.ok (ee_call (F__law_made.mono (by decide)) dx bd__law_made_2 (by rfl) (eas_cons (ee_lst (eas_cons (ee_lst (eas_cons (ee_tup (eas_cons (ee_v 2) (eas_cons (ee_v 3) (eas_cons ee_int eas_nil)))) (eas_cons (ee_tup (eas_cons (ee_v 2) (eas_cons (ee_v 4) (eas_cons ee_int eas_nil)))) (eas_cons (ee_tup (eas_cons (ee_v 1) (eas_cons (ee_v 3) (eas_cons ee_int eas_nil)))) (eas_cons (ee_tup (eas_cons (ee_v 1) (eas_cons (ee_v 4) (eas_cons ee_int eas_nil)))) eas_nil))))) eas_nil)) (eas_cons (ee_lst (eas_cons (ee_v 3) eas_nil)) eas_nil))))
  (sb_cons (ss_append 6 dx.ok (ee_call (F__law_made.mono (by decide)) dx bd__law_made_2 (by rfl) (eas_cons (ee_lst (eas_cons (ee_v 5) (eas_cons (ee_bin (od_add dx.ok) (EE.weak (ee_lst (eas_cons (ee_tup (eas_cons (ee_v 2) (eas_cons (ee_v 3) (eas_cons ee_int eas_nil)))) (eas_cons (ee_tup (eas_cons (ee_v 2) (eas_cons (ee_v 4) (eas_cons ee_int eas_nil)))) eas_nil)))) (ew_v 5)) eas_nil))) (eas_cons (ee_lst (eas_cons (ee_v 3) eas_nil)) eas_nil))))
  (sb_cons (ss_append 6 dx.ok (ee_call (F__law_made.mono (by decide)) dx bd__law_made_2 (by rfl) (eas_cons (ee_lst (eas_cons (ee_lst (eas_cons (ee_tup (eas_cons (ee_v 1) (eas_cons (ee_v 3) (eas_cons ee_int eas_nil)))) eas_nil)) (eas_cons (ee_lst (eas_cons (ee_tup (eas_cons (ee_v 1) (eas_cons (ee_v 4) (eas_cons ee_int eas_nil)))) eas_nil)) eas_nil))) (eas_cons (ee_lst (eas_cons (ee_v 3) eas_nil)) eas_nil))))
  (sb_cons (ss_append 6 dx.ok (ee_call (F__law_made.mono (by decide)) dx bd__law_made_2 (by rfl) (eas_cons (ee_lst (eas_cons (ee_lst (eas_cons (ee_tup (eas_cons (ee_v 1) (eas_cons (ee_v 3) (eas_cons ee_int eas_nil)))) (eas_cons (ee_tup (eas_cons (ee_v 1) (eas_cons (ee_v 4) (eas_cons ee_int eas_nil)))) eas_nil))) eas_nil)) (eas_cons (ee_lst (eas_cons (ee_v 4) (eas_cons (ee_v 3) eas_nil))) eas_nil))))
  (sb_one (ss_ret (ee_bin (od_add dx.ok) (ew_v 6) (EE.weak (ee_lst (eas_cons (ee_call (F__law_made.mono (by decide)) dx bd__law_made_2 (by rfl) (eas_cons (ee_lst (eas_cons (ee_lst (eas_cons (ee_tup (eas_cons (ee_v 1) (eas_cons (ee_v 3) (eas_cons ee_int eas_nil)))) (eas_cons (ee_tup (eas_cons (ee_v 1) (eas_cons (ee_v 4) (eas_cons ee_int eas_nil)))) eas_nil))) (eas_cons (ee_lst (eas_cons (ee_tup (eas_cons (ee_v 2) (eas_cons (ee_v 3) (eas_cons ee_int eas_nil)))) (eas_cons (ee_tup (eas_cons (ee_v 2) (eas_cons (ee_v 4) (eas_cons ee_int eas_nil)))) eas_nil))) (eas_cons (ee_lst (eas_cons (ee_tup (eas_cons (ee_v 1) (eas_cons (ee_v 4) (eas_cons ee_int eas_nil)))) eas_nil)) (eas_cons (ee_lst (eas_cons (ee_tup (eas_cons (ee_v 2) (eas_cons (ee_v 3) (eas_cons ee_int eas_nil)))) eas_nil)) eas_nil))))) (eas_cons (ee_lst (eas_cons (ee_v 3) eas_nil)) eas_nil))) eas_nil))))))))))))
theorem sc__law_rule : FnScope N__law_rule ps__law_rule (defScope st__law_rule) := ⟨rfl, rfl, rfl, by decide +kernel, rfl, by decide +kernel, by decide +kernel⟩
theorem ok__law_rule (kn : Kn T h mg) (base : Heap) : ∃ fA fd, FunD T.K "_law_rule" "_law_rule" (defArgs st__law_rule) (defBody st__law_rule) (defScope st__law_rule) [] [] fA fd ∧ FnN T mg base 4 "_law_rule" ps__law_rule fA fd den__law_rule := by
  have b_range := b_range_of kn
  obtain ⟨fA__law_made, fd__law_made, D__law_made, F__law_made⟩ := ok__law_made kn base
  obtain ⟨fA__law_draw, fd__law_draw, D__law_draw, F__law_draw⟩ := ok__law_draw kn base
  obtain ⟨fA__law_pick, fd__law_pick, D__law_pick, F__law_pick⟩ := ok__law_pick kn base
  obtain ⟨fA__law_hand_rules, fd__law_hand_rules, D__law_hand_rules, F__law_hand_rules⟩ := ok__law_hand_rules kn base
  obtain ⟨fA__law_cross, fd__law_cross, D__law_cross, F__law_cross⟩ := ok__law_cross kn base
  have bd__law_draw_2 := bd_plain (ps := ps__law_draw) D__law_draw 2 [] [0, 1] rfl rfl (fun _ _ _ _ _ _ us ws hu hw => match us, ws, hu, hw with | [_, _], [], _, _ => rfl)
  have bd__law_pick_2 := bd_plain (ps := ps__law_pick) D__law_pick 2 [] [0, 1] rfl rfl (fun _ _ _ _ _ _ us ws hu hw => match us, ws, hu, hw with | [_, _], [], _, _ => rfl)
  have bd__law_hand_rules_1 := bd_plain (ps := ps__law_hand_rules) D__law_hand_rules 1 [] [0] rfl rfl (fun _ _ _ _ _ _ us ws hu hw => match us, ws, hu, hw with | [_], [], _, _ => rfl)
  have bd__law_cross_2 := bd_plain (ps := ps__law_cross) D__law_cross 2 [] [0, 1] rfl rfl (fun _ _ _ _ _ _ us ws hu hw => match us, ws, hu, hw with | [_, _], [], _, _ => rfl)
  have bd__law_made_2 := bd_plain (ps := ps__law_made) D__law_made 2 [] [0, 1] rfl rfl (fun _ _ _ _ _ _ us ws hu hw => match us, ws, hu, hw with | [_, _], [], _, _ => rfl)
  obtain ⟨fd, F⟩ := kn.c.def_ 14 (d := dd "_law_rule" st__law_rule []) rfl
  have S := sc__law_rule
  refine ⟨_, fd, F, fn_den F S fun cdv A outer s H E dx ow => ?_, He.glo_ok kn.X kn.G (kn.c.fact 14 (f := .glo "_law_rule") rfl), F.kp⟩
  unfold m__law_rule m__law_rule_1 m__law_rule_2 m__law_rule_3
  exact (sb_cons (ss_if (eb_cmp (od_gt dx.ok dx.rm) (EE.weak (ee_call (F__law_draw.mono (by decide)) dx bd__law_draw_2 (by rfl) (eas_cons (ee_v 0) (eas_cons ee_int eas_nil)))) (EE.weak ee_int))
  (sb_one (ss_ret (ee_call (F__law_pick.mono (by decide)) dx bd__law_pick_2 (by rfl) (eas_cons (ee_v 0) (eas_cons (ee_call (F__law_hand_rules.mono (by decide)) dx bd__law_hand_rules_1 (by rfl) (eas_cons (ee_v 1) eas_nil)) eas_nil)))))
  sb_nil)
  (sb_cons (ss_unp dx.calm (efs_own (ef_lst eas_nil) (efs_val (ee_bin (od_add dx.ok) (EE.weak ee_int) (EE.weak (ee_call (F__law_draw.mono (by decide)) dx bd__law_draw_2 (by rfl) (eas_cons (ee_v 0) (eas_cons ee_int eas_nil))))) efs_nil)) (gns_cons 2 S.nd (gns_cons 3 S.nd gns_nil)))
  (sb_cons (ss_for ow dx.calm (ei_range1 (by rfl) b_range (eas_cons (ee_v 3) eas_nil)) (gt_name 4 S.nd)
  (sb_cons (ss_set 5 S.nd (ee_call (F__law_pick.mono (by decide)) dx bd__law_pick_2 (by rfl) (eas_cons (ee_v 0) (eas_cons (ee_lst (eas_cons (ee_sl dx.ok (ew_v 1) eo_no (eo_is (EE.weak ee_int))) (eas_cons (ee_sl dx.ok (ew_v 1) (eo_is (EE.weak ee_int)) (eo_is (EE.weak ee_int))) (eas_cons (ee_sl dx.ok (ew_v 1) eo_no (eo_is (EE.weak ee_int))) (eas_cons (ee_sl dx.ok (ew_v 1) eo_no (eo_is (EE.weak ee_int))) eas_nil))))) eas_nil))))
  (sb_cons (ss_set 6 S.nd (ee_call (F__law_pick.mono (by decide)) dx bd__law_pick_2 (by rfl) (eas_cons (ee_v 0) (eas_cons (ee_lst (eas_cons (ee_sl dx.ok (ew_v 1) (eo_is (EE.weak ee_int)) (eo_is (EE.weak ee_int))) (eas_cons (ee_sl dx.ok (ew_v 1) (eo_is (EE.weak ee_int)) eo_no) (eas_cons (ee_sl dx.ok (ew_v 1) (eo_is (EE.weak ee_int)) eo_no) (eas_cons (ee_sl dx.ok (ew_v 1) (eo_is (EE.weak ee_int)) eo_no) eas_nil))))) eas_nil))))
  (sb_one (ss_append 2 dx.ok (EF.val (ef_lc dx.calm S.nd (EI.weak (ei_v dx.ok (ee_call (F__law_cross.mono (by decide)) dx bd__law_cross_2 (by rfl) (eas_cons (ee_v 5) (eas_cons (ee_v 6) eas_nil))))) [("_law_d", 7), ("_law_u", 8)] (by rfl) (fun _ _ _ _ _ => (gt_tup dx.blk.calm dx.blk.ok.K (gts_cons (gt_name 7 S.nd) (gts_cons (gt_name 8 S.nd) gts_nil)))) (fun _ _ _ _ _ => ets_nil) (fun _ _ _ _ _ => (ee_tup (eas_cons (ee_v 7) (eas_cons (ee_v 8) (eas_cons (ee_call (F__law_draw.mono (by decide)) dx.blk bd__law_draw_2 (by rfl) (eas_cons (ee_v 0) (eas_cons (ee_v 3) eas_nil))) eas_nil))))))))))))
  (sb_one (ss_frz 2 (ss_ret (ee_call (F__law_made.mono (by decide)) dx bd__law_made_2 (by rfl) (eas_cons (ee_v 2) (eas_cons (ee_call (F__law_pick.mono (by decide)) dx bd__law_pick_2 (by rfl) (eas_cons (ee_v 0) (eas_cons (ee_lst (eas_cons (ee_sl dx.ok (ew_v 1) (eo_is (EE.weak ee_int)) (eo_is (EE.weak ee_int))) (eas_cons (ee_sl dx.ok (ew_v 1) (eo_is (EE.weak ee_int)) eo_no) (eas_cons (ee_lst eas_nil) (eas_cons (ee_bin (od_add dx.ok) (EE.weak (ee_sl dx.ok (ew_v 1) (eo_is (EE.weak ee_int)) eo_no)) (EE.weak (ee_lst (eas_cons ee_str eas_nil)))) eas_nil))))) eas_nil))) eas_nil)))))))))
theorem sc__law_state : FnScope N__law_state ps__law_state (defScope st__law_state) := ⟨rfl, rfl, rfl, by decide +kernel, rfl, by decide +kernel, by decide +kernel⟩
theorem ok__law_state (kn : Kn T h mg) (base : Heap) : ∃ fA fd, FunD T.K "_law_state" "_law_state" (defArgs st__law_state) (defBody st__law_state) (defScope st__law_state) [] [] fA fd ∧ FnN T mg base 1 "_law_state" ps__law_state fA fd den__law_state := by
  obtain ⟨fd, F⟩ := kn.c.def_ 15 (d := dd "_law_state" st__law_state []) rfl
  have S := sc__law_state
  refine ⟨_, fd, F, fn_den F S fun cdv A outer s H E dx ow => ?_, He.glo_ok kn.X kn.G (kn.c.fact 15 (f := .glo "_law_state") rfl), F.kp⟩
  exact (sb_one (ss_ret (ee_ix dx.ok (EE.weak (EF.val (ef_lc dx.calm S.nd (EI.weak (ei_v dx.ok (ee_ix dx.ok (EE.weak (ee_ix dx.ok (EE.weak (ee_ix dx.ok (ew_v 0) (EE.weak ee_int))) (ew_v 1))) (EE.weak ee_int)))) [("_law_move", 4)] (by rfl) (fun _ _ _ _ _ => (gt_name 4 S.nd)) (fun _ _ _ _ _ => (pts_one (eb_cmp (od_eqF dx.blk.ok dx.blk.rm) (EE.weak (ee_sl dx.blk.ok (ew_v 4) eo_no (eo_is (EE.weak ee_int)))) (EE.weak (ee_tup (eas_cons (ee_v 2) (eas_cons (ee_v 3) eas_nil))))))) (fun _ _ _ _ _ => (ee_ix dx.blk.ok (ew_v 4) (EE.weak ee_int)))))) (EE.weak ee_int))))
theorem sc__law_same : FnScope N__law_same ps__law_same (defScope st__law_same) := ⟨rfl, rfl, rfl, by decide +kernel, rfl, by decide +kernel, by decide +kernel⟩
theorem ok__law_same (kn : Kn T h mg) (base : Heap) : ∃ fA fd, FunD T.K "_law_same" "_law_same" (defArgs st__law_same) (defBody st__law_same) (defScope st__law_same) [] [] fA fd ∧ FnN T mg base 1 "_law_same" ps__law_same fA fd den__law_same := by
  have b_repr := b_repr_of kn
  obtain ⟨fd, F⟩ := kn.c.def_ 16 (d := dd "_law_same" st__law_same []) rfl
  have S := sc__law_same
  refine ⟨_, fd, F, fn_den F S fun cdv A outer s H E dx ow => ?_, He.glo_ok kn.X kn.G (kn.c.fact 16 (f := .glo "_law_same") rfl), F.kp⟩
  exact (sb_one (ss_ret (ee_cmp (od_eqF dx.ok dx.rm) (EE.weak (ee_call1 (ud_reprF dx.ok dx.rm) (ew_v 0) (by rfl) b_repr rfl)) (EE.weak (ee_call1 (ud_reprF dx.ok dx.rm) (ew_v 1) (by rfl) b_repr rfl)))))
theorem sc__law_stranger : FnScope N__law_stranger ps__law_stranger (defScope st__law_stranger) := ⟨rfl, rfl, rfl, by decide +kernel, rfl, by decide +kernel, by decide +kernel⟩
theorem ok__law_stranger (kn : Kn T h mg) (base : Heap) : ∃ fA fd, FunD T.K "_law_stranger" "_law_stranger" (defArgs st__law_stranger) (defBody st__law_stranger) (defScope st__law_stranger) [] [] fA fd ∧ FnN T mg base 2 "_law_stranger" ps__law_stranger fA fd den__law_stranger := by
  have b_len := b_len_of kn
  have b_range := b_range_of kn
  have b_sorted := b_sorted_of kn
  have b_tuple := b_tuple_of kn
  obtain ⟨fA__law_state, fd__law_state, D__law_state, F__law_state⟩ := ok__law_state kn base
  have bd__law_state_4 := bd_plain (ps := ps__law_state) D__law_state 4 [] [0, 1, 2, 3] rfl rfl (fun _ _ _ _ _ _ us ws hu hw => match us, ws, hu, hw with | [_, _, _, _], [], _, _ => rfl)
  obtain ⟨fd, F⟩ := kn.c.def_ 17 (d := dd "_law_stranger" st__law_stranger []) rfl
  have S := sc__law_stranger
  refine ⟨_, fd, F, fn_den F S fun cdv A outer s H E dx ow => ?_, He.glo_ok kn.X kn.G (kn.c.fact 17 (f := .glo "_law_stranger") rfl), F.kp⟩
  unfold m__law_stranger m__law_stranger_1 m__law_stranger_2 m__law_stranger_3 m__law_stranger_4
  exact (sb_cons (ss_set 2 S.nd (ee_lst eas_nil))
  (sb_cons (ss_for ow dx.calm (ei_range1 (by rfl) b_range (eas_cons (ee_call1 (ud_len dx.ok) (EE.weak (ee_ix dx.ok (ew_v 0) (EE.weak ee_int))) (by rfl) b_len rfl) eas_nil)) (gt_name 3 S.nd)
  (sb_one (ss_set 2 S.nd (ee_bin (od_add dx.ok) (ew_v 2) (EE.weak (EF.val (ef_lc dx.calm S.nd (EI.weak (ei_v dx.ok (ee_ix dx.ok (EE.weak (ee_ix dx.ok (EE.weak (ee_ix dx.ok (ew_v 0) (EE.weak ee_int))) (ew_v 3))) (EE.weak (ee_if (eb_tr dx.ok (ew_v 1)) ee_int ee_int))))) [("_law_sign", 5)] (by rfl) (fun _ _ _ _ _ => (gt_name 5 S.nd)) (fun _ _ _ _ _ => ets_nil) (fun _ _ _ _ _ => (ee_tup (eas_cons (ee_v 3) (eas_cons (ee_v 5) eas_nil)))))))))))
  (sb_cons (ss_own 4 S.nd (ef_lst eas_nil))
  (sb_cons (ss_for ow dx.calm (ei_v dx.ok (ee_v 2)) (gt_tup dx.calm dx.ok.K (gts_cons (gt_name 3 S.nd) (gts_cons (gt_name 5 S.nd) gts_nil)))
  (sb_cons (ss_own 6 S.nd (ef_lst eas_nil))
  (sb_cons (ss_for ow dx.calm (ei_v dx.ok (ee_ix dx.ok (EE.weak (ee_ix dx.ok (EE.weak (ee_ix dx.ok (ew_v 0) (EE.weak ee_int))) (ew_v 3))) (EE.weak (ee_if (eb_tr dx.ok (ew_v 1)) ee_int ee_int)))) (gt_name 7 S.nd)
  (sb_cons (ss_set 8 S.nd (ee_if (eb_tr dx.ok (ew_v 1)) (ee_call (F__law_state.mono (by decide)) dx bd__law_state_4 (by rfl) (eas_cons (ee_v 0) (eas_cons (ee_v 3) (eas_cons (ee_v 5) (eas_cons (ee_v 7) eas_nil))))) (ee_call (F__law_state.mono (by decide)) dx bd__law_state_4 (by rfl) (eas_cons (ee_v 0) (eas_cons (ee_v 3) (eas_cons (ee_v 7) (eas_cons (ee_v 5) eas_nil)))))))
  (sb_cons (ss_set 9 S.nd (ee_callT (ud_tuple dx.ok) (EE.weak (EF.val (ef_lc dx.calm S.nd (EI.weak (ei_range1 (by rfl) b_range (eas_cons (ee_call1 (ud_len dx.ok) (ew_v 2) (by rfl) b_len rfl) eas_nil))) [("_law_idx", 11)] (by rfl) (fun _ _ _ _ _ => (gt_name 11 S.nd)) (fun _ _ _ _ _ => (pts_one (eb_cmp (od_eqF dx.blk.ok dx.blk.rm) (EE.weak (ee_ix dx.blk.ok (EE.weak (ee_ix dx.blk.ok (ew_v 2) (ew_v 11))) (EE.weak ee_int))) (ew_v 8)))) (fun _ _ _ _ _ => (ee_v 11))))) (by rfl) b_tuple rfl))
  (sb_one (ss_append 6 dx.ok (ee_if (eb_tr dx.ok (ew_v 1)) (ee_tup (eas_cons ee_str (eas_cons (ee_v 7) (eas_cons (ee_v 9) eas_nil)))) (ee_tup (eas_cons (ee_v 7) (eas_cons ee_str (eas_cons (ee_v 9) eas_nil))))))))))
  (sb_cons (ss_set 10 S.nd (ee_if (eb_tr dx.ok (ew_v 1)) (ee_tup (eas_cons ee_str (eas_cons (ee_v 5) eas_nil))) (ee_tup (eas_cons (ee_v 5) (eas_cons ee_str eas_nil)))))
  (sb_one (ss_append 4 dx.ok (ee_bin (od_add dx.ok) (ew_v 10) (EE.weak (ee_tup (eas_cons (ee_tup eas_nil) (eas_cons (ee_callT (ud_tuple dx.ok) (EE.weak (ee_call1 (ud_sortedF dx.ok dx.rm) (ew_v 6) (by rfl) b_sorted rfl)) (by rfl) b_tuple rfl) eas_nil)))))))))))
  (sb_one (ss_ret (ee_tup (eas_cons (ee_callT (ud_tuple dx.ok) (EE.weak (EF.val (ef_lc dx.calm S.nd (EI.weak (ei_range1 (by rfl) b_range (eas_cons (ee_call1 (ud_len dx.ok) (ew_v 2) (by rfl) b_len rfl) eas_nil))) [("_law_idx", 11)] (by rfl) (fun _ _ _ _ _ => (gt_name 11 S.nd)) (fun _ _ _ _ _ => (pts_one (eb_cmp (od_eqF dx.blk.ok dx.blk.rm) (EE.weak (ee_ix dx.blk.ok (EE.weak (ee_ix dx.blk.ok (ew_v 2) (ew_v 11))) (EE.weak ee_int))) (EE.weak ee_int)))) (fun _ _ _ _ _ => (ee_v 11))))) (by rfl) b_tuple rfl) (eas_cons (ee_callT (ud_tuple dx.ok) (ew_v 4) (by rfl) b_tuple rfl) eas_nil)))))))))
theorem sc__law_grand : FnScope N__law_grand ps__law_grand (defScope st__law_grand) := ⟨rfl, rfl, rfl, by decide +kernel, rfl, by decide +kernel, by decide +kernel⟩
theorem ok__law_grand (kn : Kn T h mg) (base : Heap) : ∃ fA fd, FunD T.K "_law_grand" "_law_grand" (defArgs st__law_grand) (defBody st__law_grand) (defScope st__law_grand) [] [] fA fd ∧ FnN T mg base 2 "_law_grand" ps__law_grand fA fd den__law_grand := by
  have b_int := b_int_of kn
  have b_range := b_range_of kn
  obtain ⟨fA__law_made, fd__law_made, D__law_made, F__law_made⟩ := ok__law_made kn base
  obtain ⟨fA__law_cross, fd__law_cross, D__law_cross, F__law_cross⟩ := ok__law_cross kn base
  have bd__law_cross_2 := bd_plain (ps := ps__law_cross) D__law_cross 2 [] [0, 1] rfl rfl (fun _ _ _ _ _ _ us ws hu hw => match us, ws, hu, hw with | [_, _], [], _, _ => rfl)
  have bd__law_made_2 := bd_plain (ps := ps__law_made) D__law_made 2 [] [0, 1] rfl rfl (fun _ _ _ _ _ _ us ws hu hw => match us, ws, hu, hw with | [_, _], [], _, _ => rfl)
  obtain ⟨fd, F⟩ := kn.c.def_ 18 (d := dd "_law_grand" st__law_grand []) rfl
  have S := sc__law_grand
  refine ⟨_, fd, F, fn_den F S fun cdv A outer s H E dx ow => ?_, He.glo_ok kn.X kn.G (kn.c.fact 18 (f := .glo "_law_grand") rfl), F.kp⟩
  exact (sb_cons (ss_own 0 S.nd (ef_lst eas_nil))
  (sb_cons (ss_for ow dx.calm (ei_range1 (by rfl) b_range (eas_cons ee_int eas_nil)) (gt_name 1 S.nd)
  (sb_cons (ss_set 2 S.nd (ee_call (F__law_cross.mono (by decide)) dx bd__law_cross_2 (by rfl) (eas_cons (ee_lst (eas_cons ee_str (eas_cons ee_str (eas_cons ee_str eas_nil)))) (eas_cons (ee_lst (eas_cons ee_str (eas_cons ee_str (eas_cons ee_str eas_nil)))) eas_nil))))
  (sb_one (ss_append 0 dx.ok (EF.val (ef_lc dx.calm S.nd (EI.weak (ei_v dx.ok (ee_v 2))) [("_law_pair", 3)] (by rfl) (fun _ _ _ _ _ => (gt_name 3 S.nd)) (fun _ _ _ _ _ => ets_nil) (fun _ _ _ _ _ => (ee_tup (eas_cons (ee_ix dx.blk.ok (ew_v 3) (EE.weak ee_int)) (eas_cons (ee_ix dx.blk.ok (ew_v 3) (EE.weak ee_int)) (eas_cons (ee_bin (od_mod) (EE.weak (ee_callT (ud_int) (EE.weak (ee_bin (od_add dx.blk.ok) (EE.weak (ee_bin (od_mul2 dx.blk.ok) (ew_v 1) (EE.weak ee_int))) (EE.weak (ee_bin (od_mul2 dx.blk.ok) (EE.weak ee_int) (EE.weak (ee_where dx.blk.ok dx.blk.rm (ew_v 2) (eas_cons (ee_v 3) eas_nil))))))) (by rfl) b_int rfl)) (EE.weak ee_int)) eas_nil)))))))))))
  (sb_one (ss_frz 0 (ss_ret (ee_call (F__law_made.mono (by decide)) dx bd__law_made_2 (by rfl) (eas_cons (ee_v 0) (eas_cons (ee_lst (eas_cons ee_str (eas_cons ee_str eas_nil))) eas_nil))))))))
theorem sc__law_is_right : FnScope N__law_is_right ps__law_is_right (defScope st__law_is_right) := ⟨rfl, rfl, rfl, by decide +kernel, rfl, by decide +kernel, by decide +kernel⟩
theorem ok__law_is_right (kn : Kn T h mg) (base : Heap) : ∃ fA fd, FunD T.K "_law_is_right" "_law_is_right" (defArgs st__law_is_right) (defBody st__law_is_right) (defScope st__law_is_right) [] [] fA fd ∧ FnN T mg base 3 "_law_is_right" ps__law_is_right fA fd den__law_is_right := by
  have b_repr := b_repr_of kn
  obtain ⟨fA_freest_giver, fd_freest_giver, D_freest_giver, F_freest_giver⟩ := ok_freest_giver kn base
  obtain ⟨fA_freest_taker, fd_freest_taker, D_freest_taker, F_freest_taker⟩ := ok_freest_taker kn base
  obtain ⟨fA__law_stranger, fd__law_stranger, D__law_stranger, F__law_stranger⟩ := ok__law_stranger kn base
  obtain ⟨fA__law_same, fd__law_same, D__law_same, F__law_same⟩ := ok__law_same kn base
  have bd_freest_giver_1 := bd_plain (ps := ps_freest_giver) D_freest_giver 1 [] [0] rfl rfl (fun _ _ _ _ _ _ us ws hu hw => match us, ws, hu, hw with | [_], [], _, _ => rfl)
  have bd_freest_taker_1 := bd_plain (ps := ps_freest_taker) D_freest_taker 1 [] [0] rfl rfl (fun _ _ _ _ _ _ us ws hu hw => match us, ws, hu, hw with | [_], [], _, _ => rfl)
  have bd_freest_giver_0_rule := bd_plain (ps := ps_freest_giver) D_freest_giver 0 ["rule"] [0] rfl rfl (fun _ _ _ _ _ _ us ws hu hw => match us, ws, hu, hw with | [], [_], _, _ => rfl)
  have bd_freest_taker_0_rule := bd_plain (ps := ps_freest_taker) D_freest_taker 0 ["rule"] [0] rfl rfl (fun _ _ _ _ _ _ us ws hu hw => match us, ws, hu, hw with | [], [_], _, _ => rfl)
  have bd__law_stranger_2 := bd_plain (ps := ps__law_stranger) D__law_stranger 2 [] [0, 1] rfl rfl (fun _ _ _ _ _ _ us ws hu hw => match us, ws, hu, hw with | [_, _], [], _, _ => rfl)
  have bd__law_same_2 := bd_plain (ps := ps__law_same) D__law_same 2 [] [0, 1] rfl rfl (fun _ _ _ _ _ _ us ws hu hw => match us, ws, hu, hw with | [_, _], [], _, _ => rfl)
  obtain ⟨fd, F⟩ := kn.c.def_ 19 (d := dd "_law_is_right" st__law_is_right []) rfl
  have S := sc__law_is_right
  refine ⟨_, fd, F, fn_den F S fun cdv A outer s H E dx ow => ?_, He.glo_ok kn.X kn.G (kn.c.fact 19 (f := .glo "_law_is_right") rfl), F.kp⟩
  unfold m__law_is_right m__law_is_right_1 m__law_is_right_2 m__law_is_right_3
  exact (sb_cons (ss_set 1 S.nd (ee_call1 (ud_reprF dx.ok dx.rm) (ew_v 0) (by rfl) b_repr rfl))
  (sb_cons (ss_set 2 S.nd (ee_lst (eas_cons (ee_call (F_freest_giver.mono (by decide)) dx bd_freest_giver_1 (by rfl) (eas_cons (ee_v 0) eas_nil)) (eas_cons (ee_call (F_freest_taker.mono (by decide)) dx bd_freest_taker_1 (by rfl) (eas_cons (ee_v 0) eas_nil)) (eas_cons (ee_callK0 (F_freest_giver.mono (by decide)) dx bd_freest_giver_0_rule (by rfl) (eks_cons (ee_v 0) eks_nil)) (eas_cons (ee_callK0 (F_freest_taker.mono (by decide)) dx bd_freest_taker_0_rule (by rfl) (eks_cons (ee_v 0) eks_nil)) eas_nil))))))
  (sb_cons (ss_par2 3 4 dx.calm S.nd (efs_val (ee_call (F__law_stranger.mono (by decide)) dx bd__law_stranger_2 (by rfl) (eas_cons (ee_v 0) (eas_cons ee_bl eas_nil))) (efs_val (ee_call (F__law_stranger.mono (by decide)) dx bd__law_stranger_2 (by rfl) (eas_cons (ee_v 0) (eas_cons ee_bl eas_nil))) efs_nil)))
  (sb_one (ss_ret (ee_and dx.ok (ee_call (F__law_same.mono (by decide)) dx bd__law_same_2 (by rfl) (eas_cons (ee_v 2) (eas_cons (ee_lst (eas_cons (ee_v 3) (eas_cons (ee_v 4) (eas_cons (ee_v 3) (eas_cons (ee_v 4) eas_nil))))) eas_nil))) (ee_one (ee_cmp (od_eqF dx.ok dx.rm) (EE.weak (ee_call1 (ud_reprF dx.ok dx.rm) (ew_v 0) (by rfl) b_repr rfl)) (ew_v 1)))))))))
theorem sc__law_by_hand : FnScope N__law_by_hand ps__law_by_hand (defScope st__law_by_hand) := ⟨rfl, rfl, rfl, by decide +kernel, rfl, by decide +kernel, by decide +kernel⟩
theorem ok__law_by_hand (kn : Kn T h mg) (base : Heap) : ∃ fA fd, FunD T.K "_law_by_hand" "_law_by_hand" (defArgs st__law_by_hand) (defBody st__law_by_hand) (defScope st__law_by_hand) [] [] fA fd ∧ FnN T mg base 3 "_law_by_hand" ps__law_by_hand fA fd den__law_by_hand := by
  have b_tuple := b_tuple_of kn
  obtain ⟨fA__law_hand, fd__law_hand, D__law_hand, F__law_hand⟩ := ok__law_hand kn base
  obtain ⟨fA__law_same, fd__law_same, D__law_same, F__law_same⟩ := ok__law_same kn base
  obtain ⟨fA_freest_giver, fd_freest_giver, D_freest_giver, F_freest_giver⟩ := ok_freest_giver kn base
  obtain ⟨fA_freest_taker, fd_freest_taker, D_freest_taker, F_freest_taker⟩ := ok_freest_taker kn base
  obtain ⟨fA_silent_rule, fd_silent_rule, D_silent_rule, F_silent_rule⟩ := ok_silent_rule kn base
  obtain ⟨fA__law_fence, fd__law_fence, D__law_fence, F__law_fence⟩ := ok__law_fence kn base
  have bd__law_hand_1 := bd_plain (ps := ps__law_hand) D__law_hand 1 [] [0] rfl rfl (fun _ _ _ _ _ _ us ws hu hw => match us, ws, hu, hw with | [_], [], _, _ => rfl)
  have bd__law_same_2 := bd_plain (ps := ps__law_same) D__law_same 2 [] [0, 1] rfl rfl (fun _ _ _ _ _ _ us ws hu hw => match us, ws, hu, hw with | [_, _], [], _, _ => rfl)
  have bd_freest_giver_1 := bd_plain (ps := ps_freest_giver) D_freest_giver 1 [] [0] rfl rfl (fun _ _ _ _ _ _ us ws hu hw => match us, ws, hu, hw with | [_], [], _, _ => rfl)
  have bd_freest_taker_1 := bd_plain (ps := ps_freest_taker) D_freest_taker 1 [] [0] rfl rfl (fun _ _ _ _ _ _ us ws hu hw => match us, ws, hu, hw with | [_], [], _, _ => rfl)
  have bd_silent_rule_0 := bd_plain (ps := ps_silent_rule) D_silent_rule 0 [] [] rfl rfl (fun _ _ _ _ _ _ us ws hu hw => match us, ws, hu, hw with | [], [], _, _ => rfl)
  have bd__law_fence_0 := bd_plain (ps := ps__law_fence) D__law_fence 0 [] [] rfl rfl (fun _ _ _ _ _ _ us ws hu hw => match us, ws, hu, hw with | [], [], _, _ => rfl)
  obtain ⟨fd, F⟩ := kn.c.def_ 20 (d := dd "_law_by_hand" st__law_by_hand []) rfl
  have S := sc__law_by_hand
  refine ⟨_, fd, F, fn_den F S fun cdv A outer s H E dx ow => ?_, He.glo_ok kn.X kn.G (kn.c.fact 20 (f := .glo "_law_by_hand") rfl), F.kp⟩
  unfold m__law_by_hand m__law_by_hand_1 m__law_by_hand_2 m__law_by_hand_3 m__law_by_hand_4 m__law_by_hand_5 m__law_by_hand_6 m__law_by_hand_7 m__law_by_hand_8
  exact (sb_cons (ss_set 0 S.nd (ee_call (F__law_hand.mono (by decide)) dx bd__law_hand_1 (by rfl) (eas_cons (ee_lst (eas_cons ee_str (eas_cons ee_str (eas_cons ee_str (eas_cons ee_str eas_nil))))) eas_nil)))
  (sb_cons (ss_set 1 S.nd (ee_tup (eas_cons ee_str (eas_cons ee_str (eas_cons (ee_tup eas_nil) (eas_cons (ee_tup (eas_cons (ee_tup (eas_cons ee_str (eas_cons ee_str (eas_cons (ee_tup (eas_cons ee_int (eas_cons ee_int eas_nil))) eas_nil)))) (eas_cons (ee_tup (eas_cons ee_str (eas_cons ee_str (eas_cons (ee_tup (eas_cons ee_int eas_nil)) eas_nil)))) eas_nil))) eas_nil))))))
  (sb_cons (ss_set 2 S.nd (ee_tup (eas_cons ee_str (eas_cons ee_str (eas_cons (ee_tup eas_nil) (eas_cons (ee_tup (eas_cons (ee_tup (eas_cons ee_str (eas_cons ee_str (eas_cons (ee_tup (eas_cons ee_int eas_nil)) eas_nil)))) (eas_cons (ee_tup (eas_cons ee_str (eas_cons ee_str (eas_cons (ee_tup (eas_cons ee_int eas_nil)) eas_nil)))) eas_nil))) eas_nil))))))
  (sb_cons (ss_set 3 S.nd (ee_tup (eas_cons ee_str (eas_cons ee_str (eas_cons (ee_tup eas_nil) (eas_cons (ee_tup (eas_cons (ee_tup (eas_cons ee_str (eas_cons ee_str (eas_cons (ee_tup (eas_cons ee_int (eas_cons ee_int eas_nil))) eas_nil)))) (eas_cons (ee_tup (eas_cons ee_str (eas_cons ee_str (eas_cons (ee_tup (eas_cons ee_int eas_nil)) eas_nil)))) eas_nil))) eas_nil))))))
  (sb_cons (ss_if (eb_not (eb_tr dx.ok (EE.weak (ee_call (F__law_same.mono (by decide)) dx bd__law_same_2 (by rfl) (eas_cons (ee_call (F_freest_giver.mono (by decide)) dx bd_freest_giver_1 (by rfl) (eas_cons (ee_v 0) eas_nil)) (eas_cons (ee_tup (eas_cons (ee_tup (eas_cons ee_int eas_nil)) (eas_cons (ee_tup (eas_cons (ee_v 1) (eas_cons (ee_v 2) (eas_cons (ee_v 3) eas_nil)))) eas_nil))) eas_nil))))))
  (sb_one (ss_ret ee_bl))
  sb_nil)
  (sb_cons (ss_set 4 S.nd (ee_lst (eas_cons (ee_tup (eas_cons ee_str (eas_cons (ee_tup (eas_cons ee_int (eas_cons ee_int eas_nil))) (eas_cons (ee_tup (eas_cons ee_int (eas_cons ee_int eas_nil))) eas_nil)))) (eas_cons (ee_tup (eas_cons ee_str (eas_cons (ee_tup (eas_cons ee_int (eas_cons ee_int eas_nil))) (eas_cons (ee_tup (eas_cons ee_int (eas_cons ee_int eas_nil))) eas_nil)))) eas_nil))))
  (sb_cons (ss_fzz 5 (ss_lc 5 dx.calm S.nd (EI.weak (ei_v dx.ok (ee_v 4))) [("_law_up", 6), ("_law_goal", 7), ("_law_back", 8)] (by rfl) (fun _ _ _ _ _ => (gt_tup dx.blk.calm dx.blk.ok.K (gts_cons (gt_name 6 S.nd) (gts_cons (gt_name 7 S.nd) (gts_cons (gt_name 8 S.nd) gts_nil))))) (fun _ _ _ _ _ => ets_nil) (fun _ _ _ _ _ => (ee_tup (eas_cons (ee_v 6) (eas_cons ee_str (eas_cons (ee_tup eas_nil) (eas_cons (ee_tup (eas_cons (ee_tup (eas_cons ee_str (eas_cons ee_str (eas_cons (ee_v 7) eas_nil)))) eas_nil)) eas_nil))))))))
  (sb_cons (ss_set 5 S.nd (ee_bin (od_add dx.ok) (ew_v 5) (EE.weak (EF.val (ef_lc dx.calm S.nd (EI.weak (ei_v dx.ok (ee_v 4))) [("_law_up", 6), ("_law_goal", 7), ("_law_back", 8)] (by rfl) (fun _ _ _ _ _ => (gt_tup dx.blk.calm dx.blk.ok.K (gts_cons (gt_name 6 S.nd) (gts_cons (gt_name 7 S.nd) (gts_cons (gt_name 8 S.nd) gts_nil))))) (fun _ _ _ _ _ => ets_nil) (fun _ _ _ _ _ => (ee_tup (eas_cons (ee_v 6) (eas_cons ee_str (eas_cons (ee_tup eas_nil) (eas_cons (ee_tup (eas_cons (ee_tup (eas_cons ee_str (eas_cons ee_str (eas_cons (ee_v 8) eas_nil)))) (eas_cons (ee_tup (eas_cons ee_str (eas_cons ee_str (eas_cons (ee_v 7) eas_nil)))) eas_nil))) eas_nil)))))))))))
  (sb_one (ss_ret (ee_call (F__law_same.mono (by decide)) dx bd__law_same_2 (by rfl) (eas_cons (ee_lst (eas_cons (ee_call (F_freest_taker.mono (by decide)) dx bd_freest_taker_1 (by rfl) (eas_cons (ee_v 0) eas_nil)) (eas_cons (ee_call0 (F_silent_rule.mono (by decide)) dx bd_silent_rule_0 (by rfl)) eas_nil))) (eas_cons (ee_lst (eas_cons (ee_tup (eas_cons (ee_tup (eas_cons ee_int (eas_cons ee_int eas_nil))) (eas_cons (ee_callT (ud_tuple dx.ok) (ew_v 5) (by rfl) b_tuple rfl) eas_nil))) (eas_cons (ee_call0 (F__law_fence.mono (by decide)) dx bd__law_fence_0 (by rfl)) eas_nil))) eas_nil)))))))))))))
theorem sc_law : FnScope N_law ps_law (defScope st_law) := ⟨rfl, rfl, rfl, by decide +kernel, rfl, by decide +kernel, by decide +kernel⟩
theorem ok_law (kn : Kn T h mg) (base : Heap) : ∃ fA fd, FunD T.K "law" "law" (defArgs st_law) (defBody st_law) (defScope st_law) [] [] fA fd ∧ FnN T mg base 5 "law" ps_law fA fd den_law := by
  have b_range := b_range_of kn
  obtain ⟨fA__law_feed, fd__law_feed, D__law_feed, F__law_feed⟩ := ok__law_feed kn base
  obtain ⟨fA__law_by_hand, fd__law_by_hand, D__law_by_hand, F__law_by_hand⟩ := ok__law_by_hand kn base
  obtain ⟨fA__law_is_right, fd__law_is_right, D__law_is_right, F__law_is_right⟩ := ok__law_is_right kn base
  obtain ⟨fA__law_grand, fd__law_grand, D__law_grand, F__law_grand⟩ := ok__law_grand kn base
  obtain ⟨fA_silent_rule, fd_silent_rule, D_silent_rule, F_silent_rule⟩ := ok_silent_rule kn base
  obtain ⟨fA__law_rule, fd__law_rule, D__law_rule, F__law_rule⟩ := ok__law_rule kn base
  obtain ⟨fA__law_signs, fd__law_signs, D__law_signs, F__law_signs⟩ := ok__law_signs kn base
  have bd__law_feed_1 := bd_plain (ps := ps__law_feed) D__law_feed 1 [] [0] rfl rfl (fun _ _ _ _ _ _ us ws hu hw => match us, ws, hu, hw with | [_], [], _, _ => rfl)
  have bd__law_is_right_1 := bd_plain (ps := ps__law_is_right) D__law_is_right 1 [] [0] rfl rfl (fun _ _ _ _ _ _ us ws hu hw => match us, ws, hu, hw with | [_], [], _, _ => rfl)
  have bd__law_rule_2 := bd_plain (ps := ps__law_rule) D__law_rule 2 [] [0, 1] rfl rfl (fun _ _ _ _ _ _ us ws hu hw => match us, ws, hu, hw with | [_, _], [], _, _ => rfl)
  have bd__law_signs_1 := bd_plain (ps := ps__law_signs) D__law_signs 1 [] [0] rfl rfl (fun _ _ _ _ _ _ us ws hu hw => match us, ws, hu, hw with | [_], [], _, _ => rfl)
  have bd__law_by_hand_0 := bd_plain (ps := ps__law_by_hand) D__law_by_hand 0 [] [] rfl rfl (fun _ _ _ _ _ _ us ws hu hw => match us, ws, hu, hw with | [], [], _, _ => rfl)
  have bd__law_grand_0 := bd_plain (ps := ps__law_grand) D__law_grand 0 [] [] rfl rfl (fun _ _ _ _ _ _ us ws hu hw => match us, ws, hu, hw with | [], [], _, _ => rfl)
  have bd_silent_rule_0 := bd_plain (ps := ps_silent_rule) D_silent_rule 0 [] [] rfl rfl (fun _ _ _ _ _ _ us ws hu hw => match us, ws, hu, hw with | [], [], _, _ => rfl)
  obtain ⟨fd, F⟩ := kn.c.def_ 21 (d := dd "law" st_law []) rfl
  have S := sc_law
  refine ⟨_, fd, F, fn_den F S fun cdv A outer s H E dx ow => ?_, He.glo_ok kn.X kn.G (kn.c.fact 21 (f := .glo "law") rfl), F.kp⟩
  exact (sb_cons (ss_set 1 S.nd (ee_call (F__law_feed.mono (by decide)) dx bd__law_feed_1 (by rfl) (eas_cons (ee_v 0) eas_nil)))
  (sb_cons (ss_for ow dx.calm (ei_range1 (by rfl) b_range (eas_cons ee_int eas_nil)) (gt_name 2 S.nd)
  (sb_one (ss_if (eb_not (eb_tr dx.ok (EE.weak (ee_call (F__law_is_right.mono (by decide)) dx bd__law_is_right_1 (by rfl) (eas_cons (ee_call (F__law_rule.mono (by decide)) dx bd__law_rule_2 (by rfl) (eas_cons (ee_v 1) (eas_cons (ee_call (F__law_signs.mono (by decide)) dx bd__law_signs_1 (by rfl) (eas_cons (ee_v 1) eas_nil)) eas_nil))) eas_nil)))))
  (sb_one (ss_ret ee_bl))
  sb_nil)))
  (sb_one (ss_ret (ee_and dx.ok (ee_call0 (F__law_by_hand.mono (by decide)) dx bd__law_by_hand_0 (by rfl)) (ee_and dx.ok (ee_call (F__law_is_right.mono (by decide)) dx bd__law_is_right_1 (by rfl) (eas_cons (ee_call0 (F__law_grand.mono (by decide)) dx bd__law_grand_0 (by rfl)) eas_nil)) (ee_one (ee_call (F__law_is_right.mono (by decide)) dx bd__law_is_right_1 (by rfl) (eas_cons (ee_call0 (F_silent_rule.mono (by decide)) dx bd_silent_rule_0 (by rfl)) eas_nil)))))))))
end
end Z

set_option maxHeartbeats 0
namespace Z
open PySem PySem.Spec PyProof.Rows L2
set_option autoImplicit false
theorem isB_bl (b : Bool) : isB (.bl b) = some b := rfl
theorem tr_bl (b : Bool) : tr (.bl b) = some b := rfl
theorem addO_ll (xs ys : List D) : addO (.lst xs) (.lst ys) = if fits (xs.length + ys.length) then some (.lst (xs ++ ys)) else none := rfl
theorem addO_tt (xs ys : List D) : addO (.tup xs) (.tup ys) = if fits (xs.length + ys.length) then some (.tup (xs ++ ys)) else none := rfl
theorem addO_ss (x y : Str) : addO (.str x) (.str y) = if fits (x.length + y.length) then some (.str (x ++ y)) else none := rfl
def sgn (x : Str) : Bool := decide (1 ≤ x.length) && decide (x.length ≤ 8) && x.cps.toList.all fun c => decide (97 ≤ c) && decide (c ≤ 122)
theorem bools_map (l : List Bool) : bools (l.map D.bl) = some l := by
  induction l with
  | nil => rfl
  | cons b l ih => simp only [List.map_cons, bools, ih, Option.map_some]
theorem flat1 {α : Type} (f : α → D) (l : List α) : l.flatMap (fun c => [f c]) = l.map f := by
  induction l with
  | nil => rfl
  | cons a l ih => simp [ih]
theorem eqF_ii (x y : Int) : eqF (.int x) (.int y) = some (.bl (decide (x = y))) := by
  rw [eqF_eq]
  show (if (isD (.int x) && isD (.int y) && (sh (.int x) || sh (.int y))) = true then some (D.bl (PyData.eqv (py (.int x)) (py (.int y)))) else none) = _
  rw [if_pos (by rfl)]
  congr 2
theorem rng_len (n : Nat) : (rngD 0 n).length = n := by simp [rngD]
theorem rng_get {n i : Nat} {d : D} (h : (rngD 0 n)[i]? = some d) : i < n ∧ d = .int i := by
  have hi := (List.getElem?_eq_some_iff.mp h).1
  rw [rng_len] at hi
  unfold rngD at h
  rw [List.getElem?_map, List.getElem?_range hi] at h
  cases h
  exact ⟨hi, by simp⟩
theorem mulO2_ii {x y : Int} (h : x.natAbs < 18446744073709551616) : mulO2 (.int x) (.int y) = some (.int (x * y)) := mulO_ii h
theorem strsD_map (ys : List Str) : strsD (ys.map D.str) = some ys := by
  induction ys with
  | nil => rfl
  | cons y ys ih => simp only [List.map_cons, strsD, ih]
/-! ### order -/
def ltS (a b : Str) : Prop := a.cps.toList < b.cps.toList
theorem lt_str (a b : Str) : PySem.W.dataLt (.str a) (.str b) = true ↔ ltS a b := by
  rw [PySem.W.dataLt_str]
  exact decide_eq_true_iff
theorem ltS_asym {a b : Str} (h : ltS a b) : ¬ ltS b a := fun k => (List.lt_asymm h : ¬ _) k
theorem ltS_ne {a b : Str} (h : ltS a b) : a ≠ b := fun e => by rw [e] at h; exact ltS_asym h h
theorem ltS_trans {a b c : Str} (h : ltS a b) (k : ltS b c) : ltS a c := List.lt_trans h k
theorem le_lt {a b : Str} (h : PySem.W.dataLe false py (.str a) (.str b) = true) (n : a ≠ b) : ltS a b := by
  have h : (!PySem.W.dataLt (.str b) (.str a)) = true := h
  apply Classical.byContradiction
  intro k
  have k2 : ¬ ltS b a := fun q => by rw [(lt_str b a).mpr q] at h; cases h
  exact n (PySem.W.str_of_cps (List.le_antisymm (List.not_lt.mp k2) (List.not_lt.mp k)))
theorem ltS_le {a b : Str} (h : ltS a b) : PySem.W.dataLe false py (.str a) (.str b) = true := by
  show (!PySem.W.dataLt (.str b) (.str a)) = true
  cases e : PySem.W.dataLt (.str b) (.str a) with
  | false => rfl
  | true => exact absurd ((lt_str b a).mp e) (ltS_asym h)
theorem sort_strs2 (xs : List Str) (h : xs.length ≤ 16777216) (nd : xs.Nodup) : ∃ zs : List Str, zs.Perm xs ∧ zs.Pairwise ltS ∧ sortedF (.lst (xs.map D.str)) = some (.lst (zs.map D.str)) := by
  obtain ⟨zs, p, e⟩ := perm_map (f := D.str) (sortD_perm (xs.map D.str))
  refine ⟨zs, p, ?_, ?_⟩
  · have tt := PySem.W.sortLe_total (PyProof.Rows.listOrd PyProof.Rows.itemOrd) false fun b => PySem.W.keyToks (py b)
    have sp := PySem.W.sort_pairwise tt (xs.map D.str)
    have e2 : (xs.map D.str).mergeSort (PySem.W.dataLe false py) = zs.map D.str := by rw [← sortD_eq]; exact e
    have sp2 : (zs.map D.str).Pairwise (fun a b => PySem.W.dataLe false py a b = true) := by rw [← e2]; exact sp
    rw [List.pairwise_map] at sp2
    have nz : zs.Nodup := p.nodup_iff.mpr nd
    exact (sp2.and nz).imp fun {a b} h => le_lt h.1 h.2
  · show (if sortOk (xs.map D.str) = true then some (D.lst (sortD (xs.map D.str))) else none) = _
    rw [if_pos (sortOk_strs xs h), e]
abbrev nD (z : Nat) : D := .int (z : Int)
theorem e1k (k : Nat) : (1 : Int) + (k : Int) = ((k + 1 : Nat) : Int) := by omega
theorem nodup_str {xs : List Str} (h : xs.Nodup) : (xs.map D.str).Nodup := List.Pairwise.map D.str (fun a b hab e => hab (D.str.inj e)) h
abbrev sS (xs : List Str) : D := .tup (xs.map D.str)
abbrev Hr := Str × Str × List Nat
abbrev hrD (m : Hr) : D := .tup [.str m.1, .str m.2.1, .tup (m.2.2.map nD)]
def hrLt (m m' : Hr) : Prop := ltS m.1 m'.1 ∨ (m.1 = m'.1 ∧ ltS m.2.1 m'.2.1)
theorem str_mem {xs : List Str} {d : D} (h : d ∈ xs.map D.str) : ∃ x ∈ xs, d = .str x := by
  obtain ⟨x, hx, rfl⟩ := List.mem_map.mp h
  exact ⟨x, hx, rfl⟩
theorem sgn_len {x : Str} (h : sgn x = true) : x.length ≤ 8 := by
  unfold sgn at h
  simp only [Bool.and_eq_true, decide_eq_true_eq] at h
  exact h.1.2
theorem sgn_fit {x : Str} (h : sgn x = true) : Fit 100 0 (.str x) := by
  have hl := sgn_len h
  unfold sgn at h
  simp only [Bool.and_eq_true] at h
  refine ⟨rfl, ?_, by show 10 * x.length + 2 ≤ 100; omega, Nat.le_refl _⟩
  show (x.cps.toList.all fun c => decide (c < 16 ^ 8)) = true
  refine List.all_eq_true.mpr fun c hc => ?_
  have := List.all_eq_true.mp h.2 c hc
  simp only [Bool.and_eq_true, decide_eq_true_eq] at this
  exact decide_eq_true (by omega)
theorem nD_fit {z : Nat} (h : z < 1000) : Fit 4 0 (nD z) := Fit.nat h
theorem sS_fit {xs : List Str} (h : ∀ x ∈ xs, sgn x = true) (hl : xs.length ≤ 10) : Fit 2000 1 (sS xs) := (Fit.tup (n := 100) (k := 0) (m := 10) (fun d hd => by obtain ⟨x, hx, rfl⟩ := str_mem hd; exact sgn_fit (h x hx)) (by rw [List.length_map]; exact hl)).mono (by decide) (by decide)
theorem ns_fit {xs : List Nat} (h : ∀ x ∈ xs, x < 1000) (hl : xs.length ≤ 12) : Fit 76 1 (.tup (xs.map nD)) := (Fit.tup (n := 4) (k := 0) (m := 12) (fun d hd => by obtain ⟨x, hx, rfl⟩ := List.mem_map.mp hd; exact nD_fit (h x hx)) (by rw [List.length_map]; exact hl)).mono (by decide) (by decide)
theorem Fit.tup3 {n k : Nat} {a b c : D} (ha : Fit n k a) (hb : Fit n k b) (hc : Fit n k c) : Fit (3 * (n + 2) + 4) (k + 1) (.tup [a, b, c]) := Fit.tup (fun d hd => by
  simp only [List.mem_cons, List.not_mem_nil, or_false] at hd
  rcases hd with rfl | rfl | rfl <;> assumption) (by simp)
theorem Fit.tup4 {n k : Nat} {a b c e : D} (ha : Fit n k a) (hb : Fit n k b) (hc : Fit n k c) (he : Fit n k e) : Fit (4 * (n + 2) + 4) (k + 1) (.tup [a, b, c, e]) := Fit.tup (fun d hd => by
  simp only [List.mem_cons, List.not_mem_nil, or_false] at hd
  rcases hd with rfl | rfl | rfl | rfl <;> assumption) (by simp)
theorem Fit.tup2 {n k : Nat} {a b : D} (ha : Fit n k a) (hb : Fit n k b) : Fit (2 * (n + 2) + 4) (k + 1) (.tup [a, b]) := Fit.tup (fun d hd => by
  simp only [List.mem_cons, List.not_mem_nil, or_false] at hd
  rcases hd with rfl | rfl <;> assumption) (by simp)
theorem same_ok {n k : Nat} {ds : List D} (h : Fit n k (.lst ds)) (hn : n ≤ 16000000) (hk : k ≤ 60) (g : G) : den__law_same [.lst ds, .lst ds] g = .ok (.bl true) g := by
  refine Res.Ok.eq ?_
  unfold den__law_same m__law_same
  simp only [den_ok, srt_ok, seq_ok, nx_ok, set_ok, drop_ok, sif_ok, ow_ok, fz_ok, fzz_ok, app_ok, ext_ok, par_ok, asg_ok, for_ok, fcons_ok, fnil_ok, op_ok, un_ok, c_ok, nil_ok, cons_ok, tup_ok, lst_ok, if_ok, andV_ok, orV_ok, notV_ok, ch_ok, tr_ok, b_ok, and_ok, or_ok, not_ok, yes_ok, no_ok, is_ok, sl_ok, call_ok, mt_ok, opF_ok, iv_ok, ir_ok, lc_ok, el1_ok, ok_ok, mV, mVs, gP, pkV, entE, setFs, frz, ownL, gN, gTp, gCn, gNl, wipeE, isB_bl, tr_bl, isStr, isLst, addO_ll, addO_tt, addO_ss, fits, decide_eq_true_eq, Nat.reduceLeDiff, List.map_cons, List.map_nil, List.length_cons, List.length_nil, List.replicate, List.cons_append, List.nil_append, List.append_nil, List.getElem?_cons_zero, List.getElem?_cons_succ, List.set, List.getD_cons_zero, List.getD_cons_succ, Nat.reduceAdd, Nat.reduceSub, Nat.reduceLT, and_self, true_and, and_true, if_true, ↓reduceIte, Option.some.injEq, exists_eq_left', exists_eq_left, exists_eq', exists_eq, D.int.injEq, D.bl.injEq, D.lst.injEq, D.tup.injEq, Nat.reduceEqDiff, forall_const, reduceCtorEq, false_implies, Bool.true_eq_false, Bool.false_eq_true, implies_true, repr_lst h hn hk, eqF_ss]
/-! ### sorted moves -/
theorem not_lt {a b : Str} (h : ¬ ltS a b) : PySem.W.dataLt (.str a) (.str b) = false := by
  cases e : PySem.W.dataLt (.str a) (.str b) with
  | false => rfl
  | true => exact absurd ((lt_str a b).mp e) h
theorem ltS_irr (a : Str) : ¬ ltS a a := fun h => ltS_asym h h
theorem hr_le {m m' : Hr} (h : hrLt m m') : PySem.W.dataLe false py (hrD m) (hrD m') = true := by
  show (!PySem.W.dataLt (.tuple [.str m'.1, .str m'.2.1, .tuple (pys (m'.2.2.map nD))]) (.tuple [.str m.1, .str m.2.1, .tuple (pys (m.2.2.map nD))])) = true
  rw [PySem.W.dataLt_tuple, PySem.W.dataLt_cons (by rfl), PySem.W.dataLt_cons (by rfl)]
  rcases h with h | ⟨h1, h2⟩
  · have e1 : PyData.eqv (.str m'.1) (.str m.1) = false := by
      simp only [PyData.eqv, beq_eq_false_iff_ne]
      exact fun e => ltS_ne h e.symm
    rw [e1, not_lt (ltS_asym h)]
    rfl
  · have e1 : PyData.eqv (.str m'.1) (.str m.1) = true := by simp [PyData.eqv, h1]
    have e2 : PyData.eqv (.str m'.2.1) (.str m.2.1) = false := by
      simp only [PyData.eqv, beq_eq_false_iff_ne]
      exact fun e => ltS_ne h2 e.symm
    rw [e1, e2, not_lt (ltS_asym h2)]
    rfl
theorem alike_ns : ∀ xs ys : List Nat, PySem.W.alikeAll (pys (xs.map nD)) (pys (ys.map nD)) = true
  | [], _ => by simp [pys, PySem.W.alikeAll]
  | x :: xs, [] => by simp [pys, PySem.W.alikeAll]
  | x :: xs, y :: ys => by
    simp only [List.map_cons, pys, PySem.W.alikeAll, alike_ns xs ys, Bool.and_true]
    rfl
theorem sortOk_hrs {ms : List Hr} (h : ∀ m ∈ ms, Fit 1000 2 (hrD m)) (hl : ms.length ≤ 1000) : sortOk (ms.map hrD) = true := by
  obtain ⟨a1, _, _, a4⟩ := Fits.all (n := 1000) (k := 2) (ds := ms.map hrD) fun d hd => by
    obtain ⟨m, hm, rfl⟩ := List.mem_map.mp hd
    exact h m hm
  have a2 : alikes (ms.map hrD) = true := List.all_eq_true.mpr fun d hd => List.all_eq_true.mpr fun e he => by
    obtain ⟨x, _, rfl⟩ := List.mem_map.mp hd
    obtain ⟨y, _, rfl⟩ := List.mem_map.mp he
    show (true && (true && (PySem.W.alikeAll (pys (x.2.2.map nD)) (pys (y.2.2.map nD)) && true))) = true
    rw [alike_ns]
    rfl
  have a3 : (ms.map hrD).all tupCons = true := List.all_eq_true.mpr fun d hd => by obtain ⟨x, _, rfl⟩ := List.mem_map.mp hd; rfl
  unfold sortOk shs fits
  rw [a1, a2, a3]
  simp
  omega
theorem sort_hrs {ms : List Hr} (h : ∀ m ∈ ms, Fit 1000 2 (hrD m)) (hl : ms.length ≤ 1000) : ∃ zs : List Hr, zs.Perm ms ∧ sortedF (.lst (ms.map hrD)) = some (.lst (zs.map hrD)) := by
  obtain ⟨zs, p, e⟩ := perm_map (f := hrD) (sortD_perm (ms.map hrD))
  refine ⟨zs, p, ?_⟩
  show (if sortOk (ms.map hrD) = true then some (D.lst (sortD (ms.map hrD))) else none) = _
  rw [if_pos (sortOk_hrs h hl), e]
theorem sort_self {ms : List Hr} (h : ∀ m ∈ ms, Fit 1000 2 (hrD m)) (hl : ms.length ≤ 1000) (o : ms.Pairwise hrLt) : sortedF (.lst (ms.map hrD)) = some (.lst (ms.map hrD)) := by
  show (if sortOk (ms.map hrD) = true then some (D.lst (sortD (ms.map hrD))) else none) = _
  rw [if_pos (sortOk_hrs h hl), sortD_eq, List.mergeSort_of_pairwise (List.pairwise_map.mpr (o.imp hr_le))]
theorem ints_isD (zs : List Nat) : isDs (zs.map nD) = true := isDs_all.mpr fun d hd => by obtain ⟨x, _, rfl⟩ := List.mem_map.mp hd; rfl
/-! ### more rules -/
def lsT : D → Option (List D)
  | .lst ds => some ds
  | .tup ds => some ds
  | _ => none
theorem star_ok {a : Ev} {b : EvL} {ρ : Z.Env} {g : G} {P : List D → G → Prop} : (mStar a b ρ g).Ok P ↔ (a ρ g).Ok fun d g => ∃ ds, lsT d = some ds ∧ (b ρ g).Ok fun es g => P (ds ++ es) g := by
  unfold mStar
  cases a ρ g with
  | ok d g1 =>
    cases d with
    | lst ds => exact (bind_ok (b ρ g1) (fun es g2 => Res.ok (ds ++ es) g2) P).trans ⟨fun h => ⟨ds, rfl, h⟩, fun ⟨_, e, h⟩ => by cases e; exact h⟩
    | tup ds => exact (bind_ok (b ρ g1) (fun es g2 => Res.ok (ds ++ es) g2) P).trans ⟨fun h => ⟨ds, rfl, h⟩, fun ⟨_, e, h⟩ => by cases e; exact h⟩
    | _ => exact ⟨fun h => False.elim h, fun ⟨_, e, _⟩ => by cases e⟩
  | exc x g1 => exact Iff.rfl
  | bad => exact Iff.rfl
theorem lsT_t (ds : List D) : lsT (.tup ds) = some ds := rfl
theorem lsT_l (ds : List D) : lsT (.lst ds) = some ds := rfl
def zpL : D → D → Option (List D)
  | .tup xs, .tup ys => some (zipD xs ys)
  | .lst xs, .lst ys => some (zipD xs ys)
  | _, _ => none
theorem zp_ok {a b : Ev} {ρ : Z.Env} {g : G} {P : List D → G → Prop} : (iZp a b ρ g).Ok P ↔ (a ρ g).Ok fun d g => (b ρ g).Ok fun e g => ∃ r, zpL d e = some r ∧ P r g := by
  unfold iZp
  cases h : a ρ g with
  | ok d g1 =>
    show _ ↔ (b ρ g1).Ok fun e g => ∃ r, zpL d e = some r ∧ P r g
    dsimp only
    cases h2 : b ρ g1 with
    | ok e g2 =>
      show _ ↔ ∃ r, zpL d e = some r ∧ P r g2
      cases d <;> cases e <;> simp [zpL, Res.Ok]
    | exc x g2 => exact Iff.rfl
    | bad => exact Iff.rfl
  | exc x g1 => exact Iff.rfl
  | bad => exact Iff.rfl
theorem zpL_t (xs ys : List D) : zpL (.tup xs) (.tup ys) = some (zipD xs ys) := rfl
theorem slO_t (ds : List D) (lo hi : Option Int) : slO (.tup ds) lo hi = some (.tup (cutD ds lo hi)) := rfl
theorem slO_l (ds : List D) (lo hi : Option Int) : slO (.lst ds) lo hi = some (.lst (cutD ds lo hi)) := rfl
theorem cut_1s (ds : List D) (k : Nat) : cutD ds (some ((k : Int) + 1)) none = ds.drop (k + 1) := cut_1 ds (k + 1)
theorem all_trues {α : Type} (l : List α) : allO (.lst (l.map fun _ => D.bl true)) = some (.bl true) := by
  show (bools (l.map fun _ => D.bl true)).map _ = _
  have e : (l.map fun _ => D.bl true) = (l.map fun _ => true).map D.bl := by rw [List.map_map]; rfl
  rw [e, bools_map]
  simp
theorem isi_tup {ds : List D} (h : isDs ds = true) : isiO .tuple (.tup ds) = some (.bl true) := by simp [isiO, Ty.is, isD, h]
theorem len_tup (ds : List D) : lenO (.tup ds) = some (.int ds.length) := rfl
theorem len_lst (ds : List D) : lenO (.lst ds) = some (.int ds.length) := rfl
theorem neg1 : negO (.int 1) = some (.int (-1)) := rfl
end Z

set_option maxHeartbeats 0
namespace Z
open PySem PySem.Spec PyProof.Rows L2
set_option autoImplicit false
/-! ### sets of texts, sorted -/
def addS (acc : List Str) (x : Str) : List Str := if x ∈ acc then acc else acc ++ [x]
theorem putF_str (acc : List Str) (x : Str) : putF (acc.map D.str) (.str x) = (addS acc x).map D.str := by
  have h : hasL (acc.map D.str) (.text x) = decide (x ∈ acc) := by
    unfold hasL
    rw [Bool.eq_iff_iff, List.any_eq_true, decide_eq_true_iff]
    constructor
    · rintro ⟨d, hd, hx⟩
      obtain ⟨y, hy, rfl⟩ := List.mem_map.mp hd
      have : lE (.text y) (.text x) = true := hx
      rw [lE_iff] at this
      cases this
      exact hy
    · intro hx
      exact ⟨.str x, List.mem_map_of_mem hx, (lE_iff (.text x) (.text x)).mpr rfl⟩
  show (if hasL (acc.map D.str) (.text x) then acc.map D.str else acc.map D.str ++ [.str x]) = _
  rw [h]
  unfold addS
  by_cases e : x ∈ acc <;> simp [e]
theorem fold_puts : ∀ (xs acc : List Str), (xs.map D.str).foldl putF (acc.map D.str) = (xs.foldl addS acc).map D.str
  | [], acc => rfl
  | x :: xs, acc => by rw [List.map_cons, List.foldl_cons, putF_str, fold_puts xs, List.foldl_cons]
theorem fold_add : ∀ (xs acc : List Str), acc.Nodup → (xs.foldl addS acc).Nodup ∧ (∀ x, x ∈ xs.foldl addS acc ↔ x ∈ acc ∨ x ∈ xs) ∧ (xs.foldl addS acc).length ≤ acc.length + xs.length
  | [], acc, h => ⟨h, fun x => by simp, by simp⟩
  | x :: xs, acc, h => by
    have n : (addS acc x).Nodup := by
      unfold addS
      split
      · exact h
      · rename_i hx
        exact List.nodup_append.mpr ⟨h, by simp, fun a ha b hb e => hx (by rw [List.mem_singleton.mp hb] at e; rw [← e]; exact ha)⟩
    have m : ∀ y, y ∈ addS acc x ↔ y ∈ acc ∨ y = x := fun y => by
      unfold addS
      split
      · rename_i hx
        exact ⟨.inl, fun h => h.elim id fun e => by rw [e]; exact hx⟩
      · simp
    have l : (addS acc x).length ≤ acc.length + 1 := by unfold addS; split <;> simp
    obtain ⟨a, b, c⟩ := fold_add xs (addS acc x) n
    refine ⟨a, fun y => ?_, by simp only [List.foldl_cons, List.length_cons]; omega⟩
    rw [List.foldl_cons, b, m, List.mem_cons]
    exact or_assoc
theorem sortset_s (xs : List Str) (h : xs.length < 4000) : ∃ zs : List Str, zs.Pairwise ltS ∧ (∀ z, z ∈ zs ↔ z ∈ xs) ∧ zs.length ≤ xs.length ∧ sortSetF (.lst (xs.map D.str)) = some (.lst (zs.map D.str)) := by
  obtain ⟨n, m, l⟩ := fold_add xs [] .nil
  have e : dedD (xs.map D.str) = (xs.foldl addS []).map D.str := fold_puts xs []
  have l2 : (xs.foldl addS []).length ≤ xs.length := by simpa using l
  obtain ⟨zs, p, o, es⟩ := sort_strs2 (xs.foldl addS []) (by omega) n
  have fl : flatS (xs.map D.str) = true := Bool.or_eq_true_iff.mpr (.inl (List.all_eq_true.mpr fun d hd => by obtain ⟨x, _, rfl⟩ := List.mem_map.mp hd; rfl))
  have so := sortOk_strs (xs.foldl addS []) (by omega)
  have e3 : sortD ((xs.foldl addS []).map D.str) = zs.map D.str := by
    have h3 : (if sortOk ((xs.foldl addS []).map D.str) = true then some (D.lst (sortD ((xs.foldl addS []).map D.str))) else none) = some (.lst (zs.map D.str)) := es
    rw [if_pos so] at h3
    exact D.lst.inj (Option.some.inj h3)
  refine ⟨zs, o, fun z => by rw [p.mem_iff, m]; simp, by rw [p.length_eq]; exact l2, ?_⟩
  show (if (flatS (xs.map D.str) && decide ((xs.map D.str).length < 4000) && sortOk (dedD (xs.map D.str))) = true then some (D.lst (sortD (dedD (xs.map D.str)))) else none) = _
  rw [e, if_pos (by simp only [fl, so, List.length_map, decide_eq_true h, Bool.and_self]), e3]
/-! ### tables by pairs of texts -/
abbrev pK (k : Str × Str) : D := .tup [.str k.1, .str k.2]
abbrev kN (k : Str × Str) : NestedKey := .tup [.text k.1, .text k.2]
theorem nks_pK : ∀ ks : List (Str × Str), nks (ks.map pK) = ks.map kN
  | [] => rfl
  | k :: ks => by
    rw [List.map_cons, nks, nks_pK ks]
    rfl
theorem ixN_some : ∀ {ks : List (Str × Str)} {k : Str × Str} {j : Nat}, ixN (ks.map kN) (kN k) = some j → ks[j]? = some k
  | [], _, _, e => by cases e
  | x :: ks, k, j, e => by
    simp only [List.map_cons, ixN] at e
    split at e
    · rename_i hx
      cases e
      simp only [NestedKey.tup.injEq, List.cons.injEq, NestedKey.text.injEq, and_true] at hx
      rw [List.getElem?_cons_zero, Prod.ext hx.1 hx.2]
    · obtain ⟨i, h, rfl⟩ := Option.map_eq_some_iff.mp e
      rw [List.getElem?_cons_succ]
      exact ixN_some h
theorem ixN_no : ∀ {ks : List (Str × Str)} {k : Str × Str}, ixN (ks.map kN) (kN k) = none → k ∉ ks
  | [], _, _ => by simp
  | x :: ks, k, e => by
    simp only [List.map_cons, ixN] at e
    split at e
    · cases e
    · rename_i hx
      have h := Option.map_eq_none_iff.mp e
      intro hm
      rcases List.mem_cons.mp hm with rfl | hm
      · exact hx rfl
      · exact ixN_no h hm
structure PInv (es : List ((Str × Str) × D)) (ks : List (Str × Str)) (vs : List D) : Prop where
  l : ks.length = vs.length
  m : ∀ (j : Nat) (k : Str × Str) (v : D), ks[j]? = some k → vs[j]? = some v → (k, v) ∈ es
  a : ∀ e ∈ es, e.1 ∈ ks
theorem put_inv {es : List ((Str × Str) × D)} {ks : List (Str × Str)} {vs : List D} (I : PInv es ks vs) (k : Str × Str) (v : D) : ∃ ks' vs', putK2 (ks.map pK) vs (pK k) v = (ks'.map pK, vs') ∧ PInv (es ++ [(k, v)]) ks' vs' := by
  unfold putK2
  rw [nks_pK, show nk (pK k) = kN k from rfl]
  cases e : ixN (ks.map kN) (kN k) with
  | some j =>
    have hj := ixN_some e
    have hjl := (List.getElem?_eq_some_iff.mp hj).1
    refine ⟨ks, vs.set j v, rfl, by rw [List.length_set]; exact I.l, fun i k2 v2 h1 h2 => ?_, fun e he => ?_⟩
    · by_cases hi : i = j
      · subst hi
        rw [hj] at h1
        cases h1
        rw [List.getElem?_set_self (by have := I.l; omega)] at h2
        cases h2
        simp
      · rw [List.getElem?_set_ne (fun h => hi h.symm)] at h2
        exact List.mem_append_left _ (I.m i k2 v2 h1 h2)
    · rcases List.mem_append.mp he with z | z
      · exact I.a e z
      · rw [List.mem_singleton.mp z]
        exact List.mem_of_getElem? hj
  | none =>
    refine ⟨ks ++ [k], vs ++ [v], by simp, by simp [I.l], fun i k2 v2 h1 h2 => ?_, fun e he => ?_⟩
    · by_cases hi : i < ks.length
      · rw [List.getElem?_append_left hi] at h1
        rw [List.getElem?_append_left (by have := I.l; omega)] at h2
        exact List.mem_append_left _ (I.m i k2 v2 h1 h2)
      · have hl := I.l
        rw [List.getElem?_append_right (by omega)] at h1 h2
        have h3 := List.mem_of_getElem? h1
        have h4 := List.mem_of_getElem? h2
        rw [List.mem_singleton.mp h3, List.mem_singleton.mp h4]
        simp
    · rcases List.mem_append.mp he with z | z
      · exact List.mem_append_left _ (I.a e z)
      · rw [List.mem_singleton.mp z]
        simp
abbrev ent (e : (Str × Str) × D) : D := .tup [pK e.1, e.2]
theorem tupK_pK (k : Str × Str) : tupK (pK k) = true := by
  simp [tupK, isKs, isK, nks, nk, NestedKey.depth, NestedKey.depthAll]
theorem fold_ent : ∀ (es done : List ((Str × Str) × D)) (ks : List (Str × Str)) (vs : List D), PInv done ks vs → ∃ ks' vs', (es.map ent).foldl stepP (some (ks.map pK, vs)) = some (ks'.map pK, vs') ∧ PInv (done ++ es) ks' vs'
  | [], done, ks, vs, I => ⟨ks, vs, rfl, by rw [List.append_nil]; exact I⟩
  | e :: es, done, ks, vs, I => by
    obtain ⟨k1, v1, h1, I1⟩ := put_inv I e.1 e.2
    obtain ⟨k2, v2, h2, I2⟩ := fold_ent es (done ++ [e]) k1 v1 I1
    refine ⟨k2, v2, ?_, by rw [List.append_assoc] at I2; exact I2⟩
    rw [List.map_cons, List.foldl_cons]
    have : stepP (some (ks.map pK, vs)) (ent e) = some (k1.map pK, v1) := by
      show (if tupK (pK e.1) = true then some (putK2 (ks.map pK) vs (pK e.1) e.2) else none) = _
      rw [if_pos (tupK_pK _), h1]
    rw [this]
    exact h2
theorem all_tupK (ks : List (Str × Str)) : (ks.map pK).all tupK = true := List.all_eq_true.mpr fun d hd => by obtain ⟨k, _, rfl⟩ := List.mem_map.mp hd; exact tupK_pK k
/-- what stands at a key, if all entries of the key say the same -/
theorem look_ent (es : List ((Str × Str) × D)) : ∃ (ks : List (Str × Str)) (vs : List D), foldP (es.map ent) = some (ks.map pK, vs) ∧ ∀ (k : Str × Str) (v : D), (k, v) ∈ es → (∀ v', (k, v') ∈ es → v' = v) → ∃ j, ixN (nks (ks.map pK)) (nk (pK k)) = some j ∧ vs[j]? = some v := by
  obtain ⟨ks, vs, h, I⟩ := fold_ent es [] [] [] ⟨rfl, fun j k v h => by simp at h, fun e he => by cases he⟩
  rw [List.nil_append] at I
  refine ⟨ks, vs, h, fun k v hm hu => ?_⟩
  rw [nks_pK, show nk (pK k) = kN k from rfl]
  cases e : ixN (ks.map kN) (kN k) with
  | none => exact absurd (I.a _ hm) (ixN_no e)
  | some j =>
    have hj := ixN_some e
    have hjl := (List.getElem?_eq_some_iff.mp hj).1
    have hjv : j < vs.length := by have := I.l; omega
    have hv : vs[j]? = some vs[j] := List.getElem?_eq_getElem hjv
    refine ⟨j, rfl, ?_⟩
    rw [hv, hu _ (I.m j k _ hj hv)]
/-! ### rules -/
abbrev Mv := Str × Str × Nat
abbrev mvD (m : Mv) : D := .tup [.str m.1, .str m.2.1, nD m.2.2]
abbrev Rw := List Str × List Str × List Mv
abbrev rwD (r : Rw) : D := .tup [sS r.1, sS r.2.1, .tup (r.2.2.map mvD)]
abbrev rulD (rows : List Rw) (rd : List Str) : D := .tup [.tup (rows.map rwD), sS rd]
structure MvOk (n : Nat) (m : Mv) : Prop where
  a : sgn m.1 = true
  b : sgn m.2.1 = true
  z : m.2.2 < n
structure WfRow (n : Nat) (r : Rw) : Prop where
  g : r.1.length ≤ 4 ∧ (∀ x ∈ r.1, sgn x = true) ∧ r.1.Pairwise ltS
  t : r.2.1.length ≤ 4 ∧ (∀ x ∈ r.2.1, sgn x = true) ∧ r.2.1.Pairwise ltS
  l : r.2.2.length ≤ 16 ∧ ∀ m ∈ r.2.2, MvOk n m
  c : ∀ a ∈ r.1, ∀ b ∈ r.2.1, ∃ m ∈ r.2.2, m.1 = a ∧ m.2.1 = b
  u : ∀ m ∈ r.2.2, ∀ m' ∈ r.2.2, m.1 = m'.1 → m.2.1 = m'.2.1 → m.2.2 = m'.2.2
structure WfRul (rows : List Rw) (rd : List Str) : Prop where
  n : rows ≠ [] ∧ rows.length ≤ 12
  r : ∀ r ∈ rows, WfRow rows.length r
  d : rd.length ≤ 10 ∧ ∀ x ∈ rd, sgn x = true
def go (ms : List Mv) (a b : Str) : Nat := match ms.find? fun m => m.1 == a && m.2.1 == b with
  | some m => m.2.2
  | none => 0
theorem go_spec {n : Nat} {r : Rw} (W : WfRow n r) {a b : Str} (ha : a ∈ r.1) (hb : b ∈ r.2.1) : (∃ m ∈ r.2.2, m.1 = a ∧ m.2.1 = b ∧ m.2.2 = go r.2.2 a b) ∧ (∀ m ∈ r.2.2, m.1 = a → m.2.1 = b → m.2.2 = go r.2.2 a b) ∧ go r.2.2 a b < n := by
  obtain ⟨m, hm, h1, h2⟩ := W.c a ha b hb
  have key : m.2.2 = go r.2.2 a b := by
    unfold go
    cases e : r.2.2.find? fun m => m.1 == a && m.2.1 == b with
    | none =>
      have := List.find?_eq_none.mp e m hm
      simp [h1, h2] at this
    | some m' =>
      have h3 := List.find?_some e
      simp only [Bool.and_eq_true, beq_iff_eq] at h3
      exact W.u m hm m' (List.mem_of_find?_eq_some e) (by rw [h1, h3.1]) (by rw [h2, h3.2])
  exact ⟨⟨m, hm, h1, h2, key⟩, fun m' hm' e1 e2 => by rw [← key]; exact W.u m' hm' m hm (by rw [e1, h1]) (by rw [e2, h2]), by rw [← key]; exact (W.l.2 m hm).z⟩
end Z

set_option maxHeartbeats 0
namespace Z
open PySem PySem.Spec PyProof.Rows L2
set_option autoImplicit false
theorem rng_eq (n : Nat) : rngD 0 n = (List.range n).map nD := by
  unfold rngD
  simp
theorem rul_0 (rows : List Rw) (rd : List Str) : idxO (rulD rows rd) (.int 0) = some (.tup (rows.map rwD)) := by kernel_rfl
theorem rw_0 (r : Rw) : idxO (rwD r) (.int 0) = some (sS r.1) := by kernel_rfl
theorem rw_1 (r : Rw) : idxO (rwD r) (.int 1) = some (sS r.2.1) := by kernel_rfl
theorem rw_2 (r : Rw) : idxO (rwD r) (.int 2) = some (.tup (r.2.2.map mvD)) := by kernel_rfl
theorem mv_s2 (m : Mv) : slO (mvD m) none (some 2) = some (pK (m.1, m.2.1)) := by kernel_rfl
theorem mv_2 (m : Mv) : idxO (mvD m) (.int 2) = some (nD m.2.2) := by kernel_rfl
theorem row_at {rows : List Rw} {k : Nat} (h : k < rows.length) : idxO (.tup (rows.map rwD)) (.int k) = some (rwD rows[k]) := idx_tup (by rw [List.getElem?_map, List.getElem?_eq_getElem h]; rfl)
theorem eqF_pK (a b c d : Str) : eqF (pK (a, b)) (.tup [.str c, .str d]) = some (.bl (a == c && b == d)) := by
  rw [eqF_eq]
  show (if _ then some (D.bl (PyData.eqv (py (.tup [.str a, .str b])) (py (.tup [.str c, .str d])))) else none) = _
  rw [if_pos (by rfl)]
  simp [py, pys, PyData.eqv, PyData.eqvAll]
theorem eqF_nn (x y : Nat) : eqF (nD x) (nD y) = some (.bl (x == y)) := by
  rw [eqF_ii]
  congr 2
  rw [Bool.eq_iff_iff]
  simp only [decide_eq_true_eq, beq_iff_eq]
  omega
theorem dct_of {mi : EvI} {vs : List Nat} {t : Tg} {ms : ElM} {ρ : Z.Env} {g : G} {ds ys : List D} {p : List D × List D} (h1 : mi ρ g = .ok ds g) (h2 : gaL t ms (wipeE ρ vs) ds g = .ok ys g) (h3 : foldP ys = some p) (h4 : fits ys.length = true) : mDc mi vs t ms ρ g = .ok (.dct p.1 p.2) g := by
  unfold mDc
  rw [h1]
  dsimp only
  rw [h2]
  dsimp only
  rw [h3]
  dsimp only
  rw [if_pos h4]
section
variable {rows : List Rw} {rd : List Str} {g : G} {q : Nat} {a b : Str}
theorem next_ok (W : WfRul rows rd) (h : q < rows.length) (ha : a ∈ rows[q].1) (hb : b ∈ rows[q].2.1) : den_next_by [rulD rows rd, .int q, .str a, .str b] g = .ok (nD (go rows[q].2.2 a b)) g := by
  have R := W.r rows[q] (List.getElem_mem _)
  obtain ⟨⟨m0, hm0, e1, e2, e3⟩, hall, _⟩ := go_spec R ha hb
  obtain ⟨ks, vs, hf, hl⟩ := look_ent (rows[q].2.2.map fun m => ((m.1, m.2.1), nD m.2.2))
  obtain ⟨j, hj, hv⟩ := hl (a, b) (nD (go rows[q].2.2 a b)) (List.mem_map.mpr ⟨m0, hm0, by rw [e1, e2, e3]⟩) (fun v' hv' => by
    obtain ⟨m, hm, e⟩ := List.mem_map.mp hv'
    cases e
    rw [hall m hm rfl rfl])
  have l16 := R.l.1
  unfold den_next_by m_next_by
  have hd := dct_of (mi := iV (mOp idxO (mOp idxO (mOp idxO (mV 0) (mC (.int 0))) (mV 1)) (mC (.int 2)))) (vs := [4]) (t := gN 4) (ms := elD mYes (mSl (mV 4) oNo (oIs (mC (.int 2)))) (mOp idxO (mV 4) (mC (.int 2)))) (ρ := [.val (rulD rows rd), .val (.int q), .val (.str a), .val (.str b), .no]) (g := g) (ds := rows[q].2.2.map mvD) (ys := (rows[q].2.2.map fun m => ((m.1, m.2.1), nD m.2.2)).map ent) (p := (ks.map pK, vs)) (by simp only [denOf, sSeq, sDrop, sRet, sIf, sSet, mCallB, mCons, mNil, mV, mVs, mC, mUn, mOp, mTup, mLst, mIf, mB, mTr, isB, Res.bind, ret, gP, pkV, entE, fits, List.map_cons, List.map_nil, List.length_map, List.length_cons, List.length_nil, List.replicate, List.cons_append, List.nil_append, List.append_nil, List.getElem?_cons_zero, List.getElem?_cons_succ, List.set, List.getD_cons_zero, List.getD_cons_succ, Nat.reduceAdd, Nat.reduceSub, Nat.reduceLT, Nat.reduceLeDiff, decide_true, decide_eq_true_eq, and_self, true_and, and_true, if_true, ↓reduceIte, iV, rul_0, row_at h, rw_2, itemsD]) (by
    rw [ga_map _ _ (f := fun m : Mv => [ent ((m.1, m.2.1), nD m.2.2)]) fun m _ => ⟨_, rfl, by simp only [denOf, sSeq, sDrop, sRet, sIf, sSet, mCallB, mCons, mNil, mV, mVs, mC, mUn, mOp, mTup, mLst, mIf, mB, mTr, isB, Res.bind, ret, gP, pkV, entE, fits, List.map_cons, List.map_nil, List.length_map, List.length_cons, List.length_nil, List.replicate, List.cons_append, List.nil_append, List.append_nil, List.getElem?_cons_zero, List.getElem?_cons_succ, List.set, List.getD_cons_zero, List.getD_cons_succ, Nat.reduceAdd, Nat.reduceSub, Nat.reduceLT, Nat.reduceLeDiff, decide_true, decide_eq_true_eq, and_self, true_and, and_true, if_true, ↓reduceIte, elD, mYes, mSl, oNo, oIs, wipeE, List.foldl_cons, List.foldl_nil, mv_s2, mv_2]⟩, flat1, List.map_map]
    rfl) hf (by simp only [List.length_map, fits, decide_eq_true_eq]; omega)
  have ht : tupK (D.tup [.str a, .str b]) = true := tupK_pK (a, b)
  have hj : ixN (nks (ks.map pK)) (nk (.tup [.str a, .str b])) = some j := hj
  simp only [denOf, sSeq, sDrop, sRet, sIf, sSet, mCallB, mCons, mNil, mV, mVs, mC, mUn, mOp, mTup, mLst, mIf, mB, mTr, isB, Res.bind, ret, gP, pkV, entE, fits, List.map_cons, List.map_nil, List.length_map, List.length_cons, List.length_nil, List.replicate, List.cons_append, List.nil_append, List.append_nil, List.getElem?_cons_zero, List.getElem?_cons_succ, List.set, List.getD_cons_zero, List.getD_cons_succ, Nat.reduceAdd, Nat.reduceSub, Nat.reduceLT, Nat.reduceLeDiff, decide_true, decide_eq_true_eq, and_self, true_and, and_true, if_true, ↓reduceIte, mDix, hd, ht, all_tupK, hj, hv]
theorem sel_flat {α : Type} (p : α → Bool) (f : α → D) (l : List α) : (l.flatMap fun x => if p x = true then [f x] else []) = (l.filter p).map f := by
  induction l with
  | nil => rfl
  | cons x l ih =>
    rw [List.flatMap_cons, ih, List.filter_cons]
    cases p x <;> rfl
theorem state_ok (W : WfRul rows rd) (h : q < rows.length) (ha : a ∈ rows[q].1) (hb : b ∈ rows[q].2.1) : den__law_state [rulD rows rd, .int q, .str a, .str b] g = .ok (nD (go rows[q].2.2 a b)) g := by
  have R := W.r rows[q] (List.getElem_mem _)
  obtain ⟨⟨m0, hm0, e1, e2, e3⟩, hall, _⟩ := go_spec R ha hb
  have l16 := R.l.1
  refine Res.Ok.eq ?_
  unfold den__law_state m__law_state
  simp only [den_ok, srt_ok, seq_ok, nx_ok, set_ok, drop_ok, sif_ok, ow_ok, fz_ok, fzz_ok, app_ok, ext_ok, par_ok, asg_ok, for_ok, fcons_ok, fnil_ok, op_ok, un_ok, c_ok, nil_ok, cons_ok, tup_ok, lst_ok, if_ok, andV_ok, orV_ok, notV_ok, ch_ok, tr_ok, b_ok, and_ok, or_ok, not_ok, yes_ok, no_ok, is_ok, sl_ok, call_ok, mt_ok, opF_ok, iv_ok, ir_ok, lc_ok, el1_ok, ok_ok, mV, mVs, gP, pkV, entE, setFs, frz, ownL, gN, gTp, gCn, gNl, wipeE, isB_bl, tr_bl, isStr, isLst, addO_ll, addO_tt, addO_ss, fits, decide_eq_true_eq, Nat.reduceLeDiff, List.map_cons, List.map_nil, List.length_cons, List.length_nil, List.replicate, List.cons_append, List.nil_append, List.append_nil, List.getElem?_cons_zero, List.getElem?_cons_succ, List.set, List.getD_cons_zero, List.getD_cons_succ, Nat.reduceAdd, Nat.reduceSub, Nat.reduceLT, and_self, true_and, and_true, if_true, ↓reduceIte, Option.some.injEq, exists_eq_left', exists_eq_left, exists_eq', exists_eq, D.int.injEq, D.bl.injEq, D.lst.injEq, D.tup.injEq, Nat.reduceEqDiff, forall_const, reduceCtorEq, false_implies, Bool.true_eq_false, Bool.false_eq_true, implies_true, rul_0, row_at h, rw_2, itemsD]
  rw [ga_map _ _ (f := fun m : Mv => if (m.1 == a && m.2.1 == b) = true then [nD m.2.2] else []) fun m _ => ?_, sel_flat (fun m : Mv => m.1 == a && m.2.1 == b) (fun m => nD m.2.2)]
  · have hf : m0 ∈ rows[q].2.2.filter (fun m : Mv => m.1 == a && m.2.1 == b) := List.mem_filter.mpr ⟨hm0, by simp [e1, e2]⟩
    have hle := List.length_filter_le (fun m : Mv => m.1 == a && m.2.1 == b) rows[q].2.2
    cases hF : rows[q].2.2.filter (fun m : Mv => m.1 == a && m.2.1 == b) with
    | nil => rw [hF] at hf; cases hf
    | cons m ms =>
      have hm : m ∈ rows[q].2.2.filter (fun m : Mv => m.1 == a && m.2.1 == b) := by rw [hF]; exact List.mem_cons_self
      obtain ⟨hm1, hm2⟩ := List.mem_filter.mp hm
      simp only [Bool.and_eq_true, beq_iff_eq] at hm2
      rw [hF] at hle
      simp only [List.length_cons] at hle
      have ix : idxO (.lst (nD m.2.2 :: ms.map fun m : Mv => nD m.2.2)) (.int 0) = some (nD m.2.2) := idx_lst (k := 0) rfl
      simp only [den_ok, srt_ok, seq_ok, nx_ok, set_ok, drop_ok, sif_ok, ow_ok, fz_ok, fzz_ok, app_ok, ext_ok, par_ok, asg_ok, for_ok, fcons_ok, fnil_ok, op_ok, un_ok, c_ok, nil_ok, cons_ok, tup_ok, lst_ok, if_ok, andV_ok, orV_ok, notV_ok, ch_ok, tr_ok, b_ok, and_ok, or_ok, not_ok, yes_ok, no_ok, is_ok, sl_ok, call_ok, mt_ok, opF_ok, iv_ok, ir_ok, lc_ok, el1_ok, ok_ok, mV, mVs, gP, pkV, entE, setFs, frz, ownL, gN, gTp, gCn, gNl, wipeE, isB_bl, tr_bl, isStr, isLst, addO_ll, addO_tt, addO_ss, fits, decide_eq_true_eq, Nat.reduceLeDiff, List.map_cons, List.map_nil, List.length_cons, List.length_nil, List.replicate, List.cons_append, List.nil_append, List.append_nil, List.getElem?_cons_zero, List.getElem?_cons_succ, List.set, List.getD_cons_zero, List.getD_cons_succ, Nat.reduceAdd, Nat.reduceSub, Nat.reduceLT, and_self, true_and, and_true, if_true, ↓reduceIte, Option.some.injEq, exists_eq_left', exists_eq_left, exists_eq', exists_eq, D.int.injEq, D.bl.injEq, D.lst.injEq, D.tup.injEq, Nat.reduceEqDiff, forall_const, reduceCtorEq, false_implies, Bool.true_eq_false, Bool.false_eq_true, implies_true, List.length_map, ix]
      refine ⟨by omega, ?_⟩
      rw [hall m hm1 hm2.1 hm2.2]
  · refine ⟨_, rfl, ?_⟩
    refine Res.Ok.eq ?_
    simp only [den_ok, srt_ok, seq_ok, nx_ok, set_ok, drop_ok, sif_ok, ow_ok, fz_ok, fzz_ok, app_ok, ext_ok, par_ok, asg_ok, for_ok, fcons_ok, fnil_ok, op_ok, un_ok, c_ok, nil_ok, cons_ok, tup_ok, lst_ok, if_ok, andV_ok, orV_ok, notV_ok, ch_ok, tr_ok, b_ok, and_ok, or_ok, not_ok, yes_ok, no_ok, is_ok, sl_ok, call_ok, mt_ok, opF_ok, iv_ok, ir_ok, lc_ok, el1_ok, ok_ok, mV, mVs, gP, pkV, entE, setFs, frz, ownL, gN, gTp, gCn, gNl, wipeE, isB_bl, tr_bl, isStr, isLst, addO_ll, addO_tt, addO_ss, fits, decide_eq_true_eq, Nat.reduceLeDiff, List.map_cons, List.map_nil, List.length_cons, List.length_nil, List.replicate, List.cons_append, List.nil_append, List.append_nil, List.getElem?_cons_zero, List.getElem?_cons_succ, List.set, List.getD_cons_zero, List.getD_cons_succ, Nat.reduceAdd, Nat.reduceSub, Nat.reduceLT, and_self, true_and, and_true, if_true, ↓reduceIte, Option.some.injEq, exists_eq_left', exists_eq_left, exists_eq', exists_eq, D.int.injEq, D.bl.injEq, D.lst.injEq, D.tup.injEq, Nat.reduceEqDiff, forall_const, reduceCtorEq, false_implies, Bool.true_eq_false, Bool.false_eq_true, implies_true, mv_s2, mv_2, eqF_pK]
    cases (m.1 == a && m.2.1 == b) <;> simp
end
end Z

set_option maxHeartbeats 0
namespace Z
open PySem PySem.Spec PyProof.Rows L2
set_option autoImplicit false
/-! ### the pairs, numbered -/
def sdAt (s : Bool) (rows : List Rw) (q : Nat) : List Str := match rows[q]? with
  | some r => if s then r.1 else r.2.1
  | none => []
theorem sdAt_eq {s : Bool} {rows : List Rw} {q : Nat} (h : q < rows.length) : sdAt s rows q = if s then rows[q].1 else rows[q].2.1 := by
  unfold sdAt
  rw [List.getElem?_eq_getElem h]
def prs (s : Bool) (rows : List Rw) (n : Nat) : List (Nat × Str) := (List.range n).flatMap fun q => (sdAt s rows q).map fun x => (q, x)
theorem prs_mem {s : Bool} {rows : List Rw} {n : Nat} {p : Nat × Str} (h : p ∈ prs s rows n) : p.1 < n ∧ p.2 ∈ sdAt s rows p.1 := by
  unfold prs at h
  obtain ⟨q, hq, h⟩ := List.mem_flatMap.mp h
  obtain ⟨x, hx, rfl⟩ := List.mem_map.mp h
  exact ⟨List.mem_range.mp hq, hx⟩
theorem flat_len {α β : Type} (f : α → List β) (c : Nat) : ∀ l : List α, (∀ x ∈ l, (f x).length ≤ c) → (l.flatMap f).length ≤ l.length * c
  | [], _ => by simp
  | x :: l, h => by
    have h1 := flat_len f c l fun y hy => h y (List.mem_cons_of_mem _ hy)
    have h2 := h x List.mem_cons_self
    rw [List.flatMap_cons, List.length_append, List.length_cons, Nat.add_mul]
    omega
theorem sd_ok {rows : List Rw} {rd : List Str} (W : WfRul rows rd) (s : Bool) {q : Nat} (h : q < rows.length) : (sdAt s rows q).length ≤ 4 ∧ (∀ x ∈ sdAt s rows q, sgn x = true) ∧ (sdAt s rows q).Pairwise ltS := by
  have R := W.r rows[q] (List.getElem_mem _)
  rw [sdAt_eq h]
  cases s
  · exact R.t
  · exact R.g
theorem prs_len {rows : List Rw} {rd : List Str} (W : WfRul rows rd) (s : Bool) {n : Nat} (h : n ≤ rows.length) : (prs s rows n).length ≤ 48 := by
  have h1 := flat_len (fun q => (sdAt s rows q).map fun x => (q, x)) 4 (List.range n) fun q hq => by
    rw [List.length_map]
    exact (sd_ok W s (by have := List.mem_range.mp hq; omega)).1
  rw [List.length_range] at h1
  have h2 : n * 4 ≤ 12 * 4 := Nat.mul_le_mul_right 4 (by have := W.n.2; omega)
  unfold prs
  omega
abbrev p2 (p : Nat × Str) : D := .tup [nD p.1, .str p.2]
def isQ (ps : List (Nat × Str)) (q k : Nat) : Bool := match ps[k]? with
  | some p => p.1 == q
  | none => false
def numL (ps : List (Nat × Str)) (q : Nat) : List Nat := (List.range ps.length).filter (isQ ps q)
theorem numL_lt {ps : List (Nat × Str)} {q z : Nat} (h : z ∈ numL ps q) : z < ps.length := List.mem_range.mp (List.mem_filter.mp h).1
theorem numL_le (ps : List (Nat × Str)) (q : Nat) : (numL ps q).length ≤ ps.length := by
  have := List.length_filter_le (isQ ps q) (List.range ps.length)
  rw [List.length_range] at this
  exact this
theorem prs_succ (s : Bool) (rows : List Rw) (n : Nat) : prs s rows (n + 1) = prs s rows n ++ (sdAt s rows n).map fun x => (n, x) := by
  unfold prs
  rw [List.range_succ, List.flatMap_append]
  simp
theorem map_flat {α β : Type} (f : α → β) (xs : List α) : xs.map f = xs.flatMap fun x => [f x] := (flat1' f xs).symm
where flat1' {α β : Type} (f : α → β) : ∀ xs : List α, (xs.flatMap fun x => [f x]) = xs.map f
  | [] => rfl
  | x :: xs => by rw [List.flatMap_cons, flat1' f xs]; rfl
theorem ix_p2 {ps : List (Nat × Str)} {k : Nat} (h : k < ps.length) : idxO (.lst (ps.map p2)) (.int k) = some (p2 ps[k]) := idx_lst (by rw [List.getElem?_map, List.getElem?_eq_getElem h]; rfl)
theorem p2_0 (p : Nat × Str) : idxO (p2 p) (.int 0) = some (nD p.1) := by kernel_rfl
theorem isQ_eq {ps : List (Nat × Str)} {q k : Nat} (h : k < ps.length) : isQ ps q k = (ps[k].1 == q) := by
  unfold isQ
  rw [List.getElem?_eq_getElem h]
theorem ints_len (n : Nat) : (List.range n).length = n := List.length_range
section
variable {rows : List Rw} {rd : List Str} {g : G} {q : Nat}
abbrev sI (s : Bool) : D := .int (if s then 0 else 1)
theorem rw_s (s : Bool) (h : q < rows.length) : idxO (rwD rows[q]) (sI s) = some (sS (sdAt s rows q)) := by
  rw [sdAt_eq h]
  cases s
  · exact rw_1 _
  · exact rw_0 _
theorem numbered_ok (W : WfRul rows rd) (s : Bool) : den_numbered [rulD rows rd, sI s] g = .ok (.tup [.lst ((prs s rows rows.length).map p2), .lst ((List.range rows.length).map fun q => .tup ((numL (prs s rows rows.length) q).map nD))]) g := by
  have hn := W.n.2
  have hl := prs_len W s (Nat.le_refl _)
  refine Res.Ok.eq ?_
  unfold den_numbered m_numbered
  simp only [den_ok, srt_ok, seq_ok, nx_ok, set_ok, drop_ok, sif_ok, ow_ok, fz_ok, fzz_ok, app_ok, ext_ok, par_ok, asg_ok, for_ok, fcons_ok, fnil_ok, op_ok, un_ok, c_ok, nil_ok, cons_ok, tup_ok, lst_ok, if_ok, andV_ok, orV_ok, notV_ok, ch_ok, tr_ok, b_ok, and_ok, or_ok, not_ok, yes_ok, no_ok, is_ok, sl_ok, call_ok, mt_ok, opF_ok, iv_ok, ir_ok, lc_ok, el1_ok, ok_ok, mV, mVs, gP, pkV, entE, setFs, frz, ownL, gN, gTp, gCn, gNl, wipeE, isB_bl, tr_bl, isStr, isLst, addO_ll, addO_tt, addO_ss, fits, decide_eq_true_eq, Nat.reduceLeDiff, List.map_cons, List.map_nil, List.length_cons, List.length_nil, List.replicate, List.cons_append, List.nil_append, List.append_nil, List.getElem?_cons_zero, List.getElem?_cons_succ, List.set, List.getD_cons_zero, List.getD_cons_succ, Nat.reduceAdd, Nat.reduceSub, Nat.reduceLT, and_self, true_and, and_true, if_true, ↓reduceIte, Option.some.injEq, exists_eq_left', exists_eq_left, exists_eq', exists_eq, D.int.injEq, D.bl.injEq, D.lst.injEq, D.tup.injEq, Nat.reduceEqDiff, forall_const, reduceCtorEq, false_implies, Bool.true_eq_false, Bool.false_eq_true, implies_true, rul_0, len_tup, List.length_map]
  refine ⟨_, rfl, by omega, ?_⟩
  rw [Int.toNat_natCast, rng_eq, ga_map _ _ (f := fun q : Nat => (sdAt s rows q).map fun x => p2 (q, x)) fun q hq => ⟨_, rfl, ?_⟩]
  · have e : ((List.range rows.length).flatMap fun q : Nat => (sdAt s rows q).map fun x => p2 (q, x)) = (prs s rows rows.length).map p2 := by
      unfold prs
      rw [List.map_flatMap]
      simp only [List.map_map]
      rfl
    rw [e]
    simp only [den_ok, srt_ok, seq_ok, nx_ok, set_ok, drop_ok, sif_ok, ow_ok, fz_ok, fzz_ok, app_ok, ext_ok, par_ok, asg_ok, for_ok, fcons_ok, fnil_ok, op_ok, un_ok, c_ok, nil_ok, cons_ok, tup_ok, lst_ok, if_ok, andV_ok, orV_ok, notV_ok, ch_ok, tr_ok, b_ok, and_ok, or_ok, not_ok, yes_ok, no_ok, is_ok, sl_ok, call_ok, mt_ok, opF_ok, iv_ok, ir_ok, lc_ok, el1_ok, ok_ok, mV, mVs, gP, pkV, entE, setFs, frz, ownL, gN, gTp, gCn, gNl, wipeE, isB_bl, tr_bl, isStr, isLst, addO_ll, addO_tt, addO_ss, fits, decide_eq_true_eq, Nat.reduceLeDiff, List.map_cons, List.map_nil, List.length_cons, List.length_nil, List.replicate, List.cons_append, List.nil_append, List.append_nil, List.getElem?_cons_zero, List.getElem?_cons_succ, List.set, List.getD_cons_zero, List.getD_cons_succ, Nat.reduceAdd, Nat.reduceSub, Nat.reduceLT, and_self, true_and, and_true, if_true, ↓reduceIte, Option.some.injEq, exists_eq_left', exists_eq_left, exists_eq', exists_eq, D.int.injEq, D.bl.injEq, D.lst.injEq, D.tup.injEq, Nat.reduceEqDiff, forall_const, reduceCtorEq, false_implies, Bool.true_eq_false, Bool.false_eq_true, implies_true, List.length_map, len_lst, rul_0, len_tup]
    refine ⟨by omega, _, rfl, by omega, ?_⟩
    rw [Int.toNat_natCast, rng_eq, ga_map _ _ (f := fun q : Nat => [.tup ((numL (prs s rows rows.length) q).map nD)]) fun q hq => ⟨_, rfl, ?_⟩, flat1]
    · simp only [den_ok, srt_ok, seq_ok, nx_ok, set_ok, drop_ok, sif_ok, ow_ok, fz_ok, fzz_ok, app_ok, ext_ok, par_ok, asg_ok, for_ok, fcons_ok, fnil_ok, op_ok, un_ok, c_ok, nil_ok, cons_ok, tup_ok, lst_ok, if_ok, andV_ok, orV_ok, notV_ok, ch_ok, tr_ok, b_ok, and_ok, or_ok, not_ok, yes_ok, no_ok, is_ok, sl_ok, call_ok, mt_ok, opF_ok, iv_ok, ir_ok, lc_ok, el1_ok, ok_ok, mV, mVs, gP, pkV, entE, setFs, frz, ownL, gN, gTp, gCn, gNl, wipeE, isB_bl, tr_bl, isStr, isLst, addO_ll, addO_tt, addO_ss, fits, decide_eq_true_eq, Nat.reduceLeDiff, List.map_cons, List.map_nil, List.length_cons, List.length_nil, List.replicate, List.cons_append, List.nil_append, List.append_nil, List.getElem?_cons_zero, List.getElem?_cons_succ, List.set, List.getD_cons_zero, List.getD_cons_succ, Nat.reduceAdd, Nat.reduceSub, Nat.reduceLT, and_self, true_and, and_true, if_true, ↓reduceIte, Option.some.injEq, exists_eq_left', exists_eq_left, exists_eq', exists_eq, D.int.injEq, D.bl.injEq, D.lst.injEq, D.tup.injEq, Nat.reduceEqDiff, forall_const, reduceCtorEq, false_implies, Bool.true_eq_false, Bool.false_eq_true, implies_true, List.length_map, ints_len]
      omega
    · refine Res.Ok.eq ?_
      simp only [den_ok, srt_ok, seq_ok, nx_ok, set_ok, drop_ok, sif_ok, ow_ok, fz_ok, fzz_ok, app_ok, ext_ok, par_ok, asg_ok, for_ok, fcons_ok, fnil_ok, op_ok, un_ok, c_ok, nil_ok, cons_ok, tup_ok, lst_ok, if_ok, andV_ok, orV_ok, notV_ok, ch_ok, tr_ok, b_ok, and_ok, or_ok, not_ok, yes_ok, no_ok, is_ok, sl_ok, call_ok, mt_ok, opF_ok, iv_ok, ir_ok, lc_ok, el1_ok, ok_ok, mV, mVs, gP, pkV, entE, setFs, frz, ownL, gN, gTp, gCn, gNl, wipeE, isB_bl, tr_bl, isStr, isLst, addO_ll, addO_tt, addO_ss, fits, decide_eq_true_eq, Nat.reduceLeDiff, List.map_cons, List.map_nil, List.length_cons, List.length_nil, List.replicate, List.cons_append, List.nil_append, List.append_nil, List.getElem?_cons_zero, List.getElem?_cons_succ, List.set, List.getD_cons_zero, List.getD_cons_succ, Nat.reduceAdd, Nat.reduceSub, Nat.reduceLT, and_self, true_and, and_true, if_true, ↓reduceIte, Option.some.injEq, exists_eq_left', exists_eq_left, exists_eq', exists_eq, D.int.injEq, D.bl.injEq, D.lst.injEq, D.tup.injEq, Nat.reduceEqDiff, forall_const, reduceCtorEq, false_implies, Bool.true_eq_false, Bool.false_eq_true, implies_true, len_lst, List.length_map]
      refine ⟨_, rfl, by omega, ?_⟩
      rw [Int.toNat_natCast, rng_eq, ga_map _ _ (f := fun k : Nat => if isQ (prs s rows rows.length) q k = true then [nD k] else []) fun k hk => ⟨_, rfl, ?_⟩, sel_flat (isQ (prs s rows rows.length) q) nD]
      · have := numL_le (prs s rows rows.length) q
        simp only [den_ok, srt_ok, seq_ok, nx_ok, set_ok, drop_ok, sif_ok, ow_ok, fz_ok, fzz_ok, app_ok, ext_ok, par_ok, asg_ok, for_ok, fcons_ok, fnil_ok, op_ok, un_ok, c_ok, nil_ok, cons_ok, tup_ok, lst_ok, if_ok, andV_ok, orV_ok, notV_ok, ch_ok, tr_ok, b_ok, and_ok, or_ok, not_ok, yes_ok, no_ok, is_ok, sl_ok, call_ok, mt_ok, opF_ok, iv_ok, ir_ok, lc_ok, el1_ok, ok_ok, mV, mVs, gP, pkV, entE, setFs, frz, ownL, gN, gTp, gCn, gNl, wipeE, isB_bl, tr_bl, isStr, isLst, addO_ll, addO_tt, addO_ss, fits, decide_eq_true_eq, Nat.reduceLeDiff, List.map_cons, List.map_nil, List.length_cons, List.length_nil, List.replicate, List.cons_append, List.nil_append, List.append_nil, List.getElem?_cons_zero, List.getElem?_cons_succ, List.set, List.getD_cons_zero, List.getD_cons_succ, Nat.reduceAdd, Nat.reduceSub, Nat.reduceLT, and_self, true_and, and_true, if_true, ↓reduceIte, Option.some.injEq, exists_eq_left', exists_eq_left, exists_eq', exists_eq, D.int.injEq, D.bl.injEq, D.lst.injEq, D.tup.injEq, Nat.reduceEqDiff, forall_const, reduceCtorEq, false_implies, Bool.true_eq_false, Bool.false_eq_true, implies_true, List.length_map, tupleO]
        exact ⟨by unfold numL at this; omega, rfl⟩
      · have hk := List.mem_range.mp hk
        refine Res.Ok.eq ?_
        simp only [den_ok, srt_ok, seq_ok, nx_ok, set_ok, drop_ok, sif_ok, ow_ok, fz_ok, fzz_ok, app_ok, ext_ok, par_ok, asg_ok, for_ok, fcons_ok, fnil_ok, op_ok, un_ok, c_ok, nil_ok, cons_ok, tup_ok, lst_ok, if_ok, andV_ok, orV_ok, notV_ok, ch_ok, tr_ok, b_ok, and_ok, or_ok, not_ok, yes_ok, no_ok, is_ok, sl_ok, call_ok, mt_ok, opF_ok, iv_ok, ir_ok, lc_ok, el1_ok, ok_ok, mV, mVs, gP, pkV, entE, setFs, frz, ownL, gN, gTp, gCn, gNl, wipeE, isB_bl, tr_bl, isStr, isLst, addO_ll, addO_tt, addO_ss, fits, decide_eq_true_eq, Nat.reduceLeDiff, List.map_cons, List.map_nil, List.length_cons, List.length_nil, List.replicate, List.cons_append, List.nil_append, List.append_nil, List.getElem?_cons_zero, List.getElem?_cons_succ, List.set, List.getD_cons_zero, List.getD_cons_succ, Nat.reduceAdd, Nat.reduceSub, Nat.reduceLT, and_self, true_and, and_true, if_true, ↓reduceIte, Option.some.injEq, exists_eq_left', exists_eq_left, exists_eq', exists_eq, D.int.injEq, D.bl.injEq, D.lst.injEq, D.tup.injEq, Nat.reduceEqDiff, forall_const, reduceCtorEq, false_implies, Bool.true_eq_false, Bool.false_eq_true, implies_true, ix_p2 hk, p2_0, eqF_nn]
        rw [isQ_eq hk]
        cases ((prs s rows rows.length)[k].1 == q) <;> simp
  · have hq := List.mem_range.mp hq
    have hi : iV (mOp idxO (mOp idxO (mOp idxO (mV 0) (mC (.int 0))) (mV 4)) (mV 1)) [.val (rulD rows rd), .val (sI s), .no, .no, .val (nD q), .no, .no] g = .ok ((sdAt s rows q).map D.str) g := by
      simp only [denOf, sSeq, sDrop, sRet, sIf, sSet, mCallB, mCons, mNil, mV, mVs, mC, mUn, mOp, mTup, mLst, mIf, mB, mTr, isB, Res.bind, ret, gP, pkV, entE, fits, List.map_cons, List.map_nil, List.length_map, List.length_cons, List.length_nil, List.replicate, List.cons_append, List.nil_append, List.append_nil, List.getElem?_cons_zero, List.getElem?_cons_succ, List.set, List.getD_cons_zero, List.getD_cons_succ, Nat.reduceAdd, Nat.reduceSub, Nat.reduceLT, Nat.reduceLeDiff, decide_true, decide_eq_true_eq, and_self, true_and, and_true, if_true, ↓reduceIte, iV, rul_0, row_at hq, rw_s s hq, itemsD]
    show (match iV _ [.val (rulD rows rd), .val (sI s), .no, .no, .val (nD q), .no, .no] g with
      | .ok ds g2 => gaL _ _ (wipeE _ [5]) ds g2
      | _ => .bad) = _
    rw [hi]
    show gaL _ _ _ ((sdAt s rows q).map D.str) g = _
    rw [ga_map _ _ (f := fun x : Str => [p2 (q, x)]) fun x _ => ⟨_, rfl, ?_⟩, flat1]
    refine Res.Ok.eq ?_
    simp only [den_ok, srt_ok, seq_ok, nx_ok, set_ok, drop_ok, sif_ok, ow_ok, fz_ok, fzz_ok, app_ok, ext_ok, par_ok, asg_ok, for_ok, fcons_ok, fnil_ok, op_ok, un_ok, c_ok, nil_ok, cons_ok, tup_ok, lst_ok, if_ok, andV_ok, orV_ok, notV_ok, ch_ok, tr_ok, b_ok, and_ok, or_ok, not_ok, yes_ok, no_ok, is_ok, sl_ok, call_ok, mt_ok, opF_ok, iv_ok, ir_ok, lc_ok, el1_ok, ok_ok, mV, mVs, gP, pkV, entE, setFs, frz, ownL, gN, gTp, gCn, gNl, wipeE, isB_bl, tr_bl, isStr, isLst, addO_ll, addO_tt, addO_ss, fits, decide_eq_true_eq, Nat.reduceLeDiff, List.map_cons, List.map_nil, List.length_cons, List.length_nil, List.replicate, List.cons_append, List.nil_append, List.append_nil, List.getElem?_cons_zero, List.getElem?_cons_succ, List.set, List.getD_cons_zero, List.getD_cons_succ, Nat.reduceAdd, Nat.reduceSub, Nat.reduceLT, and_self, true_and, and_true, if_true, ↓reduceIte, Option.some.injEq, exists_eq_left', exists_eq_left, exists_eq', exists_eq, D.int.injEq, D.bl.injEq, D.lst.injEq, D.tup.injEq, Nat.reduceEqDiff, forall_const, reduceCtorEq, false_implies, Bool.true_eq_false, Bool.false_eq_true, implies_true]
end
end Z

set_option maxHeartbeats 0
namespace Z
open PySem PySem.Spec PyProof.Rows L2
set_option autoImplicit false
def goR (rows : List Rw) (q : Nat) (a b : Str) : Nat := match rows[q]? with
  | some r => go r.2.2 a b
  | none => 0
theorem goR_eq {rows : List Rw} {q : Nat} {a b : Str} (h : q < rows.length) : goR rows q a b = go rows[q].2.2 a b := by
  unfold goR
  rw [List.getElem?_eq_getElem h]
abbrev numD (rows : List Rw) (s : Bool) (t : Nat) : List Nat := numL (prs s rows rows.length) t
theorem ix_num {rows : List Rw} {s : Bool} {t : Nat} (h : t < rows.length) : idxO (.lst ((List.range rows.length).map fun q => .tup ((numL (prs s rows rows.length) q).map nD))) (.int t) = some (.tup ((numD rows s t).map nD)) := idx_lst (by rw [List.getElem?_map, List.getElem?_range h]; rfl)
theorem take_all {α : Type} {xs : List α} {n : Nat} (h : n = xs.length) : xs.take n = xs := by rw [h, List.take_length]
theorem take_one {α : Type} {xs : List α} {i : Nat} {x : α} (h : xs[i]? = some x) : xs.take (i + 1) = xs.take i ++ [x] := by rw [List.take_succ, h]; rfl
theorem num_fit {rows : List Rw} {rd : List Str} (W : WfRul rows rd) (s : Bool) (t : Nat) : Fit 292 1 (.tup ((numD rows s t).map nD)) := by
  have hl := prs_len W s (Nat.le_refl _)
  have h2 : (numD rows s t).length ≤ _ := numL_le (prs s rows rows.length) t
  exact Fit.tup (n := 4) (k := 0) (m := 48) (fun d hd => by
    obtain ⟨x, hx, rfl⟩ := List.mem_map.mp hd
    exact nD_fit (by have := numL_lt hx; omega)) (by rw [List.length_map]; omega)
theorem hrN_fit {rows : List Rw} {rd : List Str} (W : WfRul rows rd) (s : Bool) (t : Nat) {a b : Str} (ha : sgn a = true) (hb : sgn b = true) : Fit 1000 2 (hrD (a, b, numD rows s t)) :=
  (Fit.tup3 (n := 300) (k := 1) ((sgn_fit ha).mono (by decide) (by decide)) ((sgn_fit hb).mono (by decide) (by decide)) ((num_fit W s t).mono (by decide) (by decide))).mono (by decide) (by decide)
theorem none_sgn : sgn "none" = true := by decide +kernel
theorem ix_0 {xs : List D} {d : D} (h : xs[0]? = some d) : idxO (.lst xs) (.int 0) = some d := idx_lst (k := 0) h

/-! ### giver -/
section
variable {rows : List Rw} {rd : List Str} {g : G}
def hrG (rows : List Rw) (p : Nat × Str) (u : Str) : Hr := ("none", u, numD rows true (goR rows p.1 p.2 u))
def stdG (rows : List Rw) (p : Nat × Str) : D := .tup [.str "none", .str p.2, .tup [], .tup ((sdAt false rows p.1).map fun u => hrD (hrG rows p u))]
theorem tgG (W : WfRul rows rd) {p : Nat × Str} (hp : p ∈ prs true rows rows.length) {u : Str} (hu : u ∈ sdAt false rows p.1) : ∃ hq : p.1 < rows.length, p.2 ∈ rows[p.1].1 ∧ u ∈ rows[p.1].2.1 ∧ goR rows p.1 p.2 u = go rows[p.1].2.2 p.2 u ∧ goR rows p.1 p.2 u < rows.length := by
  obtain ⟨h1, h2⟩ := prs_mem hp
  have R := W.r rows[p.1] (List.getElem_mem _)
  rw [sdAt_eq h1] at h2 hu
  have h2 : p.2 ∈ rows[p.1].1 := h2
  have hu : u ∈ rows[p.1].2.1 := hu
  refine ⟨h1, h2, hu, goR_eq h1, ?_⟩
  rw [goR_eq h1]
  exact (go_spec R h2 hu).2.2
theorem freestG (W : WfRul rows rd) : den_freest_giver [rulD rows rd] g = .ok (.tup [.tup ((numD rows true 0).map nD), .tup ((prs true rows rows.length).map (stdG rows))]) g := by
  have hn := W.n.2
  have h0 : 0 < rows.length := List.length_pos_iff.mpr W.n.1
  have hl := prs_len W true (Nat.le_refl _)
  have nb := numbered_ok (g := g) W true
  have nb : den_numbered [rulD rows rd, .int 0] g = _ := nb
  refine Res.Ok.eq ?_
  unfold den_freest_giver m_freest_giver
  simp only [den_ok, srt_ok, seq_ok, nx_ok, set_ok, drop_ok, sif_ok, ow_ok, fz_ok, fzz_ok, app_ok, ext_ok, par_ok, asg_ok, for_ok, fcons_ok, fnil_ok, op_ok, un_ok, c_ok, nil_ok, cons_ok, tup_ok, lst_ok, if_ok, andV_ok, orV_ok, notV_ok, ch_ok, tr_ok, b_ok, and_ok, or_ok, not_ok, yes_ok, no_ok, is_ok, sl_ok, call_ok, mt_ok, opF_ok, iv_ok, ir_ok, lc_ok, el1_ok, ok_ok, mV, mVs, gP, pkV, entE, setFs, frz, ownL, gN, gTp, gCn, gNl, wipeE, isB_bl, tr_bl, isStr, isLst, addO_ll, addO_tt, addO_ss, fits, decide_eq_true_eq, Nat.reduceLeDiff, List.map_cons, List.map_nil, List.length_cons, List.length_nil, List.replicate, List.cons_append, List.nil_append, List.append_nil, List.getElem?_cons_zero, List.getElem?_cons_succ, List.set, List.getD_cons_zero, List.getD_cons_succ, Nat.reduceAdd, Nat.reduceSub, Nat.reduceLT, and_self, true_and, and_true, if_true, ↓reduceIte, Option.some.injEq, exists_eq_left', exists_eq_left, exists_eq', exists_eq, D.int.injEq, D.bl.injEq, D.lst.injEq, D.tup.injEq, Nat.reduceEqDiff, forall_const, reduceCtorEq, false_implies, Bool.true_eq_false, Bool.false_eq_true, implies_true, ok_of nb, itemsD]
  refine for_inv _ (fun i ρ g' => ∃ (s4 s5 s6 s7 : Sl), ρ = [.val (rulD rows rd), .val (.lst ((prs true rows rows.length).map p2)), .val (.lst ((List.range rows.length).map fun q => .tup ((numL (prs true rows rows.length) q).map nD))), .own (.lst (((prs true rows rows.length).take i).map (stdG rows))), s4, s5, s6, s7] ∧ g' = g) _ _ ⟨_, _, _, _, rfl, rfl⟩ (fun i d ρ g' hd hI => ?_) (fun ρ g' hI => ?_)
  · obtain ⟨s4, s5, s6, s7, rfl, rfl⟩ := hI
    rw [List.getElem?_map] at hd
    obtain ⟨p, hp, rfl⟩ := Option.map_eq_some_iff.mp hd
    have hpm := List.mem_of_getElem? hp
    have hq := (prs_mem hpm).1
    have so := (sd_ok W false hq).1
    have ex := rw_s false hq
    have ex : idxO (rwD rows[p.1]) (.int 1) = _ := ex
    refine ⟨_, rfl, ?_⟩
    simp only [den_ok, srt_ok, seq_ok, nx_ok, set_ok, drop_ok, sif_ok, ow_ok, fz_ok, fzz_ok, app_ok, ext_ok, par_ok, asg_ok, for_ok, fcons_ok, fnil_ok, op_ok, un_ok, c_ok, nil_ok, cons_ok, tup_ok, lst_ok, if_ok, andV_ok, orV_ok, notV_ok, ch_ok, tr_ok, b_ok, and_ok, or_ok, not_ok, yes_ok, no_ok, is_ok, sl_ok, call_ok, mt_ok, opF_ok, iv_ok, ir_ok, lc_ok, el1_ok, ok_ok, mV, mVs, gP, pkV, entE, setFs, frz, ownL, gN, gTp, gCn, gNl, wipeE, isB_bl, tr_bl, isStr, isLst, addO_ll, addO_tt, addO_ss, fits, decide_eq_true_eq, Nat.reduceLeDiff, List.map_cons, List.map_nil, List.length_cons, List.length_nil, List.replicate, List.cons_append, List.nil_append, List.append_nil, List.getElem?_cons_zero, List.getElem?_cons_succ, List.set, List.getD_cons_zero, List.getD_cons_succ, Nat.reduceAdd, Nat.reduceSub, Nat.reduceLT, and_self, true_and, and_true, if_true, ↓reduceIte, Option.some.injEq, exists_eq_left', exists_eq_left, exists_eq', exists_eq, D.int.injEq, D.bl.injEq, D.lst.injEq, D.tup.injEq, Nat.reduceEqDiff, forall_const, reduceCtorEq, false_implies, Bool.true_eq_false, Bool.false_eq_true, implies_true, rul_0, row_at hq, ex, itemsD]
    rw [ga_map _ _ (f := fun u : Str => [hrD (hrG rows p u)]) fun u hu => ⟨_, rfl, ?_⟩, flat1]
    · simp only [den_ok, srt_ok, seq_ok, nx_ok, set_ok, drop_ok, sif_ok, ow_ok, fz_ok, fzz_ok, app_ok, ext_ok, par_ok, asg_ok, for_ok, fcons_ok, fnil_ok, op_ok, un_ok, c_ok, nil_ok, cons_ok, tup_ok, lst_ok, if_ok, andV_ok, orV_ok, notV_ok, ch_ok, tr_ok, b_ok, and_ok, or_ok, not_ok, yes_ok, no_ok, is_ok, sl_ok, call_ok, mt_ok, opF_ok, iv_ok, ir_ok, lc_ok, el1_ok, ok_ok, mV, mVs, gP, pkV, entE, setFs, frz, ownL, gN, gTp, gCn, gNl, wipeE, isB_bl, tr_bl, isStr, isLst, addO_ll, addO_tt, addO_ss, fits, decide_eq_true_eq, Nat.reduceLeDiff, List.map_cons, List.map_nil, List.length_cons, List.length_nil, List.replicate, List.cons_append, List.nil_append, List.append_nil, List.getElem?_cons_zero, List.getElem?_cons_succ, List.set, List.getD_cons_zero, List.getD_cons_succ, Nat.reduceAdd, Nat.reduceSub, Nat.reduceLT, and_self, true_and, and_true, if_true, ↓reduceIte, Option.some.injEq, exists_eq_left', exists_eq_left, exists_eq', exists_eq, D.int.injEq, D.bl.injEq, D.lst.injEq, D.tup.injEq, Nat.reduceEqDiff, forall_const, reduceCtorEq, false_implies, Bool.true_eq_false, Bool.false_eq_true, implies_true, List.length_map, tupleO, List.length_take]
      rw [take_one hp, List.map_append]
      exact ⟨by omega, by omega, _, _, _, _, rfl⟩
    · obtain ⟨hq2, ma, mb, eg, lg⟩ := tgG W hpm hu
      have nx := next_ok (g := g') W hq ma mb
      rw [← eg] at nx
      refine Res.Ok.eq ?_
      simp only [den_ok, srt_ok, seq_ok, nx_ok, set_ok, drop_ok, sif_ok, ow_ok, fz_ok, fzz_ok, app_ok, ext_ok, par_ok, asg_ok, for_ok, fcons_ok, fnil_ok, op_ok, un_ok, c_ok, nil_ok, cons_ok, tup_ok, lst_ok, if_ok, andV_ok, orV_ok, notV_ok, ch_ok, tr_ok, b_ok, and_ok, or_ok, not_ok, yes_ok, no_ok, is_ok, sl_ok, call_ok, mt_ok, opF_ok, iv_ok, ir_ok, lc_ok, el1_ok, ok_ok, mV, mVs, gP, pkV, entE, setFs, frz, ownL, gN, gTp, gCn, gNl, wipeE, isB_bl, tr_bl, isStr, isLst, addO_ll, addO_tt, addO_ss, fits, decide_eq_true_eq, Nat.reduceLeDiff, List.map_cons, List.map_nil, List.length_cons, List.length_nil, List.replicate, List.cons_append, List.nil_append, List.append_nil, List.getElem?_cons_zero, List.getElem?_cons_succ, List.set, List.getD_cons_zero, List.getD_cons_succ, Nat.reduceAdd, Nat.reduceSub, Nat.reduceLT, and_self, true_and, and_true, if_true, ↓reduceIte, Option.some.injEq, exists_eq_left', exists_eq_left, exists_eq', exists_eq, D.int.injEq, D.bl.injEq, D.lst.injEq, D.tup.injEq, Nat.reduceEqDiff, forall_const, reduceCtorEq, false_implies, Bool.true_eq_false, Bool.false_eq_true, implies_true, ok_of nx, ix_num lg]
      first | rfl | exact trivial
  · obtain ⟨s4, s5, s6, s7, rfl, rfl⟩ := hI
    rw [List.length_map, List.take_length]
    simp only [den_ok, srt_ok, seq_ok, nx_ok, set_ok, drop_ok, sif_ok, ow_ok, fz_ok, fzz_ok, app_ok, ext_ok, par_ok, asg_ok, for_ok, fcons_ok, fnil_ok, op_ok, un_ok, c_ok, nil_ok, cons_ok, tup_ok, lst_ok, if_ok, andV_ok, orV_ok, notV_ok, ch_ok, tr_ok, b_ok, and_ok, or_ok, not_ok, yes_ok, no_ok, is_ok, sl_ok, call_ok, mt_ok, opF_ok, iv_ok, ir_ok, lc_ok, el1_ok, ok_ok, mV, mVs, gP, pkV, entE, setFs, frz, ownL, gN, gTp, gCn, gNl, wipeE, isB_bl, tr_bl, isStr, isLst, addO_ll, addO_tt, addO_ss, fits, decide_eq_true_eq, Nat.reduceLeDiff, List.map_cons, List.map_nil, List.length_cons, List.length_nil, List.replicate, List.cons_append, List.nil_append, List.append_nil, List.getElem?_cons_zero, List.getElem?_cons_succ, List.set, List.getD_cons_zero, List.getD_cons_succ, Nat.reduceAdd, Nat.reduceSub, Nat.reduceLT, and_self, true_and, and_true, if_true, ↓reduceIte, Option.some.injEq, exists_eq_left', exists_eq_left, exists_eq', exists_eq, D.int.injEq, D.bl.injEq, D.lst.injEq, D.tup.injEq, Nat.reduceEqDiff, forall_const, reduceCtorEq, false_implies, Bool.true_eq_false, Bool.false_eq_true, implies_true, ix_num h0, tupleO]
    exact ⟨_, ix_num h0, rfl⟩
theorem strangerG (W : WfRul rows rd) : den__law_stranger [rulD rows rd, .bl true] g = .ok (.tup [.tup ((numD rows true 0).map nD), .tup ((prs true rows rows.length).map (stdG rows))]) g := by
  have hn := W.n.2
  have hl := prs_len W true (Nat.le_refl _)
  have nums : ∀ (t i : Nat) (g : G) (ρ : Z.Env) (e : Ev), ρ[2]? = some (.val (.lst ((prs true rows rows.length).map p2))) → 11 < ρ.length → (∀ k, e (ρ.set 11 (.val (nD k))) g = .ok (nD t) g) → gaL (gN 11) (el1 (mB (mOp eqF (mOp idxO (mOp idxO (mV 2) (mV 11)) (mC (.int 0))) e)) (mVs 11)) ρ ((List.range (prs true rows rows.length).length).map nD) g = .ok ((numD rows true t).map nD) g := by
    intro t i g ρ e h2 h11 he
    rw [ga_map _ _ (f := fun k : Nat => if isQ (prs true rows rows.length) t k = true then [nD k] else []) fun k hk => ⟨_, rfl, ?_⟩, sel_flat (isQ (prs true rows rows.length) t) nD]
    · rfl
    · have hk := List.mem_range.mp hk
      have e2 : (ρ.set 11 (.val (nD k)))[2]? = some (.val (.lst ((prs true rows rows.length).map p2))) := by rw [List.getElem?_set_ne (by decide)]; exact h2
      have e11 : (ρ.set 11 (.val (nD k)))[11]? = some (.val (nD k)) := List.getElem?_set_self h11
      simp only [gN, el1, mB, mOp, mV, mVs, mC, e2, e11, he k, Res.bind, ret, ix_p2 hk, p2_0, eqF_nn, isB, isQ_eq hk]
      cases ((prs true rows rows.length)[k].1 == t) <;> rfl
  refine Res.Ok.eq ?_
  unfold den__law_stranger m__law_stranger m__law_stranger_1
  simp only [den_ok, srt_ok, seq_ok, nx_ok, set_ok, drop_ok, sif_ok, ow_ok, fz_ok, fzz_ok, app_ok, ext_ok, par_ok, asg_ok, for_ok, fcons_ok, fnil_ok, op_ok, un_ok, c_ok, nil_ok, cons_ok, tup_ok, lst_ok, if_ok, andV_ok, orV_ok, notV_ok, ch_ok, tr_ok, b_ok, and_ok, or_ok, not_ok, yes_ok, no_ok, is_ok, sl_ok, call_ok, mt_ok, opF_ok, iv_ok, ir_ok, lc_ok, el1_ok, ok_ok, mV, mVs, gP, pkV, entE, setFs, frz, ownL, gN, gTp, gCn, gNl, wipeE, isB_bl, tr_bl, isStr, isLst, addO_ll, addO_tt, addO_ss, fits, decide_eq_true_eq, Nat.reduceLeDiff, List.map_cons, List.map_nil, List.length_cons, List.length_nil, List.replicate, List.cons_append, List.nil_append, List.append_nil, List.getElem?_cons_zero, List.getElem?_cons_succ, List.set, List.getD_cons_zero, List.getD_cons_succ, Nat.reduceAdd, Nat.reduceSub, Nat.reduceLT, and_self, true_and, and_true, if_true, ↓reduceIte, Option.some.injEq, exists_eq_left', exists_eq_left, exists_eq', exists_eq, D.int.injEq, D.bl.injEq, D.lst.injEq, D.tup.injEq, Nat.reduceEqDiff, forall_const, reduceCtorEq, false_implies, Bool.true_eq_false, Bool.false_eq_true, implies_true, rul_0, len_tup, List.length_map]
  refine ⟨_, rfl, by omega, ?_⟩
  refine for_inv _ (fun i ρ g' => ∃ (s3 s5 : Sl), ρ = [.val (rulD rows rd), .val (.bl true), .val (.lst ((prs true rows i).map p2)), s3, .no, s5, .no, .no, .no, .no, .no, .no] ∧ g' = g) _ _ ⟨_, _, rfl, rfl⟩ (fun i d ρ g' hd hI => ?_) (fun ρ g' hI => ?_)
  · obtain ⟨s3, s5, rfl, rfl⟩ := hI
    obtain ⟨hi, rfl⟩ := rng_get hd
    have hi : i < rows.length := by simpa using hi
    have so := (sd_ok W true hi).1
    have pl := prs_len W true (n := i) (by omega)
    have ex := rw_s true hi
    have ex : idxO (rwD rows[i]) (.int 0) = _ := ex
    refine ⟨_, rfl, ?_⟩
    simp only [den_ok, srt_ok, seq_ok, nx_ok, set_ok, drop_ok, sif_ok, ow_ok, fz_ok, fzz_ok, app_ok, ext_ok, par_ok, asg_ok, for_ok, fcons_ok, fnil_ok, op_ok, un_ok, c_ok, nil_ok, cons_ok, tup_ok, lst_ok, if_ok, andV_ok, orV_ok, notV_ok, ch_ok, tr_ok, b_ok, and_ok, or_ok, not_ok, yes_ok, no_ok, is_ok, sl_ok, call_ok, mt_ok, opF_ok, iv_ok, ir_ok, lc_ok, el1_ok, ok_ok, mV, mVs, gP, pkV, entE, setFs, frz, ownL, gN, gTp, gCn, gNl, wipeE, isB_bl, tr_bl, isStr, isLst, addO_ll, addO_tt, addO_ss, fits, decide_eq_true_eq, Nat.reduceLeDiff, List.map_cons, List.map_nil, List.length_cons, List.length_nil, List.replicate, List.cons_append, List.nil_append, List.append_nil, List.getElem?_cons_zero, List.getElem?_cons_succ, List.set, List.getD_cons_zero, List.getD_cons_succ, Nat.reduceAdd, Nat.reduceSub, Nat.reduceLT, and_self, true_and, and_true, if_true, ↓reduceIte, Option.some.injEq, exists_eq_left', exists_eq_left, exists_eq', exists_eq, D.int.injEq, D.bl.injEq, D.lst.injEq, D.tup.injEq, Nat.reduceEqDiff, forall_const, reduceCtorEq, false_implies, Bool.true_eq_false, Bool.false_eq_true, implies_true, rul_0, row_at hi, ex, itemsD]
    rw [ga_map _ _ (f := fun u : Str => [p2 (i, u)]) fun u hu => ⟨_, rfl, Res.Ok.eq (by simp only [den_ok, srt_ok, seq_ok, nx_ok, set_ok, drop_ok, sif_ok, ow_ok, fz_ok, fzz_ok, app_ok, ext_ok, par_ok, asg_ok, for_ok, fcons_ok, fnil_ok, op_ok, un_ok, c_ok, nil_ok, cons_ok, tup_ok, lst_ok, if_ok, andV_ok, orV_ok, notV_ok, ch_ok, tr_ok, b_ok, and_ok, or_ok, not_ok, yes_ok, no_ok, is_ok, sl_ok, call_ok, mt_ok, opF_ok, iv_ok, ir_ok, lc_ok, el1_ok, ok_ok, mV, mVs, gP, pkV, entE, setFs, frz, ownL, gN, gTp, gCn, gNl, wipeE, isB_bl, tr_bl, isStr, isLst, addO_ll, addO_tt, addO_ss, fits, decide_eq_true_eq, Nat.reduceLeDiff, List.map_cons, List.map_nil, List.length_cons, List.length_nil, List.replicate, List.cons_append, List.nil_append, List.append_nil, List.getElem?_cons_zero, List.getElem?_cons_succ, List.set, List.getD_cons_zero, List.getD_cons_succ, Nat.reduceAdd, Nat.reduceSub, Nat.reduceLT, and_self, true_and, and_true, if_true, ↓reduceIte, Option.some.injEq, exists_eq_left', exists_eq_left, exists_eq', exists_eq, D.int.injEq, D.bl.injEq, D.lst.injEq, D.tup.injEq, Nat.reduceEqDiff, forall_const, reduceCtorEq, false_implies, Bool.true_eq_false, Bool.false_eq_true, implies_true])⟩, flat1]
    simp only [den_ok, srt_ok, seq_ok, nx_ok, set_ok, drop_ok, sif_ok, ow_ok, fz_ok, fzz_ok, app_ok, ext_ok, par_ok, asg_ok, for_ok, fcons_ok, fnil_ok, op_ok, un_ok, c_ok, nil_ok, cons_ok, tup_ok, lst_ok, if_ok, andV_ok, orV_ok, notV_ok, ch_ok, tr_ok, b_ok, and_ok, or_ok, not_ok, yes_ok, no_ok, is_ok, sl_ok, call_ok, mt_ok, opF_ok, iv_ok, ir_ok, lc_ok, el1_ok, ok_ok, mV, mVs, gP, pkV, entE, setFs, frz, ownL, gN, gTp, gCn, gNl, wipeE, isB_bl, tr_bl, isStr, isLst, addO_ll, addO_tt, addO_ss, fits, decide_eq_true_eq, Nat.reduceLeDiff, List.map_cons, List.map_nil, List.length_cons, List.length_nil, List.replicate, List.cons_append, List.nil_append, List.append_nil, List.getElem?_cons_zero, List.getElem?_cons_succ, List.set, List.getD_cons_zero, List.getD_cons_succ, Nat.reduceAdd, Nat.reduceSub, Nat.reduceLT, and_self, true_and, and_true, if_true, ↓reduceIte, Option.some.injEq, exists_eq_left', exists_eq_left, exists_eq', exists_eq, D.int.injEq, D.bl.injEq, D.lst.injEq, D.tup.injEq, Nat.reduceEqDiff, forall_const, reduceCtorEq, false_implies, Bool.true_eq_false, Bool.false_eq_true, implies_true, List.length_map]
    refine ⟨by omega, ?_⟩
    rw [if_pos (by omega)]
    rw [prs_succ, List.map_append, List.map_map]
    exact ⟨_, rfl, _, _, rfl⟩
  · obtain ⟨s3, s5, rfl, rfl⟩ := hI
    rw [rng_len, Int.toNat_natCast]
    unfold m__law_stranger_2 m__law_stranger_3
    simp only [den_ok, srt_ok, seq_ok, nx_ok, set_ok, drop_ok, sif_ok, ow_ok, fz_ok, fzz_ok, app_ok, ext_ok, par_ok, asg_ok, for_ok, fcons_ok, fnil_ok, op_ok, un_ok, c_ok, nil_ok, cons_ok, tup_ok, lst_ok, if_ok, andV_ok, orV_ok, notV_ok, ch_ok, tr_ok, b_ok, and_ok, or_ok, not_ok, yes_ok, no_ok, is_ok, sl_ok, call_ok, mt_ok, opF_ok, iv_ok, ir_ok, lc_ok, el1_ok, ok_ok, mV, mVs, gP, pkV, entE, setFs, frz, ownL, gN, gTp, gCn, gNl, wipeE, isB_bl, tr_bl, isStr, isLst, addO_ll, addO_tt, addO_ss, fits, decide_eq_true_eq, Nat.reduceLeDiff, List.map_cons, List.map_nil, List.length_cons, List.length_nil, List.replicate, List.cons_append, List.nil_append, List.append_nil, List.getElem?_cons_zero, List.getElem?_cons_succ, List.set, List.getD_cons_zero, List.getD_cons_succ, Nat.reduceAdd, Nat.reduceSub, Nat.reduceLT, and_self, true_and, and_true, if_true, ↓reduceIte, Option.some.injEq, exists_eq_left', exists_eq_left, exists_eq', exists_eq, D.int.injEq, D.bl.injEq, D.lst.injEq, D.tup.injEq, Nat.reduceEqDiff, forall_const, reduceCtorEq, false_implies, Bool.true_eq_false, Bool.false_eq_true, implies_true, itemsD]
    refine for_inv _ (fun i ρ g'' => ∃ (s3 s5 s6 s7 s8 s9 s10 s11 : Sl), ρ = [.val (rulD rows rd), .val (.bl true), .val (.lst ((prs true rows rows.length).map p2)), s3, .own (.lst (((prs true rows rows.length).take i).map (stdG rows))), s5, s6, s7, s8, s9, s10, s11] ∧ g'' = g') _ _ ⟨_, _, _, _, _, _, _, _, rfl, rfl⟩ (fun i d ρ g'' hd hI => ?_) (fun ρ g'' hI => ?_)
    · obtain ⟨s3, s5, s6, s7, s8, s9, s10, s11, rfl, rfl⟩ := hI
      rw [List.getElem?_map] at hd
      obtain ⟨p, hp, rfl⟩ := Option.map_eq_some_iff.mp hd
      have hpm := List.mem_of_getElem? hp
      have hq := (prs_mem hpm).1
      have hps : sgn p.2 = true := (sd_ok W true hq).2.1 p.2 (prs_mem hpm).2
      have so := sd_ok W false hq
      have ex := rw_s false hq
      have ex : idxO (rwD rows[p.1]) (.int 1) = _ := ex
      refine ⟨_, rfl, ?_⟩
      simp only [den_ok, srt_ok, seq_ok, nx_ok, set_ok, drop_ok, sif_ok, ow_ok, fz_ok, fzz_ok, app_ok, ext_ok, par_ok, asg_ok, for_ok, fcons_ok, fnil_ok, op_ok, un_ok, c_ok, nil_ok, cons_ok, tup_ok, lst_ok, if_ok, andV_ok, orV_ok, notV_ok, ch_ok, tr_ok, b_ok, and_ok, or_ok, not_ok, yes_ok, no_ok, is_ok, sl_ok, call_ok, mt_ok, opF_ok, iv_ok, ir_ok, lc_ok, el1_ok, ok_ok, mV, mVs, gP, pkV, entE, setFs, frz, ownL, gN, gTp, gCn, gNl, wipeE, isB_bl, tr_bl, isStr, isLst, addO_ll, addO_tt, addO_ss, fits, decide_eq_true_eq, Nat.reduceLeDiff, List.map_cons, List.map_nil, List.length_cons, List.length_nil, List.replicate, List.cons_append, List.nil_append, List.append_nil, List.getElem?_cons_zero, List.getElem?_cons_succ, List.set, List.getD_cons_zero, List.getD_cons_succ, Nat.reduceAdd, Nat.reduceSub, Nat.reduceLT, and_self, true_and, and_true, if_true, ↓reduceIte, Option.some.injEq, exists_eq_left', exists_eq_left, exists_eq', exists_eq, D.int.injEq, D.bl.injEq, D.lst.injEq, D.tup.injEq, Nat.reduceEqDiff, forall_const, reduceCtorEq, false_implies, Bool.true_eq_false, Bool.false_eq_true, implies_true, rul_0, row_at hq, ex, itemsD]
      refine for_inv _ (fun j ρ g3 => ∃ (s7 s8 s9 s11 : Sl), ρ = [.val (rulD rows rd), .val (.bl true), .val (.lst ((prs true rows rows.length).map p2)), .val (nD p.1), .own (.lst (((prs true rows rows.length).take i).map (stdG rows))), .val (.str p.2), .own (.lst (((sdAt false rows p.1).take j).map fun u => hrD (hrG rows p u))), s7, s8, s9, s10, s11] ∧ g3 = g'') _ _ ⟨_, _, _, _, rfl, rfl⟩ (fun j d ρ g3 hd hI => ?_) (fun ρ g3 hI => ?_)
      · obtain ⟨s7, s8, s9, s11, rfl, rfl⟩ := hI
        rw [List.getElem?_map] at hd
        obtain ⟨u, hu2, rfl⟩ := Option.map_eq_some_iff.mp hd
        have hu := List.mem_of_getElem? hu2
        obtain ⟨hq2, ma, mb, eg, lg⟩ := tgG W hpm hu
        have nx := state_ok (g := g3) W hq ma mb
        rw [← eg] at nx
        have nl : (numD rows true (goR rows p.1 p.2 u)).length ≤ _ := numL_le (prs true rows rows.length) (goR rows p.1 p.2 u)
        refine ⟨_, rfl, ?_⟩
        simp only [den_ok, srt_ok, seq_ok, nx_ok, set_ok, drop_ok, sif_ok, ow_ok, fz_ok, fzz_ok, app_ok, ext_ok, par_ok, asg_ok, for_ok, fcons_ok, fnil_ok, op_ok, un_ok, c_ok, nil_ok, cons_ok, tup_ok, lst_ok, if_ok, andV_ok, orV_ok, notV_ok, ch_ok, tr_ok, b_ok, and_ok, or_ok, not_ok, yes_ok, no_ok, is_ok, sl_ok, call_ok, mt_ok, opF_ok, iv_ok, ir_ok, lc_ok, el1_ok, ok_ok, mV, mVs, gP, pkV, entE, setFs, frz, ownL, gN, gTp, gCn, gNl, wipeE, isB_bl, tr_bl, isStr, isLst, addO_ll, addO_tt, addO_ss, fits, decide_eq_true_eq, Nat.reduceLeDiff, List.map_cons, List.map_nil, List.length_cons, List.length_nil, List.replicate, List.cons_append, List.nil_append, List.append_nil, List.getElem?_cons_zero, List.getElem?_cons_succ, List.set, List.getD_cons_zero, List.getD_cons_succ, Nat.reduceAdd, Nat.reduceSub, Nat.reduceLT, and_self, true_and, and_true, if_true, ↓reduceIte, Option.some.injEq, exists_eq_left', exists_eq_left, exists_eq', exists_eq, D.int.injEq, D.bl.injEq, D.lst.injEq, D.tup.injEq, Nat.reduceEqDiff, forall_const, reduceCtorEq, false_implies, Bool.true_eq_false, Bool.false_eq_true, implies_true, ok_of nx, len_lst, List.length_map]
        refine ⟨_, rfl, by omega, ?_⟩
        rw [Int.toNat_natCast, rng_eq, nums (goR rows p.1 p.2 u) i g3 _ _ rfl (by simp) (fun k => rfl)]
        simp only [den_ok, srt_ok, seq_ok, nx_ok, set_ok, drop_ok, sif_ok, ow_ok, fz_ok, fzz_ok, app_ok, ext_ok, par_ok, asg_ok, for_ok, fcons_ok, fnil_ok, op_ok, un_ok, c_ok, nil_ok, cons_ok, tup_ok, lst_ok, if_ok, andV_ok, orV_ok, notV_ok, ch_ok, tr_ok, b_ok, and_ok, or_ok, not_ok, yes_ok, no_ok, is_ok, sl_ok, call_ok, mt_ok, opF_ok, iv_ok, ir_ok, lc_ok, el1_ok, ok_ok, mV, mVs, gP, pkV, entE, setFs, frz, ownL, gN, gTp, gCn, gNl, wipeE, isB_bl, tr_bl, isStr, isLst, addO_ll, addO_tt, addO_ss, fits, decide_eq_true_eq, Nat.reduceLeDiff, List.map_cons, List.map_nil, List.length_cons, List.length_nil, List.replicate, List.cons_append, List.nil_append, List.append_nil, List.getElem?_cons_zero, List.getElem?_cons_succ, List.set, List.getD_cons_zero, List.getD_cons_succ, Nat.reduceAdd, Nat.reduceSub, Nat.reduceLT, and_self, true_and, and_true, if_true, ↓reduceIte, Option.some.injEq, exists_eq_left', exists_eq_left, exists_eq', exists_eq, D.int.injEq, D.bl.injEq, D.lst.injEq, D.tup.injEq, Nat.reduceEqDiff, forall_const, reduceCtorEq, false_implies, Bool.true_eq_false, Bool.false_eq_true, implies_true, List.length_map, tupleO, List.length_take]
        rw [take_one hu2, List.map_append]
        exact ⟨by omega, by omega, _, _, _, _, rfl⟩
      · obtain ⟨s7, s8, s9, s11, rfl, rfl⟩ := hI
        rw [List.length_map, List.take_length]
        have ss := sort_self (ms := (sdAt false rows p.1).map fun u => hrG rows p u) (fun m hm => by
          obtain ⟨u, hu, rfl⟩ := List.mem_map.mp hm
          exact hrN_fit W true _ none_sgn (so.2.1 u hu)) (by rw [List.length_map]; omega) (List.pairwise_map.mpr (so.2.2.imp fun {x y} h => .inr ⟨rfl, h⟩))
        rw [List.map_map] at ss
        have ss : sortedF (.lst ((sdAt false rows p.1).map fun u => hrD (hrG rows p u))) = some (.lst ((sdAt false rows p.1).map fun u => hrD (hrG rows p u))) := ss
        simp only [den_ok, srt_ok, seq_ok, nx_ok, set_ok, drop_ok, sif_ok, ow_ok, fz_ok, fzz_ok, app_ok, ext_ok, par_ok, asg_ok, for_ok, fcons_ok, fnil_ok, op_ok, un_ok, c_ok, nil_ok, cons_ok, tup_ok, lst_ok, if_ok, andV_ok, orV_ok, notV_ok, ch_ok, tr_ok, b_ok, and_ok, or_ok, not_ok, yes_ok, no_ok, is_ok, sl_ok, call_ok, mt_ok, opF_ok, iv_ok, ir_ok, lc_ok, el1_ok, ok_ok, mV, mVs, gP, pkV, entE, setFs, frz, ownL, gN, gTp, gCn, gNl, wipeE, isB_bl, tr_bl, isStr, isLst, addO_ll, addO_tt, addO_ss, fits, decide_eq_true_eq, Nat.reduceLeDiff, List.map_cons, List.map_nil, List.length_cons, List.length_nil, List.replicate, List.cons_append, List.nil_append, List.append_nil, List.getElem?_cons_zero, List.getElem?_cons_succ, List.set, List.getD_cons_zero, List.getD_cons_succ, Nat.reduceAdd, Nat.reduceSub, Nat.reduceLT, and_self, true_and, and_true, if_true, ↓reduceIte, Option.some.injEq, exists_eq_left', exists_eq_left, exists_eq', exists_eq, D.int.injEq, D.bl.injEq, D.lst.injEq, D.tup.injEq, Nat.reduceEqDiff, forall_const, reduceCtorEq, false_implies, Bool.true_eq_false, Bool.false_eq_true, implies_true, ss, tupleO, List.length_take, List.length_map]
        rw [take_one hp, List.map_append]
        exact ⟨by omega, _, _, _, _, _, _, _, _, rfl⟩
    · obtain ⟨s3, s5, s6, s7, s8, s9, s10, s11, rfl, rfl⟩ := hI
      rw [List.length_map, List.take_length]
      unfold m__law_stranger_4
      have nl : (numD rows true 0).length ≤ _ := numL_le (prs true rows rows.length) 0
      simp only [den_ok, srt_ok, seq_ok, nx_ok, set_ok, drop_ok, sif_ok, ow_ok, fz_ok, fzz_ok, app_ok, ext_ok, par_ok, asg_ok, for_ok, fcons_ok, fnil_ok, op_ok, un_ok, c_ok, nil_ok, cons_ok, tup_ok, lst_ok, if_ok, andV_ok, orV_ok, notV_ok, ch_ok, tr_ok, b_ok, and_ok, or_ok, not_ok, yes_ok, no_ok, is_ok, sl_ok, call_ok, mt_ok, opF_ok, iv_ok, ir_ok, lc_ok, el1_ok, ok_ok, mV, mVs, gP, pkV, entE, setFs, frz, ownL, gN, gTp, gCn, gNl, wipeE, isB_bl, tr_bl, isStr, isLst, addO_ll, addO_tt, addO_ss, fits, decide_eq_true_eq, Nat.reduceLeDiff, List.map_cons, List.map_nil, List.length_cons, List.length_nil, List.replicate, List.cons_append, List.nil_append, List.append_nil, List.getElem?_cons_zero, List.getElem?_cons_succ, List.set, List.getD_cons_zero, List.getD_cons_succ, Nat.reduceAdd, Nat.reduceSub, Nat.reduceLT, and_self, true_and, and_true, if_true, ↓reduceIte, Option.some.injEq, exists_eq_left', exists_eq_left, exists_eq', exists_eq, D.int.injEq, D.bl.injEq, D.lst.injEq, D.tup.injEq, Nat.reduceEqDiff, forall_const, reduceCtorEq, false_implies, Bool.true_eq_false, Bool.false_eq_true, implies_true, len_lst, List.length_map]
      refine ⟨_, rfl, by omega, ?_⟩
      rw [Int.toNat_natCast, rng_eq, nums 0 0 g'' _ _ rfl (by simp) (fun k => rfl)]
      simp only [den_ok, srt_ok, seq_ok, nx_ok, set_ok, drop_ok, sif_ok, ow_ok, fz_ok, fzz_ok, app_ok, ext_ok, par_ok, asg_ok, for_ok, fcons_ok, fnil_ok, op_ok, un_ok, c_ok, nil_ok, cons_ok, tup_ok, lst_ok, if_ok, andV_ok, orV_ok, notV_ok, ch_ok, tr_ok, b_ok, and_ok, or_ok, not_ok, yes_ok, no_ok, is_ok, sl_ok, call_ok, mt_ok, opF_ok, iv_ok, ir_ok, lc_ok, el1_ok, ok_ok, mV, mVs, gP, pkV, entE, setFs, frz, ownL, gN, gTp, gCn, gNl, wipeE, isB_bl, tr_bl, isStr, isLst, addO_ll, addO_tt, addO_ss, fits, decide_eq_true_eq, Nat.reduceLeDiff, List.map_cons, List.map_nil, List.length_cons, List.length_nil, List.replicate, List.cons_append, List.nil_append, List.append_nil, List.getElem?_cons_zero, List.getElem?_cons_succ, List.set, List.getD_cons_zero, List.getD_cons_succ, Nat.reduceAdd, Nat.reduceSub, Nat.reduceLT, and_self, true_and, and_true, if_true, ↓reduceIte, Option.some.injEq, exists_eq_left', exists_eq_left, exists_eq', exists_eq, D.int.injEq, D.bl.injEq, D.lst.injEq, D.tup.injEq, Nat.reduceEqDiff, forall_const, reduceCtorEq, false_implies, Bool.true_eq_false, Bool.false_eq_true, implies_true, List.length_map, tupleO]
      omega
end

/-! ### taker -/
section
variable {rows : List Rw} {rd : List Str} {g : G}
def hrT (rows : List Rw) (p : Nat × Str) (u : Str) : Hr := (u, "none", numD rows false (goR rows p.1 u p.2))
def stdT (rows : List Rw) (p : Nat × Str) : D := .tup [.str p.2, .str "none", .tup [], .tup ((sdAt true rows p.1).map fun u => hrD (hrT rows p u))]
theorem tgT (W : WfRul rows rd) {p : Nat × Str} (hp : p ∈ prs false rows rows.length) {u : Str} (hu : u ∈ sdAt true rows p.1) : ∃ hq : p.1 < rows.length, u ∈ rows[p.1].1 ∧ p.2 ∈ rows[p.1].2.1 ∧ goR rows p.1 u p.2 = go rows[p.1].2.2 u p.2 ∧ goR rows p.1 u p.2 < rows.length := by
  obtain ⟨h1, h2⟩ := prs_mem hp
  have R := W.r rows[p.1] (List.getElem_mem _)
  rw [sdAt_eq h1] at h2 hu
  have h2 : p.2 ∈ rows[p.1].2.1 := h2
  have hu : u ∈ rows[p.1].1 := hu
  refine ⟨h1, hu, h2, goR_eq h1, ?_⟩
  rw [goR_eq h1]
  exact (go_spec R hu h2).2.2
theorem freestT (W : WfRul rows rd) : den_freest_taker [rulD rows rd] g = .ok (.tup [.tup ((numD rows false 0).map nD), .tup ((prs false rows rows.length).map (stdT rows))]) g := by
  have hn := W.n.2
  have h0 : 0 < rows.length := List.length_pos_iff.mpr W.n.1
  have hl := prs_len W false (Nat.le_refl _)
  have nb := numbered_ok (g := g) W false
  have nb : den_numbered [rulD rows rd, .int 1] g = _ := nb
  refine Res.Ok.eq ?_
  unfold den_freest_taker m_freest_taker
  simp only [den_ok, srt_ok, seq_ok, nx_ok, set_ok, drop_ok, sif_ok, ow_ok, fz_ok, fzz_ok, app_ok, ext_ok, par_ok, asg_ok, for_ok, fcons_ok, fnil_ok, op_ok, un_ok, c_ok, nil_ok, cons_ok, tup_ok, lst_ok, if_ok, andV_ok, orV_ok, notV_ok, ch_ok, tr_ok, b_ok, and_ok, or_ok, not_ok, yes_ok, no_ok, is_ok, sl_ok, call_ok, mt_ok, opF_ok, iv_ok, ir_ok, lc_ok, el1_ok, ok_ok, mV, mVs, gP, pkV, entE, setFs, frz, ownL, gN, gTp, gCn, gNl, wipeE, isB_bl, tr_bl, isStr, isLst, addO_ll, addO_tt, addO_ss, fits, decide_eq_true_eq, Nat.reduceLeDiff, List.map_cons, List.map_nil, List.length_cons, List.length_nil, List.replicate, List.cons_append, List.nil_append, List.append_nil, List.getElem?_cons_zero, List.getElem?_cons_succ, List.set, List.getD_cons_zero, List.getD_cons_succ, Nat.reduceAdd, Nat.reduceSub, Nat.reduceLT, and_self, true_and, and_true, if_true, ↓reduceIte, Option.some.injEq, exists_eq_left', exists_eq_left, exists_eq', exists_eq, D.int.injEq, D.bl.injEq, D.lst.injEq, D.tup.injEq, Nat.reduceEqDiff, forall_const, reduceCtorEq, false_implies, Bool.true_eq_false, Bool.false_eq_true, implies_true, ok_of nb, itemsD]
  refine for_inv _ (fun i ρ g' => ∃ (s4 s5 s6 s7 : Sl), ρ = [.val (rulD rows rd), .val (.lst ((prs false rows rows.length).map p2)), .val (.lst ((List.range rows.length).map fun q => .tup ((numL (prs false rows rows.length) q).map nD))), .own (.lst (((prs false rows rows.length).take i).map (stdT rows))), s4, s5, s6, s7] ∧ g' = g) _ _ ⟨_, _, _, _, rfl, rfl⟩ (fun i d ρ g' hd hI => ?_) (fun ρ g' hI => ?_)
  · obtain ⟨s4, s5, s6, s7, rfl, rfl⟩ := hI
    rw [List.getElem?_map] at hd
    obtain ⟨p, hp, rfl⟩ := Option.map_eq_some_iff.mp hd
    have hpm := List.mem_of_getElem? hp
    have hq := (prs_mem hpm).1
    have so := (sd_ok W true hq).1
    have ex := rw_s true hq
    have ex : idxO (rwD rows[p.1]) (.int 0) = _ := ex
    refine ⟨_, rfl, ?_⟩
    simp only [den_ok, srt_ok, seq_ok, nx_ok, set_ok, drop_ok, sif_ok, ow_ok, fz_ok, fzz_ok, app_ok, ext_ok, par_ok, asg_ok, for_ok, fcons_ok, fnil_ok, op_ok, un_ok, c_ok, nil_ok, cons_ok, tup_ok, lst_ok, if_ok, andV_ok, orV_ok, notV_ok, ch_ok, tr_ok, b_ok, and_ok, or_ok, not_ok, yes_ok, no_ok, is_ok, sl_ok, call_ok, mt_ok, opF_ok, iv_ok, ir_ok, lc_ok, el1_ok, ok_ok, mV, mVs, gP, pkV, entE, setFs, frz, ownL, gN, gTp, gCn, gNl, wipeE, isB_bl, tr_bl, isStr, isLst, addO_ll, addO_tt, addO_ss, fits, decide_eq_true_eq, Nat.reduceLeDiff, List.map_cons, List.map_nil, List.length_cons, List.length_nil, List.replicate, List.cons_append, List.nil_append, List.append_nil, List.getElem?_cons_zero, List.getElem?_cons_succ, List.set, List.getD_cons_zero, List.getD_cons_succ, Nat.reduceAdd, Nat.reduceSub, Nat.reduceLT, and_self, true_and, and_true, if_true, ↓reduceIte, Option.some.injEq, exists_eq_left', exists_eq_left, exists_eq', exists_eq, D.int.injEq, D.bl.injEq, D.lst.injEq, D.tup.injEq, Nat.reduceEqDiff, forall_const, reduceCtorEq, false_implies, Bool.true_eq_false, Bool.false_eq_true, implies_true, rul_0, row_at hq, ex, itemsD]
    rw [ga_map _ _ (f := fun u : Str => [hrD (hrT rows p u)]) fun u hu => ⟨_, rfl, ?_⟩, flat1]
    · simp only [den_ok, srt_ok, seq_ok, nx_ok, set_ok, drop_ok, sif_ok, ow_ok, fz_ok, fzz_ok, app_ok, ext_ok, par_ok, asg_ok, for_ok, fcons_ok, fnil_ok, op_ok, un_ok, c_ok, nil_ok, cons_ok, tup_ok, lst_ok, if_ok, andV_ok, orV_ok, notV_ok, ch_ok, tr_ok, b_ok, and_ok, or_ok, not_ok, yes_ok, no_ok, is_ok, sl_ok, call_ok, mt_ok, opF_ok, iv_ok, ir_ok, lc_ok, el1_ok, ok_ok, mV, mVs, gP, pkV, entE, setFs, frz, ownL, gN, gTp, gCn, gNl, wipeE, isB_bl, tr_bl, isStr, isLst, addO_ll, addO_tt, addO_ss, fits, decide_eq_true_eq, Nat.reduceLeDiff, List.map_cons, List.map_nil, List.length_cons, List.length_nil, List.replicate, List.cons_append, List.nil_append, List.append_nil, List.getElem?_cons_zero, List.getElem?_cons_succ, List.set, List.getD_cons_zero, List.getD_cons_succ, Nat.reduceAdd, Nat.reduceSub, Nat.reduceLT, and_self, true_and, and_true, if_true, ↓reduceIte, Option.some.injEq, exists_eq_left', exists_eq_left, exists_eq', exists_eq, D.int.injEq, D.bl.injEq, D.lst.injEq, D.tup.injEq, Nat.reduceEqDiff, forall_const, reduceCtorEq, false_implies, Bool.true_eq_false, Bool.false_eq_true, implies_true, List.length_map, tupleO, List.length_take]
      rw [take_one hp, List.map_append]
      exact ⟨by omega, by omega, _, _, _, _, rfl⟩
    · obtain ⟨hq2, ma, mb, eg, lg⟩ := tgT W hpm hu
      have nx := next_ok (g := g') W hq ma mb
      rw [← eg] at nx
      refine Res.Ok.eq ?_
      simp only [den_ok, srt_ok, seq_ok, nx_ok, set_ok, drop_ok, sif_ok, ow_ok, fz_ok, fzz_ok, app_ok, ext_ok, par_ok, asg_ok, for_ok, fcons_ok, fnil_ok, op_ok, un_ok, c_ok, nil_ok, cons_ok, tup_ok, lst_ok, if_ok, andV_ok, orV_ok, notV_ok, ch_ok, tr_ok, b_ok, and_ok, or_ok, not_ok, yes_ok, no_ok, is_ok, sl_ok, call_ok, mt_ok, opF_ok, iv_ok, ir_ok, lc_ok, el1_ok, ok_ok, mV, mVs, gP, pkV, entE, setFs, frz, ownL, gN, gTp, gCn, gNl, wipeE, isB_bl, tr_bl, isStr, isLst, addO_ll, addO_tt, addO_ss, fits, decide_eq_true_eq, Nat.reduceLeDiff, List.map_cons, List.map_nil, List.length_cons, List.length_nil, List.replicate, List.cons_append, List.nil_append, List.append_nil, List.getElem?_cons_zero, List.getElem?_cons_succ, List.set, List.getD_cons_zero, List.getD_cons_succ, Nat.reduceAdd, Nat.reduceSub, Nat.reduceLT, and_self, true_and, and_true, if_true, ↓reduceIte, Option.some.injEq, exists_eq_left', exists_eq_left, exists_eq', exists_eq, D.int.injEq, D.bl.injEq, D.lst.injEq, D.tup.injEq, Nat.reduceEqDiff, forall_const, reduceCtorEq, false_implies, Bool.true_eq_false, Bool.false_eq_true, implies_true, ok_of nx, ix_num lg]
      first | rfl | exact trivial
  · obtain ⟨s4, s5, s6, s7, rfl, rfl⟩ := hI
    rw [List.length_map, List.take_length]
    simp only [den_ok, srt_ok, seq_ok, nx_ok, set_ok, drop_ok, sif_ok, ow_ok, fz_ok, fzz_ok, app_ok, ext_ok, par_ok, asg_ok, for_ok, fcons_ok, fnil_ok, op_ok, un_ok, c_ok, nil_ok, cons_ok, tup_ok, lst_ok, if_ok, andV_ok, orV_ok, notV_ok, ch_ok, tr_ok, b_ok, and_ok, or_ok, not_ok, yes_ok, no_ok, is_ok, sl_ok, call_ok, mt_ok, opF_ok, iv_ok, ir_ok, lc_ok, el1_ok, ok_ok, mV, mVs, gP, pkV, entE, setFs, frz, ownL, gN, gTp, gCn, gNl, wipeE, isB_bl, tr_bl, isStr, isLst, addO_ll, addO_tt, addO_ss, fits, decide_eq_true_eq, Nat.reduceLeDiff, List.map_cons, List.map_nil, List.length_cons, List.length_nil, List.replicate, List.cons_append, List.nil_append, List.append_nil, List.getElem?_cons_zero, List.getElem?_cons_succ, List.set, List.getD_cons_zero, List.getD_cons_succ, Nat.reduceAdd, Nat.reduceSub, Nat.reduceLT, and_self, true_and, and_true, if_true, ↓reduceIte, Option.some.injEq, exists_eq_left', exists_eq_left, exists_eq', exists_eq, D.int.injEq, D.bl.injEq, D.lst.injEq, D.tup.injEq, Nat.reduceEqDiff, forall_const, reduceCtorEq, false_implies, Bool.true_eq_false, Bool.false_eq_true, implies_true, ix_num h0, tupleO]
    exact ⟨_, ix_num h0, rfl⟩
theorem strangerT (W : WfRul rows rd) : den__law_stranger [rulD rows rd, .bl false] g = .ok (.tup [.tup ((numD rows false 0).map nD), .tup ((prs false rows rows.length).map (stdT rows))]) g := by
  have hn := W.n.2
  have hl := prs_len W false (Nat.le_refl _)
  have nums : ∀ (t i : Nat) (g : G) (ρ : Z.Env) (e : Ev), ρ[2]? = some (.val (.lst ((prs false rows rows.length).map p2))) → 11 < ρ.length → (∀ k, e (ρ.set 11 (.val (nD k))) g = .ok (nD t) g) → gaL (gN 11) (el1 (mB (mOp eqF (mOp idxO (mOp idxO (mV 2) (mV 11)) (mC (.int 0))) e)) (mVs 11)) ρ ((List.range (prs false rows rows.length).length).map nD) g = .ok ((numD rows false t).map nD) g := by
    intro t i g ρ e h2 h11 he
    rw [ga_map _ _ (f := fun k : Nat => if isQ (prs false rows rows.length) t k = true then [nD k] else []) fun k hk => ⟨_, rfl, ?_⟩, sel_flat (isQ (prs false rows rows.length) t) nD]
    · rfl
    · have hk := List.mem_range.mp hk
      have e2 : (ρ.set 11 (.val (nD k)))[2]? = some (.val (.lst ((prs false rows rows.length).map p2))) := by rw [List.getElem?_set_ne (by decide)]; exact h2
      have e11 : (ρ.set 11 (.val (nD k)))[11]? = some (.val (nD k)) := List.getElem?_set_self h11
      simp only [gN, el1, mB, mOp, mV, mVs, mC, e2, e11, he k, Res.bind, ret, ix_p2 hk, p2_0, eqF_nn, isB, isQ_eq hk]
      cases ((prs false rows rows.length)[k].1 == t) <;> rfl
  refine Res.Ok.eq ?_
  unfold den__law_stranger m__law_stranger m__law_stranger_1
  simp only [den_ok, srt_ok, seq_ok, nx_ok, set_ok, drop_ok, sif_ok, ow_ok, fz_ok, fzz_ok, app_ok, ext_ok, par_ok, asg_ok, for_ok, fcons_ok, fnil_ok, op_ok, un_ok, c_ok, nil_ok, cons_ok, tup_ok, lst_ok, if_ok, andV_ok, orV_ok, notV_ok, ch_ok, tr_ok, b_ok, and_ok, or_ok, not_ok, yes_ok, no_ok, is_ok, sl_ok, call_ok, mt_ok, opF_ok, iv_ok, ir_ok, lc_ok, el1_ok, ok_ok, mV, mVs, gP, pkV, entE, setFs, frz, ownL, gN, gTp, gCn, gNl, wipeE, isB_bl, tr_bl, isStr, isLst, addO_ll, addO_tt, addO_ss, fits, decide_eq_true_eq, Nat.reduceLeDiff, List.map_cons, List.map_nil, List.length_cons, List.length_nil, List.replicate, List.cons_append, List.nil_append, List.append_nil, List.getElem?_cons_zero, List.getElem?_cons_succ, List.set, List.getD_cons_zero, List.getD_cons_succ, Nat.reduceAdd, Nat.reduceSub, Nat.reduceLT, and_self, true_and, and_true, if_true, ↓reduceIte, Option.some.injEq, exists_eq_left', exists_eq_left, exists_eq', exists_eq, D.int.injEq, D.bl.injEq, D.lst.injEq, D.tup.injEq, Nat.reduceEqDiff, forall_const, reduceCtorEq, false_implies, Bool.true_eq_false, Bool.false_eq_true, implies_true, rul_0, len_tup, List.length_map]
  refine ⟨_, rfl, by omega, ?_⟩
  refine for_inv _ (fun i ρ g' => ∃ (s3 s5 : Sl), ρ = [.val (rulD rows rd), .val (.bl false), .val (.lst ((prs false rows i).map p2)), s3, .no, s5, .no, .no, .no, .no, .no, .no] ∧ g' = g) _ _ ⟨_, _, rfl, rfl⟩ (fun i d ρ g' hd hI => ?_) (fun ρ g' hI => ?_)
  · obtain ⟨s3, s5, rfl, rfl⟩ := hI
    obtain ⟨hi, rfl⟩ := rng_get hd
    have hi : i < rows.length := by simpa using hi
    have so := (sd_ok W false hi).1
    have pl := prs_len W false (n := i) (by omega)
    have ex := rw_s false hi
    have ex : idxO (rwD rows[i]) (.int 1) = _ := ex
    refine ⟨_, rfl, ?_⟩
    simp only [den_ok, srt_ok, seq_ok, nx_ok, set_ok, drop_ok, sif_ok, ow_ok, fz_ok, fzz_ok, app_ok, ext_ok, par_ok, asg_ok, for_ok, fcons_ok, fnil_ok, op_ok, un_ok, c_ok, nil_ok, cons_ok, tup_ok, lst_ok, if_ok, andV_ok, orV_ok, notV_ok, ch_ok, tr_ok, b_ok, and_ok, or_ok, not_ok, yes_ok, no_ok, is_ok, sl_ok, call_ok, mt_ok, opF_ok, iv_ok, ir_ok, lc_ok, el1_ok, ok_ok, mV, mVs, gP, pkV, entE, setFs, frz, ownL, gN, gTp, gCn, gNl, wipeE, isB_bl, tr_bl, isStr, isLst, addO_ll, addO_tt, addO_ss, fits, decide_eq_true_eq, Nat.reduceLeDiff, List.map_cons, List.map_nil, List.length_cons, List.length_nil, List.replicate, List.cons_append, List.nil_append, List.append_nil, List.getElem?_cons_zero, List.getElem?_cons_succ, List.set, List.getD_cons_zero, List.getD_cons_succ, Nat.reduceAdd, Nat.reduceSub, Nat.reduceLT, and_self, true_and, and_true, if_true, ↓reduceIte, Option.some.injEq, exists_eq_left', exists_eq_left, exists_eq', exists_eq, D.int.injEq, D.bl.injEq, D.lst.injEq, D.tup.injEq, Nat.reduceEqDiff, forall_const, reduceCtorEq, false_implies, Bool.true_eq_false, Bool.false_eq_true, implies_true, rul_0, row_at hi, ex, itemsD]
    rw [ga_map _ _ (f := fun u : Str => [p2 (i, u)]) fun u hu => ⟨_, rfl, Res.Ok.eq (by simp only [den_ok, srt_ok, seq_ok, nx_ok, set_ok, drop_ok, sif_ok, ow_ok, fz_ok, fzz_ok, app_ok, ext_ok, par_ok, asg_ok, for_ok, fcons_ok, fnil_ok, op_ok, un_ok, c_ok, nil_ok, cons_ok, tup_ok, lst_ok, if_ok, andV_ok, orV_ok, notV_ok, ch_ok, tr_ok, b_ok, and_ok, or_ok, not_ok, yes_ok, no_ok, is_ok, sl_ok, call_ok, mt_ok, opF_ok, iv_ok, ir_ok, lc_ok, el1_ok, ok_ok, mV, mVs, gP, pkV, entE, setFs, frz, ownL, gN, gTp, gCn, gNl, wipeE, isB_bl, tr_bl, isStr, isLst, addO_ll, addO_tt, addO_ss, fits, decide_eq_true_eq, Nat.reduceLeDiff, List.map_cons, List.map_nil, List.length_cons, List.length_nil, List.replicate, List.cons_append, List.nil_append, List.append_nil, List.getElem?_cons_zero, List.getElem?_cons_succ, List.set, List.getD_cons_zero, List.getD_cons_succ, Nat.reduceAdd, Nat.reduceSub, Nat.reduceLT, and_self, true_and, and_true, if_true, ↓reduceIte, Option.some.injEq, exists_eq_left', exists_eq_left, exists_eq', exists_eq, D.int.injEq, D.bl.injEq, D.lst.injEq, D.tup.injEq, Nat.reduceEqDiff, forall_const, reduceCtorEq, false_implies, Bool.true_eq_false, Bool.false_eq_true, implies_true])⟩, flat1]
    simp only [den_ok, srt_ok, seq_ok, nx_ok, set_ok, drop_ok, sif_ok, ow_ok, fz_ok, fzz_ok, app_ok, ext_ok, par_ok, asg_ok, for_ok, fcons_ok, fnil_ok, op_ok, un_ok, c_ok, nil_ok, cons_ok, tup_ok, lst_ok, if_ok, andV_ok, orV_ok, notV_ok, ch_ok, tr_ok, b_ok, and_ok, or_ok, not_ok, yes_ok, no_ok, is_ok, sl_ok, call_ok, mt_ok, opF_ok, iv_ok, ir_ok, lc_ok, el1_ok, ok_ok, mV, mVs, gP, pkV, entE, setFs, frz, ownL, gN, gTp, gCn, gNl, wipeE, isB_bl, tr_bl, isStr, isLst, addO_ll, addO_tt, addO_ss, fits, decide_eq_true_eq, Nat.reduceLeDiff, List.map_cons, List.map_nil, List.length_cons, List.length_nil, List.replicate, List.cons_append, List.nil_append, List.append_nil, List.getElem?_cons_zero, List.getElem?_cons_succ, List.set, List.getD_cons_zero, List.getD_cons_succ, Nat.reduceAdd, Nat.reduceSub, Nat.reduceLT, and_self, true_and, and_true, if_true, ↓reduceIte, Option.some.injEq, exists_eq_left', exists_eq_left, exists_eq', exists_eq, D.int.injEq, D.bl.injEq, D.lst.injEq, D.tup.injEq, Nat.reduceEqDiff, forall_const, reduceCtorEq, false_implies, Bool.true_eq_false, Bool.false_eq_true, implies_true, List.length_map]
    refine ⟨by omega, ?_⟩
    rw [if_pos (by omega)]
    rw [prs_succ, List.map_append, List.map_map]
    exact ⟨_, rfl, _, _, rfl⟩
  · obtain ⟨s3, s5, rfl, rfl⟩ := hI
    rw [rng_len, Int.toNat_natCast]
    unfold m__law_stranger_2 m__law_stranger_3
    simp only [den_ok, srt_ok, seq_ok, nx_ok, set_ok, drop_ok, sif_ok, ow_ok, fz_ok, fzz_ok, app_ok, ext_ok, par_ok, asg_ok, for_ok, fcons_ok, fnil_ok, op_ok, un_ok, c_ok, nil_ok, cons_ok, tup_ok, lst_ok, if_ok, andV_ok, orV_ok, notV_ok, ch_ok, tr_ok, b_ok, and_ok, or_ok, not_ok, yes_ok, no_ok, is_ok, sl_ok, call_ok, mt_ok, opF_ok, iv_ok, ir_ok, lc_ok, el1_ok, ok_ok, mV, mVs, gP, pkV, entE, setFs, frz, ownL, gN, gTp, gCn, gNl, wipeE, isB_bl, tr_bl, isStr, isLst, addO_ll, addO_tt, addO_ss, fits, decide_eq_true_eq, Nat.reduceLeDiff, List.map_cons, List.map_nil, List.length_cons, List.length_nil, List.replicate, List.cons_append, List.nil_append, List.append_nil, List.getElem?_cons_zero, List.getElem?_cons_succ, List.set, List.getD_cons_zero, List.getD_cons_succ, Nat.reduceAdd, Nat.reduceSub, Nat.reduceLT, and_self, true_and, and_true, if_true, ↓reduceIte, Option.some.injEq, exists_eq_left', exists_eq_left, exists_eq', exists_eq, D.int.injEq, D.bl.injEq, D.lst.injEq, D.tup.injEq, Nat.reduceEqDiff, forall_const, reduceCtorEq, false_implies, Bool.true_eq_false, Bool.false_eq_true, implies_true, itemsD]
    refine for_inv _ (fun i ρ g'' => ∃ (s3 s5 s6 s7 s8 s9 s10 s11 : Sl), ρ = [.val (rulD rows rd), .val (.bl false), .val (.lst ((prs false rows rows.length).map p2)), s3, .own (.lst (((prs false rows rows.length).take i).map (stdT rows))), s5, s6, s7, s8, s9, s10, s11] ∧ g'' = g') _ _ ⟨_, _, _, _, _, _, _, _, rfl, rfl⟩ (fun i d ρ g'' hd hI => ?_) (fun ρ g'' hI => ?_)
    · obtain ⟨s3, s5, s6, s7, s8, s9, s10, s11, rfl, rfl⟩ := hI
      rw [List.getElem?_map] at hd
      obtain ⟨p, hp, rfl⟩ := Option.map_eq_some_iff.mp hd
      have hpm := List.mem_of_getElem? hp
      have hq := (prs_mem hpm).1
      have hps : sgn p.2 = true := (sd_ok W false hq).2.1 p.2 (prs_mem hpm).2
      have so := sd_ok W true hq
      have ex := rw_s true hq
      have ex : idxO (rwD rows[p.1]) (.int 0) = _ := ex
      refine ⟨_, rfl, ?_⟩
      simp only [den_ok, srt_ok, seq_ok, nx_ok, set_ok, drop_ok, sif_ok, ow_ok, fz_ok, fzz_ok, app_ok, ext_ok, par_ok, asg_ok, for_ok, fcons_ok, fnil_ok, op_ok, un_ok, c_ok, nil_ok, cons_ok, tup_ok, lst_ok, if_ok, andV_ok, orV_ok, notV_ok, ch_ok, tr_ok, b_ok, and_ok, or_ok, not_ok, yes_ok, no_ok, is_ok, sl_ok, call_ok, mt_ok, opF_ok, iv_ok, ir_ok, lc_ok, el1_ok, ok_ok, mV, mVs, gP, pkV, entE, setFs, frz, ownL, gN, gTp, gCn, gNl, wipeE, isB_bl, tr_bl, isStr, isLst, addO_ll, addO_tt, addO_ss, fits, decide_eq_true_eq, Nat.reduceLeDiff, List.map_cons, List.map_nil, List.length_cons, List.length_nil, List.replicate, List.cons_append, List.nil_append, List.append_nil, List.getElem?_cons_zero, List.getElem?_cons_succ, List.set, List.getD_cons_zero, List.getD_cons_succ, Nat.reduceAdd, Nat.reduceSub, Nat.reduceLT, and_self, true_and, and_true, if_true, ↓reduceIte, Option.some.injEq, exists_eq_left', exists_eq_left, exists_eq', exists_eq, D.int.injEq, D.bl.injEq, D.lst.injEq, D.tup.injEq, Nat.reduceEqDiff, forall_const, reduceCtorEq, false_implies, Bool.true_eq_false, Bool.false_eq_true, implies_true, rul_0, row_at hq, ex, itemsD]
      refine for_inv _ (fun j ρ g3 => ∃ (s7 s8 s9 s11 : Sl), ρ = [.val (rulD rows rd), .val (.bl false), .val (.lst ((prs false rows rows.length).map p2)), .val (nD p.1), .own (.lst (((prs false rows rows.length).take i).map (stdT rows))), .val (.str p.2), .own (.lst (((sdAt true rows p.1).take j).map fun u => hrD (hrT rows p u))), s7, s8, s9, s10, s11] ∧ g3 = g'') _ _ ⟨_, _, _, _, rfl, rfl⟩ (fun j d ρ g3 hd hI => ?_) (fun ρ g3 hI => ?_)
      · obtain ⟨s7, s8, s9, s11, rfl, rfl⟩ := hI
        rw [List.getElem?_map] at hd
        obtain ⟨u, hu2, rfl⟩ := Option.map_eq_some_iff.mp hd
        have hu := List.mem_of_getElem? hu2
        obtain ⟨hq2, ma, mb, eg, lg⟩ := tgT W hpm hu
        have nx := state_ok (g := g3) W hq ma mb
        rw [← eg] at nx
        have nl : (numD rows false (goR rows p.1 u p.2)).length ≤ _ := numL_le (prs false rows rows.length) (goR rows p.1 u p.2)
        refine ⟨_, rfl, ?_⟩
        simp only [den_ok, srt_ok, seq_ok, nx_ok, set_ok, drop_ok, sif_ok, ow_ok, fz_ok, fzz_ok, app_ok, ext_ok, par_ok, asg_ok, for_ok, fcons_ok, fnil_ok, op_ok, un_ok, c_ok, nil_ok, cons_ok, tup_ok, lst_ok, if_ok, andV_ok, orV_ok, notV_ok, ch_ok, tr_ok, b_ok, and_ok, or_ok, not_ok, yes_ok, no_ok, is_ok, sl_ok, call_ok, mt_ok, opF_ok, iv_ok, ir_ok, lc_ok, el1_ok, ok_ok, mV, mVs, gP, pkV, entE, setFs, frz, ownL, gN, gTp, gCn, gNl, wipeE, isB_bl, tr_bl, isStr, isLst, addO_ll, addO_tt, addO_ss, fits, decide_eq_true_eq, Nat.reduceLeDiff, List.map_cons, List.map_nil, List.length_cons, List.length_nil, List.replicate, List.cons_append, List.nil_append, List.append_nil, List.getElem?_cons_zero, List.getElem?_cons_succ, List.set, List.getD_cons_zero, List.getD_cons_succ, Nat.reduceAdd, Nat.reduceSub, Nat.reduceLT, and_self, true_and, and_true, if_true, ↓reduceIte, Option.some.injEq, exists_eq_left', exists_eq_left, exists_eq', exists_eq, D.int.injEq, D.bl.injEq, D.lst.injEq, D.tup.injEq, Nat.reduceEqDiff, forall_const, reduceCtorEq, false_implies, Bool.true_eq_false, Bool.false_eq_true, implies_true, ok_of nx, len_lst, List.length_map]
        refine ⟨_, rfl, by omega, ?_⟩
        rw [Int.toNat_natCast, rng_eq, nums (goR rows p.1 u p.2) i g3 _ _ rfl (by simp) (fun k => rfl)]
        simp only [den_ok, srt_ok, seq_ok, nx_ok, set_ok, drop_ok, sif_ok, ow_ok, fz_ok, fzz_ok, app_ok, ext_ok, par_ok, asg_ok, for_ok, fcons_ok, fnil_ok, op_ok, un_ok, c_ok, nil_ok, cons_ok, tup_ok, lst_ok, if_ok, andV_ok, orV_ok, notV_ok, ch_ok, tr_ok, b_ok, and_ok, or_ok, not_ok, yes_ok, no_ok, is_ok, sl_ok, call_ok, mt_ok, opF_ok, iv_ok, ir_ok, lc_ok, el1_ok, ok_ok, mV, mVs, gP, pkV, entE, setFs, frz, ownL, gN, gTp, gCn, gNl, wipeE, isB_bl, tr_bl, isStr, isLst, addO_ll, addO_tt, addO_ss, fits, decide_eq_true_eq, Nat.reduceLeDiff, List.map_cons, List.map_nil, List.length_cons, List.length_nil, List.replicate, List.cons_append, List.nil_append, List.append_nil, List.getElem?_cons_zero, List.getElem?_cons_succ, List.set, List.getD_cons_zero, List.getD_cons_succ, Nat.reduceAdd, Nat.reduceSub, Nat.reduceLT, and_self, true_and, and_true, if_true, ↓reduceIte, Option.some.injEq, exists_eq_left', exists_eq_left, exists_eq', exists_eq, D.int.injEq, D.bl.injEq, D.lst.injEq, D.tup.injEq, Nat.reduceEqDiff, forall_const, reduceCtorEq, false_implies, Bool.true_eq_false, Bool.false_eq_true, implies_true, List.length_map, tupleO, List.length_take]
        rw [take_one hu2, List.map_append]
        exact ⟨by omega, by omega, _, _, _, _, rfl⟩
      · obtain ⟨s7, s8, s9, s11, rfl, rfl⟩ := hI
        rw [List.length_map, List.take_length]
        have ss := sort_self (ms := (sdAt true rows p.1).map fun u => hrT rows p u) (fun m hm => by
          obtain ⟨u, hu, rfl⟩ := List.mem_map.mp hm
          exact hrN_fit W false _ (so.2.1 u hu) none_sgn) (by rw [List.length_map]; omega) (List.pairwise_map.mpr (so.2.2.imp fun {x y} h => .inl h))
        rw [List.map_map] at ss
        have ss : sortedF (.lst ((sdAt true rows p.1).map fun u => hrD (hrT rows p u))) = some (.lst ((sdAt true rows p.1).map fun u => hrD (hrT rows p u))) := ss
        simp only [den_ok, srt_ok, seq_ok, nx_ok, set_ok, drop_ok, sif_ok, ow_ok, fz_ok, fzz_ok, app_ok, ext_ok, par_ok, asg_ok, for_ok, fcons_ok, fnil_ok, op_ok, un_ok, c_ok, nil_ok, cons_ok, tup_ok, lst_ok, if_ok, andV_ok, orV_ok, notV_ok, ch_ok, tr_ok, b_ok, and_ok, or_ok, not_ok, yes_ok, no_ok, is_ok, sl_ok, call_ok, mt_ok, opF_ok, iv_ok, ir_ok, lc_ok, el1_ok, ok_ok, mV, mVs, gP, pkV, entE, setFs, frz, ownL, gN, gTp, gCn, gNl, wipeE, isB_bl, tr_bl, isStr, isLst, addO_ll, addO_tt, addO_ss, fits, decide_eq_true_eq, Nat.reduceLeDiff, List.map_cons, List.map_nil, List.length_cons, List.length_nil, List.replicate, List.cons_append, List.nil_append, List.append_nil, List.getElem?_cons_zero, List.getElem?_cons_succ, List.set, List.getD_cons_zero, List.getD_cons_succ, Nat.reduceAdd, Nat.reduceSub, Nat.reduceLT, and_self, true_and, and_true, if_true, ↓reduceIte, Option.some.injEq, exists_eq_left', exists_eq_left, exists_eq', exists_eq, D.int.injEq, D.bl.injEq, D.lst.injEq, D.tup.injEq, Nat.reduceEqDiff, forall_const, reduceCtorEq, false_implies, Bool.true_eq_false, Bool.false_eq_true, implies_true, ss, tupleO, List.length_take, List.length_map]
        rw [take_one hp, List.map_append]
        exact ⟨by omega, _, _, _, _, _, _, _, _, rfl⟩
    · obtain ⟨s3, s5, s6, s7, s8, s9, s10, s11, rfl, rfl⟩ := hI
      rw [List.length_map, List.take_length]
      unfold m__law_stranger_4
      have nl : (numD rows false 0).length ≤ _ := numL_le (prs false rows rows.length) 0
      simp only [den_ok, srt_ok, seq_ok, nx_ok, set_ok, drop_ok, sif_ok, ow_ok, fz_ok, fzz_ok, app_ok, ext_ok, par_ok, asg_ok, for_ok, fcons_ok, fnil_ok, op_ok, un_ok, c_ok, nil_ok, cons_ok, tup_ok, lst_ok, if_ok, andV_ok, orV_ok, notV_ok, ch_ok, tr_ok, b_ok, and_ok, or_ok, not_ok, yes_ok, no_ok, is_ok, sl_ok, call_ok, mt_ok, opF_ok, iv_ok, ir_ok, lc_ok, el1_ok, ok_ok, mV, mVs, gP, pkV, entE, setFs, frz, ownL, gN, gTp, gCn, gNl, wipeE, isB_bl, tr_bl, isStr, isLst, addO_ll, addO_tt, addO_ss, fits, decide_eq_true_eq, Nat.reduceLeDiff, List.map_cons, List.map_nil, List.length_cons, List.length_nil, List.replicate, List.cons_append, List.nil_append, List.append_nil, List.getElem?_cons_zero, List.getElem?_cons_succ, List.set, List.getD_cons_zero, List.getD_cons_succ, Nat.reduceAdd, Nat.reduceSub, Nat.reduceLT, and_self, true_and, and_true, if_true, ↓reduceIte, Option.some.injEq, exists_eq_left', exists_eq_left, exists_eq', exists_eq, D.int.injEq, D.bl.injEq, D.lst.injEq, D.tup.injEq, Nat.reduceEqDiff, forall_const, reduceCtorEq, false_implies, Bool.true_eq_false, Bool.false_eq_true, implies_true, len_lst, List.length_map]
      refine ⟨_, rfl, by omega, ?_⟩
      rw [Int.toNat_natCast, rng_eq, nums 0 0 g'' _ _ rfl (by simp) (fun k => rfl)]
      simp only [den_ok, srt_ok, seq_ok, nx_ok, set_ok, drop_ok, sif_ok, ow_ok, fz_ok, fzz_ok, app_ok, ext_ok, par_ok, asg_ok, for_ok, fcons_ok, fnil_ok, op_ok, un_ok, c_ok, nil_ok, cons_ok, tup_ok, lst_ok, if_ok, andV_ok, orV_ok, notV_ok, ch_ok, tr_ok, b_ok, and_ok, or_ok, not_ok, yes_ok, no_ok, is_ok, sl_ok, call_ok, mt_ok, opF_ok, iv_ok, ir_ok, lc_ok, el1_ok, ok_ok, mV, mVs, gP, pkV, entE, setFs, frz, ownL, gN, gTp, gCn, gNl, wipeE, isB_bl, tr_bl, isStr, isLst, addO_ll, addO_tt, addO_ss, fits, decide_eq_true_eq, Nat.reduceLeDiff, List.map_cons, List.map_nil, List.length_cons, List.length_nil, List.replicate, List.cons_append, List.nil_append, List.append_nil, List.getElem?_cons_zero, List.getElem?_cons_succ, List.set, List.getD_cons_zero, List.getD_cons_succ, Nat.reduceAdd, Nat.reduceSub, Nat.reduceLT, and_self, true_and, and_true, if_true, ↓reduceIte, Option.some.injEq, exists_eq_left', exists_eq_left, exists_eq', exists_eq, D.int.injEq, D.bl.injEq, D.lst.injEq, D.tup.injEq, Nat.reduceEqDiff, forall_const, reduceCtorEq, false_implies, Bool.true_eq_false, Bool.false_eq_true, implies_true, List.length_map, tupleO]
      omega
end
end Z

set_option maxHeartbeats 0
namespace Z
open PySem PySem.Spec PyProof.Rows L2
set_option autoImplicit false
/-! ### the feed -/
abbrev fd (cs : List Int) (i r t : Int) : Cell := .dk ["cells", "next", "left", "drawn"] [.lst (cs.map D.int), .int i, .int r, .int t]
section
variable {a b c d : D}
theorem lv_cells : luS ["cells", "next", "left", "drawn"] [a, b, c, d] "cells" = some a := by kernel_rfl
theorem lv_spot : luS ["cells", "next", "left", "drawn"] [a, b, c, d] "next" = some b := by kernel_rfl
theorem lv_rest : luS ["cells", "next", "left", "drawn"] [a, b, c, d] "left" = some c := by kernel_rfl
theorem lv_turn : luS ["cells", "next", "left", "drawn"] [a, b, c, d] "drawn" = some d := by kernel_rfl
theorem sv_spot {e : D} : setC [.dk ["cells", "next", "left", "drawn"] [a, b, c, d]] 0 "next" e = some [.dk ["cells", "next", "left", "drawn"] [a, e, c, d]] := by kernel_rfl
theorem sv_rest {e : D} : setC [.dk ["cells", "next", "left", "drawn"] [a, b, c, d]] 0 "left" e = some [.dk ["cells", "next", "left", "drawn"] [a, b, e, d]] := by kernel_rfl
theorem sv_turn {e : D} : setC [.dk ["cells", "next", "left", "drawn"] [a, b, c, d]] 0 "drawn" e = some [.dk ["cells", "next", "left", "drawn"] [a, b, c, e]] := by kernel_rfl
end
theorem cell_ok2 {ρ : Z.Env} {g : G} {cs : List Int} {i e : Int} (a b : Nat) (h3 : ρ[b]? = some (.val (.int i))) (h4 : ρ[a]? = some (.val (.lst (cs.map D.int)))) : ∃ c : Int, mIf (mB (mOp neF (mV a) (mLst mNil))) (mOp idxO (mV a) (mOp modO (mUn intO (mV b)) (mUn lenO (mV a)))) (mC (.int e)) ρ g = .ok (.int c) g := by
  have f0 : fits 0 = true := rfl
  cases cs with
  | nil =>
    refine ⟨e, ?_⟩
    have hn := neF_nil []
    simp only [List.map_nil] at hn h4
    simp only [mIf, mB, mOp, mV, h4, mLst, mNil, Res.bind, ret, List.length_nil, f0, if_true, hn, isB, List.isEmpty_nil, Bool.not_true, Bool.false_eq_true, if_false, mC]
  | cons c cs =>
    have hp : (0 : Int) < ((c :: cs).length : Int) := by simp only [List.length_cons]; omega
    obtain ⟨d, hd⟩ := idx_ints (c :: cs) (i % ((c :: cs).length : Int)) (Int.emod_nonneg _ (by omega)) (Int.emod_lt_of_pos _ hp)
    refine ⟨d, ?_⟩
    have hn := neF_nil (c :: cs)
    have hl : lenO (.lst ((c :: cs).map D.int)) = some (.int ((c :: cs).length : Int)) := by simp [lenO]
    simp only [mIf, mB, mOp, mUn, mV, h3, h4, mLst, mNil, Res.bind, ret, List.length_nil, f0, if_true, hn, isB, List.isEmpty_cons, Bool.not_false, intO_i, hl, modO_ii hp, hd]
theorem draw_ok (cs : List Int) (i r t z : Int) (hz : 0 < z) (h2 : z < 18446744073709551616) : ∃ k i' r', 0 ≤ k ∧ k < z ∧ den__law_draw [.ref 0, .int z] [fd cs i r t] = .ok (.int k) [fd cs i' r' (t + 1)] := by
  have hl := log_small hz h2
  suffices h : ∃ k i' r', den__law_draw [.ref 0, .int z] [fd cs i r t] = .ok (.int (k % z)) [fd cs i' r' (t + 1)] by
    obtain ⟨k, i', r', h⟩ := h
    exact ⟨k % z, i', r', Int.emod_nonneg _ (by omega), Int.emod_lt_of_pos _ hz, h⟩
  unfold den__law_draw denOf m__law_draw
  by_cases h1 : 0 < r
  · simp only [entE, List.map_cons, List.map_nil, List.length_cons, List.length_nil, List.replicate, List.cons_append, List.nil_append, sSeq, sSetC, mOp, mUn, mGetC, mV, mVs, mC, Res.bind, ret, sIf, mB, mAnd, isB, List.getElem?_cons_zero, List.getElem?_cons_succ, lv_cells, lv_spot, lv_rest, lv_turn, sv_spot, sv_rest, sv_turn, addO_ii, gtO_ii, sPar, fCons, fNil, setFs, intO_i, modO_ii hz, divO_ii hz hl, sSet, List.set, sRet, sNx, decide_eq_true h1, if_true]
    exact ⟨_, _, _, rfl⟩
  · simp only [entE, List.map_cons, List.map_nil, List.length_cons, List.length_nil, List.replicate, List.cons_append, List.nil_append, sSeq, sSetC, mOp, mUn, mGetC, mV, mVs, mC, Res.bind, ret, sIf, mB, mAnd, isB, List.getElem?_cons_zero, List.getElem?_cons_succ, lv_cells, lv_spot, lv_rest, lv_turn, sv_spot, sv_rest, sv_turn, addO_ii, gtO_ii, sPar, fCons, fNil, setFs, intO_i, modO_ii hz, divO_ii hz hl, sSet, List.set, sRet, sNx, decide_eq_false h1, Bool.false_eq_true, if_false]
    simp only [Nat.reduceAdd, Nat.reduceLT, ↓reduceIte, List.getElem?_cons_zero, List.getElem?_cons_succ, addO_ii, sv_spot]
    obtain ⟨c, hc⟩ := cell_ok2 (ρ := [Sl.val (D.ref 0), Sl.val (D.int z), Sl.no, Sl.val (D.int i), Sl.val (D.lst (List.map D.int cs)), Sl.no, Sl.no]) (g := [fd cs (i + 1) r (t + 1)]) (e := 3963) 4 3 rfl rfl
    simp only [hc, List.set, List.getElem?_cons_zero, List.getElem?_cons_succ, pow18, geO_ii, ltO_ii, lenO_ints, Res.bind, ret, isB]
    cases hA : (!decide (c < 1000000000000000000)) <;> cases hB : decide (i < (cs.length : Int))
    all_goals simp only [↓reduceIte, Bool.false_eq_true, if_false, if_true, lv_cells, lv_spot, lv_rest, lv_turn, sv_spot, sv_rest, sv_turn, modO_ii hz, divO_ii hz hl, intO_i, addO_ii, List.getElem?_cons_zero, List.getElem?_cons_succ, List.set]
    all_goals try simp (disch := omega) only [modO_ii, divO_jj, mulO2_ii, intO_i, addO_ii, lv_turn, ↓reduceIte, List.getElem?_cons_zero, List.getElem?_cons_succ, List.set]
    all_goals exact ⟨_, _, _, rfl⟩
def FG (g : G) : Prop := ∃ cs i r t, g = [fd cs i r t]
theorem draw {g : G} (F : FG g) {z : Int} {P : D → G → Prop} (hz : 0 < z) (h2 : z < 18446744073709551616) (h : ∀ (k : Nat) (g' : G), (k : Int) < z → FG g' → P (.int k) g') : (den__law_draw [.ref 0, .int z] g).Ok P := by
  obtain ⟨cs, i, r, t, e⟩ := F
  subst e
  obtain ⟨j, i', r', j0, j1, hd⟩ := draw_ok cs i r t z hz h2
  rw [hd]
  have := h j.toNat [fd cs i' r' (t + 1)] (by omega) ⟨_, _, _, _, rfl⟩
  rw [Int.toNat_of_nonneg j0] at this
  exact this
theorem pick {g : G} (F : FG g) {ds : List D} {P : D → G → Prop} (hn : ds ≠ []) (hl : ds.length < 1000000) (h : ∀ (d : D) (g' : G), d ∈ ds → FG g' → P d g') : (den__law_pick [.ref 0, .lst ds] g).Ok P := by
  have hp : 0 < ds.length := List.length_pos_iff.mpr hn
  unfold den__law_pick m__law_pick
  simp only [den_ok, srt_ok, seq_ok, nx_ok, set_ok, drop_ok, sif_ok, ow_ok, fz_ok, fzz_ok, app_ok, ext_ok, par_ok, asg_ok, for_ok, fcons_ok, fnil_ok, op_ok, un_ok, c_ok, nil_ok, cons_ok, tup_ok, lst_ok, if_ok, andV_ok, orV_ok, notV_ok, ch_ok, tr_ok, b_ok, and_ok, or_ok, not_ok, yes_ok, no_ok, is_ok, sl_ok, call_ok, mt_ok, opF_ok, iv_ok, ir_ok, lc_ok, el1_ok, ok_ok, mV, mVs, gP, pkV, entE, setFs, frz, ownL, gN, gTp, gCn, gNl, wipeE, isB_bl, tr_bl, isStr, isLst, addO_ll, addO_tt, addO_ss, fits, decide_eq_true_eq, Nat.reduceLeDiff, List.map_cons, List.map_nil, List.length_cons, List.length_nil, List.replicate, List.cons_append, List.nil_append, List.append_nil, List.getElem?_cons_zero, List.getElem?_cons_succ, List.set, List.getD_cons_zero, List.getD_cons_succ, Nat.reduceAdd, Nat.reduceSub, Nat.reduceLT, and_self, true_and, and_true, if_true, ↓reduceIte, Option.some.injEq, exists_eq_left', exists_eq_left, exists_eq', exists_eq, D.int.injEq, D.bl.injEq, D.lst.injEq, D.tup.injEq, Nat.reduceEqDiff, forall_const, reduceCtorEq, false_implies, Bool.true_eq_false, Bool.false_eq_true, implies_true, lenO]
  refine draw F (by omega) (by omega) fun k g' hk F' => ?_
  have hk' : k < ds.length := by omega
  exact ⟨ds[k], idx_lst (List.getElem?_eq_getElem hk'), h _ _ (List.getElem_mem _) F'⟩

theorem ints_int (ns : List Int) : (ns.map D.int).flatMap (fun d => [d]) = ns.map D.int := by rw [flat1]; simp
theorem feed_ok (ns : List Int) : ∃ g, FG g ∧ den__law_feed [.scr ns] [] = .ok (.ref 0) g := by
  obtain ⟨cs, e⟩ : ∃ cs : List Int, cutD (ns.map D.int) none (some 63) = cs.map D.int :=
    ⟨(ns.drop (HT.sIx (ns.map D.int).length 0 none)).take (HT.sIx (ns.map D.int).length (ns.map D.int).length (some 63) - HT.sIx (ns.map D.int).length 0 none), by simp only [cutD, List.map_take, List.map_drop]⟩
  have hl : fits (cs.map D.int).length = true := by
    have h1 := congrArg List.length e
    have h2 := cut_0 (ns.map D.int) 63
    have e63 : ((63 : Nat) : Int) = 63 := rfl
    rw [e63] at h2
    rw [h2, List.length_take] at h1
    refine decide_eq_true ?_
    omega
  refine ⟨[fd cs 0 0 0], ⟨cs, 0, 0, 0, rfl⟩, ?_⟩
  have lc : mLc (iV (mSl (mV 0) oNo (oIs (mC (.int 63))))) [1] (gN 1) (el1 mYes (mUn intO (mV 1))) [.val (.scr ns), .no] [] = .ok (.lst (cs.map D.int)) [] := by
    have hi : iV (mSl (mV 0) oNo (oIs (mC (.int 63)))) [.val (.scr ns), .no] [] = .ok (cs.map D.int) [] := by
      simp only [iV, mSl, oNo, oIs, mV, mC, Res.bind, ret, slO, List.getElem?_cons_zero, e, itemsD]
    unfold mLc
    rw [hi]
    dsimp only
    rw [ga_map _ _ (f := fun c : Int => [D.int c]) fun c _ => ⟨_, rfl, by simp only [el1, mYes, mUn, mV, gN, wipeE, List.foldl_cons, List.foldl_nil, List.set, List.getElem?_cons_zero, List.getElem?_cons_succ, Res.bind, ret, intO_i, if_true]⟩, flat1]
    dsimp only
    rw [if_pos hl]
  unfold den__law_feed denOf m__law_feed
  simp only [entE, List.map_cons, List.map_nil, List.length_cons, List.length_nil, List.replicate, List.cons_append, List.nil_append, sRet, mCellN, evPs, mCons, mNil, mC, Res.bind, ret, lc, List.length_nil]
end Z

set_option maxHeartbeats 0
namespace Z
open PySem PySem.Spec PyProof.Rows L2
set_option autoImplicit false
/-! ### one rule is right -/
theorem tup0_fit : Fit 4 1 (.tup []) := ⟨rfl, rfl, Nat.le_refl _, by decide⟩
theorem stdG_fit {rows : List Rw} {rd : List Str} (W : WfRul rows rd) {p : Nat × Str} (hp : p ∈ prs true rows rows.length) : Fit 16100 4 (stdG rows p) := by
  have hq := (prs_mem hp).1
  have so := sd_ok W false hq
  have f : Fit 4012 3 (.tup ((sdAt false rows p.1).map fun u => hrD (hrG rows p u))) := Fit.tup (n := 1000) (k := 2) (m := 4) (fun d hd => by
    obtain ⟨u, hu, rfl⟩ := List.mem_map.mp hd
    exact hrN_fit W true _ none_sgn (so.2.1 u hu)) (by rw [List.length_map]; exact so.1)
  exact (Fit.tup4 (n := 4012) (k := 3) ((sgn_fit none_sgn).mono (by decide) (by decide)) ((sgn_fit ((sd_ok W true hq).2.1 _ (prs_mem hp).2)).mono (by decide) (by decide)) (tup0_fit.mono (by decide) (by decide)) f).mono (by decide) (by decide)
theorem stdT_fit {rows : List Rw} {rd : List Str} (W : WfRul rows rd) {p : Nat × Str} (hp : p ∈ prs false rows rows.length) : Fit 16100 4 (stdT rows p) := by
  have hq := (prs_mem hp).1
  have so := sd_ok W true hq
  have f : Fit 4012 3 (.tup ((sdAt true rows p.1).map fun u => hrD (hrT rows p u))) := Fit.tup (n := 1000) (k := 2) (m := 4) (fun d hd => by
    obtain ⟨u, hu, rfl⟩ := List.mem_map.mp hd
    exact hrN_fit W false _ (so.2.1 u hu) none_sgn) (by rw [List.length_map]; exact so.1)
  exact (Fit.tup4 (n := 4012) (k := 3) ((sgn_fit ((sd_ok W false hq).2.1 _ (prs_mem hp).2)).mono (by decide) (by decide)) ((sgn_fit none_sgn).mono (by decide) (by decide)) (tup0_fit.mono (by decide) (by decide)) f).mono (by decide) (by decide)
theorem all_fit {rows : List Rw} {rd : List Str} (W : WfRul rows rd) (s : Bool) {f : Nat × Str → D} (hf : ∀ p ∈ prs s rows rows.length, Fit 16100 4 (f p)) : Fit 1600000 6 (.tup [.tup ((numD rows s 0).map nD), .tup ((prs s rows rows.length).map f)]) := by
  have h : Fit 772900 5 (.tup ((prs s rows rows.length).map f)) := (Fit.tup (n := 16100) (k := 4) (m := 48) (fun d hd => by
    obtain ⟨p, hp, rfl⟩ := List.mem_map.mp hd
    exact hf p hp) (by rw [List.length_map]; exact prs_len W s (Nat.le_refl _))).mono (by decide) (by decide)
  exact (Fit.tup2 ((num_fit W s 0).mono (by decide) (by decide)) h).mono (by decide) (by decide)
theorem mv_fit {n : Nat} (hn : n ≤ 12) {m : Mv} (h : MvOk n m) : Fit 310 1 (mvD m) := Fit.tup3 (n := 100) (k := 0) (sgn_fit h.a) (sgn_fit h.b) ((nD_fit (by have := h.z; omega)).mono (by decide) (by decide))
theorem rwD_fit {n : Nat} (hn : n ≤ 12) {r : Rw} (R : WfRow n r) : Fit 16000 3 (rwD r) := by
  have f3 : Fit 5000 2 (.tup (r.2.2.map mvD)) := (Fit.tup (n := 310) (k := 1) (m := 16) (fun d hd => by
    obtain ⟨m, hm, rfl⟩ := List.mem_map.mp hd
    exact mv_fit hn (R.l.2 m hm)) (by rw [List.length_map]; exact R.l.1)).mono (by decide) (by decide)
  exact (Fit.tup3 (n := 5000) (k := 2) ((sS_fit R.g.2.1 (by have := R.g.1; omega)).mono (by decide) (by decide)) ((sS_fit R.t.2.1 (by have := R.t.1; omega)).mono (by decide) (by decide)) f3).mono (by decide) (by decide)
theorem rul_fit {rows : List Rw} {rd : List Str} (W : WfRul rows rd) : Fit 400000 5 (rulD rows rd) := by
  have f1 : Fit 192100 4 (.tup (rows.map rwD)) := (Fit.tup (n := 16000) (k := 3) (m := 12) (fun d hd => by
    obtain ⟨m, hm, rfl⟩ := List.mem_map.mp hd
    exact rwD_fit W.n.2 (W.r m hm)) (by rw [List.length_map]; exact W.n.2)).mono (by decide) (by decide)
  exact (Fit.tup2 f1 ((sS_fit W.d.2 W.d.1).mono (by decide) (by decide))).mono (by decide) (by decide)
theorem right_ok {rows : List Rw} {rd : List Str} {g : G} (W : WfRul rows rd) : den__law_is_right [rulD rows rd] g = .ok (.bl true) g := by
  obtain ⟨A, eA⟩ : ∃ A : D, A = .tup [.tup ((numD rows true 0).map nD), .tup ((prs true rows rows.length).map (stdG rows))] := ⟨_, rfl⟩
  obtain ⟨B, eB⟩ : ∃ B : D, B = .tup [.tup ((numD rows false 0).map nD), .tup ((prs false rows rows.length).map (stdT rows))] := ⟨_, rfl⟩
  have fG := freestG (g := g) W
  have fT := freestT (g := g) W
  have sG := strangerG (g := g) W
  have sT := strangerT (g := g) W
  rw [← eA] at fG sG
  rw [← eB] at fT sT
  have fA : Fit 1600000 6 A := by rw [eA]; exact all_fit W true fun p hp => stdG_fit W hp
  have fB : Fit 1600000 6 B := by rw [eB]; exact all_fit W false fun p hp => stdT_fit W hp
  have sm := same_ok (ds := [A, B, A, B]) (g := g) (Fit.lst (n := 1600000) (k := 6) (m := 4) (fun d hd => by
    simp only [List.mem_cons, List.not_mem_nil, or_false] at hd
    rcases hd with rfl | rfl | rfl | rfl <;> assumption) (by simp)) (by decide) (by decide)
  have rk := repr_tup (rul_fit W) (by decide) (by decide)
  obtain ⟨K0, hK0⟩ : ∃ K0 : Str, K0 = (py (rulD rows rd)).shown := ⟨_, rfl⟩
  rw [← hK0] at rk
  refine Res.Ok.eq ?_
  unfold den__law_is_right m__law_is_right m__law_is_right_1 m__law_is_right_2 m__law_is_right_3
  simp only [den_ok, srt_ok, seq_ok, nx_ok, set_ok, drop_ok, sif_ok, ow_ok, fz_ok, fzz_ok, app_ok, ext_ok, par_ok, asg_ok, for_ok, fcons_ok, fnil_ok, op_ok, un_ok, c_ok, nil_ok, cons_ok, tup_ok, lst_ok, if_ok, andV_ok, orV_ok, notV_ok, ch_ok, tr_ok, b_ok, and_ok, or_ok, not_ok, yes_ok, no_ok, is_ok, sl_ok, call_ok, mt_ok, opF_ok, iv_ok, ir_ok, lc_ok, el1_ok, ok_ok, mV, mVs, gP, pkV, entE, setFs, frz, ownL, gN, gTp, gCn, gNl, wipeE, isB_bl, tr_bl, isStr, isLst, addO_ll, addO_tt, addO_ss, fits, decide_eq_true_eq, Nat.reduceLeDiff, List.map_cons, List.map_nil, List.length_cons, List.length_nil, List.replicate, List.cons_append, List.nil_append, List.append_nil, List.getElem?_cons_zero, List.getElem?_cons_succ, List.set, List.getD_cons_zero, List.getD_cons_succ, Nat.reduceAdd, Nat.reduceSub, Nat.reduceLT, and_self, true_and, and_true, if_true, ↓reduceIte, Option.some.injEq, exists_eq_left', exists_eq_left, exists_eq', exists_eq, D.int.injEq, D.bl.injEq, D.lst.injEq, D.tup.injEq, Nat.reduceEqDiff, forall_const, reduceCtorEq, false_implies, Bool.true_eq_false, Bool.false_eq_true, implies_true, rk, ok_of fG, ok_of fT, ok_of sG, ok_of sT, ok_of sm, eqF_ss]
/-! ### rules made of rows -/
def prod (xs ys : List Str) : List (Str × Str) := xs.flatMap fun x => ys.map fun y => (x, y)
theorem prod_mem {xs ys : List Str} {p : Str × Str} : p ∈ prod xs ys ↔ p.1 ∈ xs ∧ p.2 ∈ ys := by
  unfold prod
  rw [List.mem_flatMap]
  constructor
  · rintro ⟨x, hx, h⟩
    obtain ⟨y, hy, rfl⟩ := List.mem_map.mp h
    exact ⟨hx, hy⟩
  · rintro ⟨h1, h2⟩
    exact ⟨p.1, h1, List.mem_map.mpr ⟨p.2, h2, rfl⟩⟩
theorem prod_nd {ys : List Str} (hy : ys.Nodup) : ∀ {xs : List Str}, xs.Nodup → (prod xs ys).Nodup
  | [], _ => .nil
  | x :: xs, h => by
    obtain ⟨h1, h2⟩ := List.nodup_cons.mp h
    show (ys.map (fun y => (x, y)) ++ prod xs ys).Nodup
    refine List.nodup_append.mpr ⟨List.Pairwise.map _ (fun a b hab e => hab (Prod.mk.inj e).2) hy, prod_nd hy h2, fun a ha b hb e => ?_⟩
    obtain ⟨y, _, rfl⟩ := List.mem_map.mp ha
    rw [← e] at hb
    exact h1 (prod_mem.mp hb).1
theorem nd_len : ∀ (gs xs : List Str), gs.Nodup → (∀ z ∈ gs, z ∈ xs) → gs.length ≤ xs.length
  | [], _, _, _ => by simp
  | a :: gs, xs, nd, h => by
    obtain ⟨h1, h2⟩ := List.nodup_cons.mp nd
    have ha := h a List.mem_cons_self
    have ih := nd_len gs (xs.erase a) h2 fun z hz => (List.mem_erase_of_ne (fun e => h1 (by rw [← e]; exact hz))).mpr (h z (List.mem_cons_of_mem _ hz))
    rw [List.length_erase_of_mem ha] at ih
    have := List.length_pos_of_mem ha
    simp only [List.length_cons]
    omega
abbrev key (m : Mv) : Str × Str := (m.1, m.2.1)
structure SgL (xs : List Str) : Prop where
  n : xs.Nodup
  l : xs.length ≤ 4
  s : ∀ x ∈ xs, sgn x = true
structure Full (n : Nat) (ms : List Mv) : Prop where
  ex : ∃ xs ys, SgL xs ∧ SgL ys ∧ ms.map key = prod xs ys
  z : ∀ m ∈ ms, m.2.2 < n
theorem nd_inj {ms : List Mv} (h : (ms.map key).Nodup) {m m' : Mv} (hm : m ∈ ms) (hm' : m' ∈ ms) (e1 : m.1 = m'.1) (e2 : m.2.1 = m'.2.1) : m = m' := by
  induction ms with
  | nil => cases hm
  | cons a ms ih =>
    rw [List.map_cons] at h
    obtain ⟨h1, h2⟩ := List.nodup_cons.mp h
    have ke : key m = key m' := by unfold key; rw [e1, e2]
    rcases List.mem_cons.mp hm with q1 | q1
    · rcases List.mem_cons.mp hm' with q2 | q2
      · rw [q1, q2]
      · exact (h1 (List.mem_map.mpr ⟨m', q2, by rw [← ke, q1]⟩)).elim
    · rcases List.mem_cons.mp hm' with q2 | q2
      · exact (h1 (List.mem_map.mpr ⟨m, q1, by rw [ke, q2]⟩)).elim
      · exact ih h2 q1 q2
theorem lt_nd {xs : List Str} (h : xs.Pairwise ltS) : xs.Nodup := h.imp ltS_ne
theorem sortOk_mvs {ms : List Mv} (h : ∀ m ∈ ms, Fit 310 1 (mvD m)) (hl : ms.length ≤ 1000) : sortOk (ms.map mvD) = true := by
  obtain ⟨a1, _, _, a4⟩ := Fits.all (n := 310) (k := 1) (ds := ms.map mvD) fun d hd => by
    obtain ⟨m, hm, rfl⟩ := List.mem_map.mp hd
    exact h m hm
  have a2 : alikes (ms.map mvD) = true := List.all_eq_true.mpr fun d hd => List.all_eq_true.mpr fun e he => by
    obtain ⟨x, _, rfl⟩ := List.mem_map.mp hd
    obtain ⟨y, _, rfl⟩ := List.mem_map.mp he
    rfl
  have a3 : (ms.map mvD).all tupCons = true := List.all_eq_true.mpr fun d hd => by obtain ⟨x, _, rfl⟩ := List.mem_map.mp hd; rfl
  unfold sortOk shs fits
  rw [a1, a2, a3]
  simp
  omega
theorem sort_mvs {ms : List Mv} (h : ∀ m ∈ ms, Fit 310 1 (mvD m)) (hl : ms.length ≤ 1000) : ∃ zs : List Mv, zs.Perm ms ∧ sortedF (.lst (ms.map mvD)) = some (.lst (zs.map mvD)) := by
  obtain ⟨zs, p, e⟩ := perm_map (f := mvD) (sortD_perm (ms.map mvD))
  refine ⟨zs, p, ?_⟩
  show (if sortOk (ms.map mvD) = true then some (D.lst (sortD (ms.map mvD))) else none) = _
  rw [if_pos (sortOk_mvs h hl), e]
/-- what a row becomes -/
theorem row_ok {n : Nat} (hn : n ≤ 12) {ms : List Mv} (F : Full n ms) : ms.length ≤ 16 ∧ ∃ gs us zs, sortSetF (.lst (ms.map fun m => .str m.1)) = some (.lst (gs.map D.str)) ∧ sortSetF (.lst (ms.map fun m => .str m.2.1)) = some (.lst (us.map D.str)) ∧ sortedF (.lst (ms.map mvD)) = some (.lst (zs.map mvD)) ∧ WfRow n (gs, us, zs) := by
  obtain ⟨xs, ys, X, Y, hk⟩ := F.ex
  have mem : ∀ m ∈ ms, m.1 ∈ xs ∧ m.2.1 ∈ ys := fun m hm => by
    have : key m ∈ prod xs ys := by rw [← hk]; exact List.mem_map_of_mem hm
    exact prod_mem.mp this
  have hlen : ms.length ≤ 16 := by
    have h1 := congrArg List.length hk
    have h2 := flat_len (fun x => ys.map fun y => (x, y)) 4 xs fun x _ => by rw [List.length_map]; exact Y.l
    have h3 : xs.length * 4 ≤ 4 * 4 := Nat.mul_le_mul_right 4 X.l
    rw [List.length_map] at h1
    unfold prod at h1
    omega
  have ok : ∀ m ∈ ms, MvOk n m := fun m hm => ⟨X.s _ (mem m hm).1, Y.s _ (mem m hm).2, F.z m hm⟩
  have nd : (ms.map key).Nodup := by rw [hk]; exact prod_nd Y.n X.n
  obtain ⟨gs, og, mg, _, eg⟩ := sortset_s (ms.map fun m => m.1) (by rw [List.length_map]; omega)
  obtain ⟨us, ou, mu, _, eu⟩ := sortset_s (ms.map fun m => m.2.1) (by rw [List.length_map]; omega)
  obtain ⟨zs, p, ez⟩ := sort_mvs (ms := ms) (fun m hm => mv_fit hn (ok m hm)) (by omega)
  rw [List.map_map] at eg eu
  have gx : ∀ z ∈ gs, z ∈ xs := fun z hz => by
    obtain ⟨m, hm, rfl⟩ := List.mem_map.mp ((mg z).mp hz)
    exact (mem m hm).1
  have uy : ∀ z ∈ us, z ∈ ys := fun z hz => by
    obtain ⟨m, hm, rfl⟩ := List.mem_map.mp ((mu z).mp hz)
    exact (mem m hm).2
  refine ⟨hlen, gs, us, zs, eg, eu, ez, ⟨Nat.le_trans (nd_len gs xs (lt_nd og) gx) X.l, fun x hx => X.s x (gx x hx), og⟩, ⟨Nat.le_trans (nd_len us ys (lt_nd ou) uy) Y.l, fun x hx => Y.s x (uy x hx), ou⟩, ⟨by rw [p.length_eq]; exact hlen, fun m hm => ok m (p.mem_iff.mp hm)⟩, fun a ha b hb => ?_, fun m hm m' hm' e1 e2 => ?_⟩
  · have : (a, b) ∈ ms.map key := by rw [hk]; exact prod_mem.mpr ⟨gx a ha, uy b hb⟩
    obtain ⟨m, hm, e⟩ := List.mem_map.mp this
    exact ⟨m, p.mem_iff.mpr hm, (Prod.mk.inj e).1, (Prod.mk.inj e).2⟩
  · rw [nd_inj nd (p.mem_iff.mp hm) (p.mem_iff.mp hm') e1 e2]
abbrev rowsD (rws : List (List Mv)) : D := .lst (rws.map fun ms => .lst (ms.map mvD))
def IsRul (d : D) : Prop := ∃ rows rd, d = rulD rows rd ∧ WfRul rows rd
theorem made_ok {rws : List (List Mv)} {rd : List Str} (g : G) (h0 : rws ≠ []) (h12 : rws.length ≤ 12) (hF : ∀ ms ∈ rws, Full rws.length ms) (hd : rd.length ≤ 10 ∧ ∀ x ∈ rd, sgn x = true) : ∃ d, den__law_made [rowsD rws, .lst (rd.map D.str)] g = .ok d g ∧ IsRul d := by
  suffices h : (den__law_made [rowsD rws, .lst (rd.map D.str)] g).Ok fun d g' => IsRul d ∧ g' = g by
    obtain ⟨d, g', e, h1, rfl⟩ := h.ex
    exact ⟨d, e, h1⟩
  unfold den__law_made m__law_made
  simp only [den_ok, srt_ok, seq_ok, nx_ok, set_ok, drop_ok, sif_ok, ow_ok, fz_ok, fzz_ok, app_ok, ext_ok, par_ok, asg_ok, for_ok, fcons_ok, fnil_ok, op_ok, un_ok, c_ok, nil_ok, cons_ok, tup_ok, lst_ok, if_ok, andV_ok, orV_ok, notV_ok, ch_ok, tr_ok, b_ok, and_ok, or_ok, not_ok, yes_ok, no_ok, is_ok, sl_ok, call_ok, mt_ok, opF_ok, iv_ok, ir_ok, lc_ok, el1_ok, ok_ok, mV, mVs, gP, pkV, entE, setFs, frz, ownL, gN, gTp, gCn, gNl, wipeE, isB_bl, tr_bl, isStr, isLst, addO_ll, addO_tt, addO_ss, fits, decide_eq_true_eq, Nat.reduceLeDiff, List.map_cons, List.map_nil, List.length_cons, List.length_nil, List.replicate, List.cons_append, List.nil_append, List.append_nil, List.getElem?_cons_zero, List.getElem?_cons_succ, List.set, List.getD_cons_zero, List.getD_cons_succ, Nat.reduceAdd, Nat.reduceSub, Nat.reduceLT, and_self, true_and, and_true, if_true, ↓reduceIte, Option.some.injEq, exists_eq_left', exists_eq_left, exists_eq', exists_eq, D.int.injEq, D.bl.injEq, D.lst.injEq, D.tup.injEq, Nat.reduceEqDiff, forall_const, reduceCtorEq, false_implies, Bool.true_eq_false, Bool.false_eq_true, implies_true, itemsD]
  refine for_inv _ (fun i ρ g' => ∃ (acc : List Rw) (s3 s4 s5 s6 : Sl), ρ = [.val (rowsD rws), .val (.lst (rd.map D.str)), .own (.lst (acc.map rwD)), s3, s4, s5, s6] ∧ acc.length = i ∧ (∀ r ∈ acc, WfRow rws.length r) ∧ g' = g) _ _ ⟨[], _, _, _, _, rfl, rfl, by simp, rfl⟩ (fun i d ρ g' hd2 hI => ?_) (fun ρ g' hI => ?_)
  · obtain ⟨acc, s3, s4, s5, s6, rfl, ha, hw, rfl⟩ := hI
    rw [List.getElem?_map] at hd2
    obtain ⟨ms, hms, rfl⟩ := Option.map_eq_some_iff.mp hd2
    have hi : i < rws.length := (List.getElem?_eq_some_iff.mp hms).1
    obtain ⟨l16, gs, us, zs, eg, eu, ez, W⟩ := row_ok h12 (hF ms (List.mem_of_getElem? hms))
    have i0 : ∀ m : Mv, idxO (mvD m) (.int 0) = some (.str m.1) := fun m => by kernel_rfl
    have i1 : ∀ m : Mv, idxO (mvD m) (.int 1) = some (.str m.2.1) := fun m => by kernel_rfl
    refine ⟨_, rfl, ?_⟩
    simp only [den_ok, srt_ok, seq_ok, nx_ok, set_ok, drop_ok, sif_ok, ow_ok, fz_ok, fzz_ok, app_ok, ext_ok, par_ok, asg_ok, for_ok, fcons_ok, fnil_ok, op_ok, un_ok, c_ok, nil_ok, cons_ok, tup_ok, lst_ok, if_ok, andV_ok, orV_ok, notV_ok, ch_ok, tr_ok, b_ok, and_ok, or_ok, not_ok, yes_ok, no_ok, is_ok, sl_ok, call_ok, mt_ok, opF_ok, iv_ok, ir_ok, lc_ok, el1_ok, ok_ok, mV, mVs, gP, pkV, entE, setFs, frz, ownL, gN, gTp, gCn, gNl, wipeE, isB_bl, tr_bl, isStr, isLst, addO_ll, addO_tt, addO_ss, fits, decide_eq_true_eq, Nat.reduceLeDiff, List.map_cons, List.map_nil, List.length_cons, List.length_nil, List.replicate, List.cons_append, List.nil_append, List.append_nil, List.getElem?_cons_zero, List.getElem?_cons_succ, List.set, List.getD_cons_zero, List.getD_cons_succ, Nat.reduceAdd, Nat.reduceSub, Nat.reduceLT, and_self, true_and, and_true, if_true, ↓reduceIte, Option.some.injEq, exists_eq_left', exists_eq_left, exists_eq', exists_eq, D.int.injEq, D.bl.injEq, D.lst.injEq, D.tup.injEq, Nat.reduceEqDiff, forall_const, reduceCtorEq, false_implies, Bool.true_eq_false, Bool.false_eq_true, implies_true, itemsD]
    rw [ga_map _ _ (f := fun m : Mv => [D.str m.1]) fun m _ => ⟨_, rfl, Res.Ok.eq (by simp only [den_ok, srt_ok, seq_ok, nx_ok, set_ok, drop_ok, sif_ok, ow_ok, fz_ok, fzz_ok, app_ok, ext_ok, par_ok, asg_ok, for_ok, fcons_ok, fnil_ok, op_ok, un_ok, c_ok, nil_ok, cons_ok, tup_ok, lst_ok, if_ok, andV_ok, orV_ok, notV_ok, ch_ok, tr_ok, b_ok, and_ok, or_ok, not_ok, yes_ok, no_ok, is_ok, sl_ok, call_ok, mt_ok, opF_ok, iv_ok, ir_ok, lc_ok, el1_ok, ok_ok, mV, mVs, gP, pkV, entE, setFs, frz, ownL, gN, gTp, gCn, gNl, wipeE, isB_bl, tr_bl, isStr, isLst, addO_ll, addO_tt, addO_ss, fits, decide_eq_true_eq, Nat.reduceLeDiff, List.map_cons, List.map_nil, List.length_cons, List.length_nil, List.replicate, List.cons_append, List.nil_append, List.append_nil, List.getElem?_cons_zero, List.getElem?_cons_succ, List.set, List.getD_cons_zero, List.getD_cons_succ, Nat.reduceAdd, Nat.reduceSub, Nat.reduceLT, and_self, true_and, and_true, if_true, ↓reduceIte, Option.some.injEq, exists_eq_left', exists_eq_left, exists_eq', exists_eq, D.int.injEq, D.bl.injEq, D.lst.injEq, D.tup.injEq, Nat.reduceEqDiff, forall_const, reduceCtorEq, false_implies, Bool.true_eq_false, Bool.false_eq_true, implies_true, i0])⟩, flat1]
    simp only [den_ok, srt_ok, seq_ok, nx_ok, set_ok, drop_ok, sif_ok, ow_ok, fz_ok, fzz_ok, app_ok, ext_ok, par_ok, asg_ok, for_ok, fcons_ok, fnil_ok, op_ok, un_ok, c_ok, nil_ok, cons_ok, tup_ok, lst_ok, if_ok, andV_ok, orV_ok, notV_ok, ch_ok, tr_ok, b_ok, and_ok, or_ok, not_ok, yes_ok, no_ok, is_ok, sl_ok, call_ok, mt_ok, opF_ok, iv_ok, ir_ok, lc_ok, el1_ok, ok_ok, mV, mVs, gP, pkV, entE, setFs, frz, ownL, gN, gTp, gCn, gNl, wipeE, isB_bl, tr_bl, isStr, isLst, addO_ll, addO_tt, addO_ss, fits, decide_eq_true_eq, Nat.reduceLeDiff, List.map_cons, List.map_nil, List.length_cons, List.length_nil, List.replicate, List.cons_append, List.nil_append, List.append_nil, List.getElem?_cons_zero, List.getElem?_cons_succ, List.set, List.getD_cons_zero, List.getD_cons_succ, Nat.reduceAdd, Nat.reduceSub, Nat.reduceLT, and_self, true_and, and_true, if_true, ↓reduceIte, Option.some.injEq, exists_eq_left', exists_eq_left, exists_eq', exists_eq, D.int.injEq, D.bl.injEq, D.lst.injEq, D.tup.injEq, Nat.reduceEqDiff, forall_const, reduceCtorEq, false_implies, Bool.true_eq_false, Bool.false_eq_true, implies_true, List.length_map, eg, itemsD]
    refine ⟨by omega, ?_⟩
    rw [ga_map _ _ (f := fun m : Mv => [D.str m.2.1]) fun m _ => ⟨_, rfl, Res.Ok.eq (by simp only [den_ok, srt_ok, seq_ok, nx_ok, set_ok, drop_ok, sif_ok, ow_ok, fz_ok, fzz_ok, app_ok, ext_ok, par_ok, asg_ok, for_ok, fcons_ok, fnil_ok, op_ok, un_ok, c_ok, nil_ok, cons_ok, tup_ok, lst_ok, if_ok, andV_ok, orV_ok, notV_ok, ch_ok, tr_ok, b_ok, and_ok, or_ok, not_ok, yes_ok, no_ok, is_ok, sl_ok, call_ok, mt_ok, opF_ok, iv_ok, ir_ok, lc_ok, el1_ok, ok_ok, mV, mVs, gP, pkV, entE, setFs, frz, ownL, gN, gTp, gCn, gNl, wipeE, isB_bl, tr_bl, isStr, isLst, addO_ll, addO_tt, addO_ss, fits, decide_eq_true_eq, Nat.reduceLeDiff, List.map_cons, List.map_nil, List.length_cons, List.length_nil, List.replicate, List.cons_append, List.nil_append, List.append_nil, List.getElem?_cons_zero, List.getElem?_cons_succ, List.set, List.getD_cons_zero, List.getD_cons_succ, Nat.reduceAdd, Nat.reduceSub, Nat.reduceLT, and_self, true_and, and_true, if_true, ↓reduceIte, Option.some.injEq, exists_eq_left', exists_eq_left, exists_eq', exists_eq, D.int.injEq, D.bl.injEq, D.lst.injEq, D.tup.injEq, Nat.reduceEqDiff, forall_const, reduceCtorEq, false_implies, Bool.true_eq_false, Bool.false_eq_true, implies_true, i1])⟩, flat1]
    simp only [den_ok, srt_ok, seq_ok, nx_ok, set_ok, drop_ok, sif_ok, ow_ok, fz_ok, fzz_ok, app_ok, ext_ok, par_ok, asg_ok, for_ok, fcons_ok, fnil_ok, op_ok, un_ok, c_ok, nil_ok, cons_ok, tup_ok, lst_ok, if_ok, andV_ok, orV_ok, notV_ok, ch_ok, tr_ok, b_ok, and_ok, or_ok, not_ok, yes_ok, no_ok, is_ok, sl_ok, call_ok, mt_ok, opF_ok, iv_ok, ir_ok, lc_ok, el1_ok, ok_ok, mV, mVs, gP, pkV, entE, setFs, frz, ownL, gN, gTp, gCn, gNl, wipeE, isB_bl, tr_bl, isStr, isLst, addO_ll, addO_tt, addO_ss, fits, decide_eq_true_eq, Nat.reduceLeDiff, List.map_cons, List.map_nil, List.length_cons, List.length_nil, List.replicate, List.cons_append, List.nil_append, List.append_nil, List.getElem?_cons_zero, List.getElem?_cons_succ, List.set, List.getD_cons_zero, List.getD_cons_succ, Nat.reduceAdd, Nat.reduceSub, Nat.reduceLT, and_self, true_and, and_true, if_true, ↓reduceIte, Option.some.injEq, exists_eq_left', exists_eq_left, exists_eq', exists_eq, D.int.injEq, D.bl.injEq, D.lst.injEq, D.tup.injEq, Nat.reduceEqDiff, forall_const, reduceCtorEq, false_implies, Bool.true_eq_false, Bool.false_eq_true, implies_true, List.length_map, eu, ez, tupleO]
    refine ⟨by omega, by omega, acc ++ [(gs, us, zs)], _, _, _, _, by rw [List.map_append]; rfl, by simp [ha], fun r hr => ?_⟩
    rcases List.mem_append.mp hr with z | z
    · exact hw r z
    · rw [List.mem_singleton.mp z]; exact W
  · obtain ⟨acc, s3, s4, s5, s6, rfl, ha, hw, rfl⟩ := hI
    rw [List.length_map] at ha
    obtain ⟨rd2, p, e⟩ := sort_strs rd (by have := hd.1; omega)
    simp only [den_ok, srt_ok, seq_ok, nx_ok, set_ok, drop_ok, sif_ok, ow_ok, fz_ok, fzz_ok, app_ok, ext_ok, par_ok, asg_ok, for_ok, fcons_ok, fnil_ok, op_ok, un_ok, c_ok, nil_ok, cons_ok, tup_ok, lst_ok, if_ok, andV_ok, orV_ok, notV_ok, ch_ok, tr_ok, b_ok, and_ok, or_ok, not_ok, yes_ok, no_ok, is_ok, sl_ok, call_ok, mt_ok, opF_ok, iv_ok, ir_ok, lc_ok, el1_ok, ok_ok, mV, mVs, gP, pkV, entE, setFs, frz, ownL, gN, gTp, gCn, gNl, wipeE, isB_bl, tr_bl, isStr, isLst, addO_ll, addO_tt, addO_ss, fits, decide_eq_true_eq, Nat.reduceLeDiff, List.map_cons, List.map_nil, List.length_cons, List.length_nil, List.replicate, List.cons_append, List.nil_append, List.append_nil, List.getElem?_cons_zero, List.getElem?_cons_succ, List.set, List.getD_cons_zero, List.getD_cons_succ, Nat.reduceAdd, Nat.reduceSub, Nat.reduceLT, and_self, true_and, and_true, if_true, ↓reduceIte, Option.some.injEq, exists_eq_left', exists_eq_left, exists_eq', exists_eq, D.int.injEq, D.bl.injEq, D.lst.injEq, D.tup.injEq, Nat.reduceEqDiff, forall_const, reduceCtorEq, false_implies, Bool.true_eq_false, Bool.false_eq_true, implies_true, e, tupleO]
    refine ⟨acc, rd2, rfl, ⟨?_, by omega⟩, fun r hr => by rw [ha]; exact hw r hr, by rw [p.length_eq]; exact hd.1, fun x hx => hd.2 x (p.mem_iff.mp hx)⟩
    intro e
    rw [e] at ha
    exact h0 (List.length_eq_zero_iff.mp ha.symm)
end Z

set_option maxHeartbeats 0
namespace Z
open PySem PySem.Spec PyProof.Rows L2
set_option autoImplicit false
/-! ### drawn signs and rules -/
def Four (xs : List Str) : Prop := ∃ n b r w : Str, xs = [n, b, r, w] ∧ n ≠ b ∧ r ≠ w ∧ sgn n = true ∧ sgn b = true ∧ sgn r = true ∧ sgn w = true
abbrev lot7 : List D := [.lst ((["none", "box", "ready", "wait"] : List Str).map D.str), .lst ((["a", "ab", "b", "ba"] : List Str).map D.str), .lst ((["barred", "held", "up", "down"] : List Str).map D.str), .lst ((["zzzzzzzz", "z", "zz", "y"] : List Str).map D.str), .lst ((["shown", "deaf", "next", "pairs"] : List Str).map D.str), .lst ((["wait", "ready", "none", "box"] : List Str).map D.str), .lst ((["none", "box", "ready", "wait"] : List Str).map D.str)]
theorem lot7_ok : ∀ d ∈ lot7, ∃ xs, d = .lst (xs.map D.str) ∧ Four xs := by
  intro d hd
  simp only [lot7, List.mem_cons, List.not_mem_nil, or_false] at hd
  rcases hd with rfl | rfl | rfl | rfl | rfl | rfl | rfl
  all_goals exact ⟨_, rfl, _, _, _, _, rfl, by decide +kernel, by decide +kernel, by decide +kernel, by decide +kernel, by decide +kernel, by decide +kernel⟩
theorem signs {g : G} (F : FG g) {P : D → G → Prop} (h : ∀ (xs : List Str) (g' : G), Four xs → FG g' → P (.lst (xs.map D.str)) g') : (den__law_signs [.ref 0] g).Ok P := by
  unfold den__law_signs m__law_signs
  simp only [den_ok, srt_ok, seq_ok, nx_ok, set_ok, drop_ok, sif_ok, ow_ok, fz_ok, fzz_ok, app_ok, ext_ok, par_ok, asg_ok, for_ok, fcons_ok, fnil_ok, op_ok, un_ok, c_ok, nil_ok, cons_ok, tup_ok, lst_ok, if_ok, andV_ok, orV_ok, notV_ok, ch_ok, tr_ok, b_ok, and_ok, or_ok, not_ok, yes_ok, no_ok, is_ok, sl_ok, call_ok, mt_ok, opF_ok, iv_ok, ir_ok, lc_ok, el1_ok, ok_ok, mV, mVs, gP, pkV, entE, setFs, frz, ownL, gN, gTp, gCn, gNl, wipeE, isB_bl, tr_bl, isStr, isLst, addO_ll, addO_tt, addO_ss, fits, decide_eq_true_eq, Nat.reduceLeDiff, List.map_cons, List.map_nil, List.length_cons, List.length_nil, List.replicate, List.cons_append, List.nil_append, List.append_nil, List.getElem?_cons_zero, List.getElem?_cons_succ, List.set, List.getD_cons_zero, List.getD_cons_succ, Nat.reduceAdd, Nat.reduceSub, Nat.reduceLT, and_self, true_and, and_true, if_true, ↓reduceIte, Option.some.injEq, exists_eq_left', exists_eq_left, exists_eq', exists_eq, D.int.injEq, D.bl.injEq, D.lst.injEq, D.tup.injEq, Nat.reduceEqDiff, forall_const, reduceCtorEq, false_implies, Bool.true_eq_false, Bool.false_eq_true, implies_true]
  refine pick F (by simp) (by decide) fun d g1 hd F1 => ?_
  obtain ⟨xs, rfl, hx⟩ := lot7_ok d hd
  exact h xs g1 hx F1
theorem sg1 {a : Str} (ha : sgn a = true) : SgL [a] := ⟨by simp, by simp, by simp [ha]⟩
theorem sg2 {a b : Str} (h : a ≠ b) (ha : sgn a = true) (hb : sgn b = true) : SgL [a, b] := ⟨by simp [h], by simp, by simp [ha, hb]⟩
section
variable {n b r w : Str} {x1 x2 x3 x4 : Nat} {k : Nat}
theorem f11 (hn : sgn n = true) (hr : sgn r = true) (h1 : x1 < k) : Full k [(n, r, x1)] := ⟨⟨[n], [r], sg1 hn, sg1 hr, rfl⟩, by simp [h1]⟩
theorem f12 (hn : sgn n = true) (hrw : r ≠ w) (hr : sgn r = true) (hw : sgn w = true) (h1 : x1 < k) (h2 : x2 < k) : Full k [(n, r, x1), (n, w, x2)] := ⟨⟨[n], [r, w], sg1 hn, sg2 hrw hr hw, rfl⟩, by simp [h1, h2]⟩
theorem f22 (hbn : b ≠ n) (hb : sgn b = true) (hn : sgn n = true) (hrw : r ≠ w) (hr : sgn r = true) (hw : sgn w = true) (h1 : x1 < k) (h2 : x2 < k) (h3 : x3 < k) (h4 : x4 < k) : Full k [(b, r, x1), (b, w, x2), (n, r, x3), (n, w, x4)] := ⟨⟨[b, n], [r, w], sg2 hbn hb hn, sg2 hrw hr hw, rfl⟩, by simp [h1, h2, h3, h4]⟩
end
theorem all2 {p : List Mv → Prop} {a b : List Mv} (h1 : p a) (h2 : p b) : ∀ ms ∈ [a, b], p ms := by simp [h1, h2]
theorem all1 {p : List Mv → Prop} {a : List Mv} (h1 : p a) : ∀ ms ∈ [a], p ms := by simp [h1]
theorem hand_rules {xs : List Str} (h : Four xs) (g : G) : ∃ ds, den__law_hand_rules [.lst (xs.map D.str)] g = .ok (.lst ds) g ∧ ds ≠ [] ∧ ds.length < 1000 ∧ ∀ d ∈ ds, IsRul d := by
  obtain ⟨n, b, r, w, rfl, hnb, hrw, hn, hb, hr, hw⟩ := h
  have hbn : b ≠ n := fun e => hnb e.symm
  have rd1 : ([r] : List Str).length ≤ 10 ∧ ∀ x ∈ [r], sgn x = true := ⟨by simp, by simp [hr]⟩
  have rd2 : ([w, r] : List Str).length ≤ 10 ∧ ∀ x ∈ [w, r], sgn x = true := ⟨by simp, by simp [hr, hw]⟩
  obtain ⟨d1, e1, R1⟩ := made_ok (rws := [[(n, r, 1), (n, w, 0)], [(b, r, 0), (b, w, 0), (n, r, 1), (n, w, 0)]]) (rd := [r]) g (by simp) (by simp) (all2 (f12 hn hrw hr hw (by simp) (by simp)) (f22 hbn hb hn hrw hr hw (by simp) (by simp) (by simp) (by simp))) rd1
  obtain ⟨d2, e2, R2⟩ := made_ok (rws := [[(b, r, 0), (b, w, 0), (n, r, 0), (n, w, 0)]]) (rd := [r]) g (by simp) (by simp) (all1 (f22 hbn hb hn hrw hr hw (by simp) (by simp) (by simp) (by simp))) rd1
  obtain ⟨d3, e3, R3⟩ := made_ok (rws := [[(n, r, 1), (n, w, 0)], [(b, r, 1), (b, w, 0), (n, r, 1), (n, w, 0)]]) (rd := [r]) g (by simp) (by simp) (all2 (f12 hn hrw hr hw (by simp) (by simp)) (f22 hbn hb hn hrw hr hw (by simp) (by simp) (by simp) (by simp))) rd1
  obtain ⟨d4, e4, R4⟩ := made_ok (rws := [[(n, r, 1)], [(n, w, 0)]]) (rd := [r]) g (by simp) (by simp) (all2 (f11 hn hr (by simp)) (f11 hn hw (by simp))) rd1
  obtain ⟨d5, e5, R5⟩ := made_ok (rws := [[(n, r, 0), (n, w, 0)]]) (rd := [w, r]) g (by simp) (by simp) (all1 (f12 hn hrw hr hw (by simp) (by simp))) rd2
  obtain ⟨d6, e6, R6⟩ := made_ok (rws := [[(n, r, 1), (n, w, 0)], [(b, r, 2), (b, w, 0)], [(n, w, 0)], [(b, r, 3)]]) (rd := [r]) g (by simp) (by simp) (fun ms hm => by
    simp only [List.mem_cons, List.not_mem_nil, or_false] at hm
    rcases hm with rfl | rfl | rfl | rfl
    · exact f12 hn hrw hr hw (by simp) (by simp)
    · exact f12 hb hrw hr hw (by simp) (by simp)
    · exact f11 hn hw (by simp)
    · exact f11 hb hr (by simp)) rd1
  have l1 : den__law_made [.lst [.lst [.tup [.str n, .str r, .int 1], .tup [.str n, .str w, .int 0]], .lst [.tup [.str b, .str r, .int 0], .tup [.str b, .str w, .int 0], .tup [.str n, .str r, .int 1], .tup [.str n, .str w, .int 0]]], .lst [.str r]] g = .ok d1 g := e1
  have l2 : den__law_made [.lst [.lst [.tup [.str b, .str r, .int 0], .tup [.str b, .str w, .int 0], .tup [.str n, .str r, .int 0], .tup [.str n, .str w, .int 0]]], .lst [.str r]] g = .ok d2 g := e2
  have l3 : den__law_made [.lst [.lst [.tup [.str n, .str r, .int 1], .tup [.str n, .str w, .int 0]], .lst [.tup [.str b, .str r, .int 1], .tup [.str b, .str w, .int 0], .tup [.str n, .str r, .int 1], .tup [.str n, .str w, .int 0]]], .lst [.str r]] g = .ok d3 g := e3
  have l4 : den__law_made [.lst [.lst [.tup [.str n, .str r, .int 1]], .lst [.tup [.str n, .str w, .int 0]]], .lst [.str r]] g = .ok d4 g := e4
  have l5 : den__law_made [.lst [.lst [.tup [.str n, .str r, .int 0], .tup [.str n, .str w, .int 0]]], .lst [.str w, .str r]] g = .ok d5 g := e5
  have l6 : den__law_made [.lst [.lst [.tup [.str n, .str r, .int 1], .tup [.str n, .str w, .int 0]], .lst [.tup [.str b, .str r, .int 2], .tup [.str b, .str w, .int 0]], .lst [.tup [.str n, .str w, .int 0]], .lst [.tup [.str b, .str r, .int 3]]], .lst [.str r]] g = .ok d6 g := e6
  have eh : den__law_hand [.lst [.str n, .str b, .str r, .str w]] g = .ok d1 g := by
    refine Res.Ok.eq ?_
    unfold den__law_hand m__law_hand
    simp only [den_ok, srt_ok, seq_ok, nx_ok, set_ok, drop_ok, sif_ok, ow_ok, fz_ok, fzz_ok, app_ok, ext_ok, par_ok, asg_ok, for_ok, fcons_ok, fnil_ok, op_ok, un_ok, c_ok, nil_ok, cons_ok, tup_ok, lst_ok, if_ok, andV_ok, orV_ok, notV_ok, ch_ok, tr_ok, b_ok, and_ok, or_ok, not_ok, yes_ok, no_ok, is_ok, sl_ok, call_ok, mt_ok, opF_ok, iv_ok, ir_ok, lc_ok, el1_ok, ok_ok, mV, mVs, gP, pkV, entE, setFs, frz, ownL, gN, gTp, gCn, gNl, wipeE, isB_bl, tr_bl, isStr, isLst, addO_ll, addO_tt, addO_ss, fits, decide_eq_true_eq, Nat.reduceLeDiff, List.map_cons, List.map_nil, List.length_cons, List.length_nil, List.replicate, List.cons_append, List.nil_append, List.append_nil, List.getElem?_cons_zero, List.getElem?_cons_succ, List.set, List.getD_cons_zero, List.getD_cons_succ, Nat.reduceAdd, Nat.reduceSub, Nat.reduceLT, and_self, true_and, and_true, if_true, ↓reduceIte, Option.some.injEq, exists_eq_left', exists_eq_left, exists_eq', exists_eq, D.int.injEq, D.bl.injEq, D.lst.injEq, D.tup.injEq, Nat.reduceEqDiff, forall_const, reduceCtorEq, false_implies, Bool.true_eq_false, Bool.false_eq_true, implies_true, ok_of l1]
  refine ⟨[d1, d1, d2, d3, d4, d5, d6], Res.Ok.eq ?_, by simp, by simp, fun d hd => ?_⟩
  · unfold den__law_hand_rules m__law_hand_rules
    simp (config := { maxSteps := 5000000 }) only [den_ok, srt_ok, seq_ok, nx_ok, set_ok, drop_ok, sif_ok, ow_ok, fz_ok, fzz_ok, app_ok, ext_ok, par_ok, asg_ok, for_ok, fcons_ok, fnil_ok, op_ok, un_ok, c_ok, nil_ok, cons_ok, tup_ok, lst_ok, if_ok, andV_ok, orV_ok, notV_ok, ch_ok, tr_ok, b_ok, and_ok, or_ok, not_ok, yes_ok, no_ok, is_ok, sl_ok, call_ok, mt_ok, opF_ok, iv_ok, ir_ok, lc_ok, el1_ok, ok_ok, mV, mVs, gP, pkV, entE, setFs, frz, ownL, gN, gTp, gCn, gNl, wipeE, isB_bl, tr_bl, isStr, isLst, addO_ll, addO_tt, addO_ss, fits, decide_eq_true_eq, Nat.reduceLeDiff, List.map_cons, List.map_nil, List.length_cons, List.length_nil, List.replicate, List.cons_append, List.nil_append, List.append_nil, List.getElem?_cons_zero, List.getElem?_cons_succ, List.set, List.getD_cons_zero, List.getD_cons_succ, Nat.reduceAdd, Nat.reduceSub, Nat.reduceLT, and_self, true_and, and_true, if_true, ↓reduceIte, Option.some.injEq, exists_eq_left', exists_eq_left, exists_eq', exists_eq, D.int.injEq, D.bl.injEq, D.lst.injEq, D.tup.injEq, Nat.reduceEqDiff, forall_const, reduceCtorEq, false_implies, Bool.true_eq_false, Bool.false_eq_true, implies_true, ok_of eh, ok_of l2, ok_of l3, ok_of l4, ok_of l5, ok_of l6]
  · simp only [List.mem_cons, List.not_mem_nil, or_false] at hd
    rcases hd with rfl | rfl | rfl | rfl | rfl | rfl | rfl <;> assumption
end Z

set_option maxHeartbeats 0
namespace Z
open PySem PySem.Spec PyProof.Rows L2
set_option autoImplicit false
theorem cross_ok (xs ys : List D) (hx : xs.length ≤ 100) (hy : ys.length ≤ 100) (g : G) : den__law_cross [.lst xs, .lst ys] g = .ok (.lst (xs.flatMap fun x => ys.map fun y => .tup [x, y])) g := by
  refine Res.Ok.eq ?_
  unfold den__law_cross m__law_cross
  simp only [den_ok, srt_ok, seq_ok, nx_ok, set_ok, drop_ok, sif_ok, ow_ok, fz_ok, fzz_ok, app_ok, ext_ok, par_ok, asg_ok, for_ok, fcons_ok, fnil_ok, op_ok, un_ok, c_ok, nil_ok, cons_ok, tup_ok, lst_ok, if_ok, andV_ok, orV_ok, notV_ok, ch_ok, tr_ok, b_ok, and_ok, or_ok, not_ok, yes_ok, no_ok, is_ok, sl_ok, call_ok, mt_ok, opF_ok, iv_ok, ir_ok, lc_ok, el1_ok, ok_ok, mV, mVs, gP, pkV, entE, setFs, frz, ownL, gN, gTp, gCn, gNl, wipeE, isB_bl, tr_bl, isStr, isLst, addO_ll, addO_tt, addO_ss, fits, decide_eq_true_eq, Nat.reduceLeDiff, List.map_cons, List.map_nil, List.length_cons, List.length_nil, List.replicate, List.cons_append, List.nil_append, List.append_nil, List.getElem?_cons_zero, List.getElem?_cons_succ, List.set, List.getD_cons_zero, List.getD_cons_succ, Nat.reduceAdd, Nat.reduceSub, Nat.reduceLT, and_self, true_and, and_true, if_true, ↓reduceIte, Option.some.injEq, exists_eq_left', exists_eq_left, exists_eq', exists_eq, D.int.injEq, D.bl.injEq, D.lst.injEq, D.tup.injEq, Nat.reduceEqDiff, forall_const, reduceCtorEq, false_implies, Bool.true_eq_false, Bool.false_eq_true, implies_true, itemsD]
  refine for_inv _ (fun i ρ g' => ∃ (s3 s4 : Sl), ρ = [.val (.lst xs), .val (.lst ys), .own (.lst ((xs.take i).flatMap fun x => ys.map fun y => .tup [x, y])), s3, s4] ∧ g' = g) _ _ ⟨_, _, rfl, rfl⟩ (fun i d ρ g' hd hI => ?_) (fun ρ g' hI => ?_)
  · obtain ⟨s3, s4, rfl, rfl⟩ := hI
    have hi := (List.getElem?_eq_some_iff.mp hd).1
    have fl := flat_len (fun x => ys.map fun y => D.tup [x, y]) 100 (xs.take i) fun x _ => by rw [List.length_map]; exact hy
    have h2 : (xs.take i).length * 100 ≤ 100 * 100 := Nat.mul_le_mul_right 100 (by rw [List.length_take]; omega)
    refine ⟨_, rfl, ?_⟩
    simp only [den_ok, srt_ok, seq_ok, nx_ok, set_ok, drop_ok, sif_ok, ow_ok, fz_ok, fzz_ok, app_ok, ext_ok, par_ok, asg_ok, for_ok, fcons_ok, fnil_ok, op_ok, un_ok, c_ok, nil_ok, cons_ok, tup_ok, lst_ok, if_ok, andV_ok, orV_ok, notV_ok, ch_ok, tr_ok, b_ok, and_ok, or_ok, not_ok, yes_ok, no_ok, is_ok, sl_ok, call_ok, mt_ok, opF_ok, iv_ok, ir_ok, lc_ok, el1_ok, ok_ok, mV, mVs, gP, pkV, entE, setFs, frz, ownL, gN, gTp, gCn, gNl, wipeE, isB_bl, tr_bl, isStr, isLst, addO_ll, addO_tt, addO_ss, fits, decide_eq_true_eq, Nat.reduceLeDiff, List.map_cons, List.map_nil, List.length_cons, List.length_nil, List.replicate, List.cons_append, List.nil_append, List.append_nil, List.getElem?_cons_zero, List.getElem?_cons_succ, List.set, List.getD_cons_zero, List.getD_cons_succ, Nat.reduceAdd, Nat.reduceSub, Nat.reduceLT, and_self, true_and, and_true, if_true, ↓reduceIte, Option.some.injEq, exists_eq_left', exists_eq_left, exists_eq', exists_eq, D.int.injEq, D.bl.injEq, D.lst.injEq, D.tup.injEq, Nat.reduceEqDiff, forall_const, reduceCtorEq, false_implies, Bool.true_eq_false, Bool.false_eq_true, implies_true, itemsD]
    rw [ga_pure (f := fun y => [D.tup [d, y]]) ys g' fun y _ => ?_, flat1]
    rotate_left
    · refine ⟨_, rfl, Res.Ok.eq ?_⟩
      simp only [den_ok, srt_ok, seq_ok, nx_ok, set_ok, drop_ok, sif_ok, ow_ok, fz_ok, fzz_ok, app_ok, ext_ok, par_ok, asg_ok, for_ok, fcons_ok, fnil_ok, op_ok, un_ok, c_ok, nil_ok, cons_ok, tup_ok, lst_ok, if_ok, andV_ok, orV_ok, notV_ok, ch_ok, tr_ok, b_ok, and_ok, or_ok, not_ok, yes_ok, no_ok, is_ok, sl_ok, call_ok, mt_ok, opF_ok, iv_ok, ir_ok, lc_ok, el1_ok, ok_ok, mV, mVs, gP, pkV, entE, setFs, frz, ownL, gN, gTp, gCn, gNl, wipeE, isB_bl, tr_bl, isStr, isLst, addO_ll, addO_tt, addO_ss, fits, decide_eq_true_eq, Nat.reduceLeDiff, List.map_cons, List.map_nil, List.length_cons, List.length_nil, List.replicate, List.cons_append, List.nil_append, List.append_nil, List.getElem?_cons_zero, List.getElem?_cons_succ, List.set, List.getD_cons_zero, List.getD_cons_succ, Nat.reduceAdd, Nat.reduceSub, Nat.reduceLT, and_self, true_and, and_true, if_true, ↓reduceIte, Option.some.injEq, exists_eq_left', exists_eq_left, exists_eq', exists_eq, D.int.injEq, D.bl.injEq, D.lst.injEq, D.tup.injEq, Nat.reduceEqDiff, forall_const, reduceCtorEq, false_implies, Bool.true_eq_false, Bool.false_eq_true, implies_true]
    simp only [den_ok, srt_ok, seq_ok, nx_ok, set_ok, drop_ok, sif_ok, ow_ok, fz_ok, fzz_ok, app_ok, ext_ok, par_ok, asg_ok, for_ok, fcons_ok, fnil_ok, op_ok, un_ok, c_ok, nil_ok, cons_ok, tup_ok, lst_ok, if_ok, andV_ok, orV_ok, notV_ok, ch_ok, tr_ok, b_ok, and_ok, or_ok, not_ok, yes_ok, no_ok, is_ok, sl_ok, call_ok, mt_ok, opF_ok, iv_ok, ir_ok, lc_ok, el1_ok, ok_ok, mV, mVs, gP, pkV, entE, setFs, frz, ownL, gN, gTp, gCn, gNl, wipeE, isB_bl, tr_bl, isStr, isLst, addO_ll, addO_tt, addO_ss, fits, decide_eq_true_eq, Nat.reduceLeDiff, List.map_cons, List.map_nil, List.length_cons, List.length_nil, List.replicate, List.cons_append, List.nil_append, List.append_nil, List.getElem?_cons_zero, List.getElem?_cons_succ, List.set, List.getD_cons_zero, List.getD_cons_succ, Nat.reduceAdd, Nat.reduceSub, Nat.reduceLT, and_self, true_and, and_true, if_true, ↓reduceIte, Option.some.injEq, exists_eq_left', exists_eq_left, exists_eq', exists_eq, D.int.injEq, D.bl.injEq, D.lst.injEq, D.tup.injEq, Nat.reduceEqDiff, forall_const, reduceCtorEq, false_implies, Bool.true_eq_false, Bool.false_eq_true, implies_true, List.length_map]
    have e : (xs.take (i + 1)).flatMap (fun x => ys.map fun y => D.tup [x, y]) = (xs.take i).flatMap (fun x => ys.map fun y => D.tup [x, y]) ++ ys.map fun y => D.tup [d, y] := by
      rw [take_one hd, List.flatMap_append]
      simp
    rw [e]
    exact ⟨by omega, by omega, _, _, rfl⟩
  · obtain ⟨s3, s4, rfl, rfl⟩ := hI
    rw [List.take_length]
    simp only [den_ok, srt_ok, seq_ok, nx_ok, set_ok, drop_ok, sif_ok, ow_ok, fz_ok, fzz_ok, app_ok, ext_ok, par_ok, asg_ok, for_ok, fcons_ok, fnil_ok, op_ok, un_ok, c_ok, nil_ok, cons_ok, tup_ok, lst_ok, if_ok, andV_ok, orV_ok, notV_ok, ch_ok, tr_ok, b_ok, and_ok, or_ok, not_ok, yes_ok, no_ok, is_ok, sl_ok, call_ok, mt_ok, opF_ok, iv_ok, ir_ok, lc_ok, el1_ok, ok_ok, mV, mVs, gP, pkV, entE, setFs, frz, ownL, gN, gTp, gCn, gNl, wipeE, isB_bl, tr_bl, isStr, isLst, addO_ll, addO_tt, addO_ss, fits, decide_eq_true_eq, Nat.reduceLeDiff, List.map_cons, List.map_nil, List.length_cons, List.length_nil, List.replicate, List.cons_append, List.nil_append, List.append_nil, List.getElem?_cons_zero, List.getElem?_cons_succ, List.set, List.getD_cons_zero, List.getD_cons_succ, Nat.reduceAdd, Nat.reduceSub, Nat.reduceLT, and_self, true_and, and_true, if_true, ↓reduceIte, Option.some.injEq, exists_eq_left', exists_eq_left, exists_eq', exists_eq, D.int.injEq, D.bl.injEq, D.lst.injEq, D.tup.injEq, Nat.reduceEqDiff, forall_const, reduceCtorEq, false_implies, Bool.true_eq_false, Bool.false_eq_true, implies_true]
theorem cross_s {xs ys : List Str} (X : SgL xs) (Y : SgL ys) (g : G) : den__law_cross [.lst (xs.map D.str), .lst (ys.map D.str)] g = .ok (.lst ((prod xs ys).map pK)) g := by
  rw [cross_ok _ _ (by rw [List.length_map]; have := X.l; omega) (by rw [List.length_map]; have := Y.l; omega)]
  congr 2
  unfold prod
  rw [List.map_flatMap, List.flatMap_map]
  simp only [List.map_map]
  rfl
theorem sl_ok4 {xs : List Str} (h : Four xs) : ∀ ys, ys.Sublist xs → ys ∈ [xs.take 1, (xs.drop 1).take 1, xs.take 2, (xs.drop 2).take 1, xs.drop 3, xs.drop 2] → SgL ys := by
  obtain ⟨n, b, r, w, rfl, hnb, hrw, hn, hb, hr, hw⟩ := h
  intro ys _ hy
  simp only [List.take, List.drop, List.mem_cons, List.not_mem_nil, or_false] at hy
  rcases hy with rfl | rfl | rfl | rfl | rfl | rfl
  · exact sg1 hn
  · exact sg1 hb
  · exact sg2 hnb hn hb
  · exact sg1 hr
  · exact sg1 hw
  · exact sg2 hrw hr hw
theorem rule_2 {g : G} (F2 : FG g) {n b r w : Str} (hnb : n ≠ b) (hrw : r ≠ w) (hn : sgn n = true) (hb : sgn b = true) (hr : sgn r = true) (hw : sgn w = true) {k : Nat} (hk0 : 0 < k) (hk3 : k ≤ 3) {P : D → G → Prop} {N : Z.Env → G → Prop} (hP : ∀ d g', IsRul d → FG g' → P d g') :
    (m__law_rule_2 [.val (.ref 0), .val (.lst [.str n, .str b, .str r, .str w]), .own (.lst []), .val (.int k), .no, .no, .no, .no, .no] g).Ok N P := by
  have gv : ∀ d ∈ [D.lst [.str n], D.lst [.str b], D.lst [.str n, .str b], D.lst [.str n, .str b]], ∃ zs, d = .lst (zs.map D.str) ∧ SgL zs := fun d hd => by
    simp only [List.mem_cons, List.not_mem_nil, or_false] at hd
    rcases hd with rfl | rfl | rfl | rfl
    · exact ⟨[n], rfl, sg1 hn⟩
    · exact ⟨[b], rfl, sg1 hb⟩
    · exact ⟨[n, b], rfl, sg2 hnb hn hb⟩
    · exact ⟨[n, b], rfl, sg2 hnb hn hb⟩
  have tk : ∀ d ∈ [D.lst [.str r], D.lst [.str w], D.lst [.str r, .str w], D.lst [.str r, .str w]], ∃ zs, d = .lst (zs.map D.str) ∧ SgL zs := fun d hd => by
    simp only [List.mem_cons, List.not_mem_nil, or_false] at hd
    rcases hd with rfl | rfl | rfl | rfl
    · exact ⟨[r], rfl, sg1 hr⟩
    · exact ⟨[w], rfl, sg1 hw⟩
    · exact ⟨[r, w], rfl, sg2 hrw hr hw⟩
    · exact ⟨[r, w], rfl, sg2 hrw hr hw⟩
  have s1 : slO (.lst [.str n, .str b, .str r, .str w]) none (some 1) = some (.lst [.str n]) := by kernel_rfl
  have s2 : slO (.lst [.str n, .str b, .str r, .str w]) (some 1) (some 2) = some (.lst [.str b]) := by kernel_rfl
  have s3 : slO (.lst [.str n, .str b, .str r, .str w]) none (some 2) = some (.lst [.str n, .str b]) := by kernel_rfl
  have s4 : slO (.lst [.str n, .str b, .str r, .str w]) (some 2) (some 3) = some (.lst [.str r]) := by kernel_rfl
  have s5 : slO (.lst [.str n, .str b, .str r, .str w]) (some 3) none = some (.lst [.str w]) := by kernel_rfl
  have s6 : slO (.lst [.str n, .str b, .str r, .str w]) (some 2) none = some (.lst [.str r, .str w]) := by kernel_rfl
  unfold m__law_rule_2 m__law_rule_3
  simp only [den_ok, srt_ok, seq_ok, nx_ok, set_ok, drop_ok, sif_ok, ow_ok, fz_ok, fzz_ok, app_ok, ext_ok, par_ok, asg_ok, for_ok, fcons_ok, fnil_ok, op_ok, un_ok, c_ok, nil_ok, cons_ok, tup_ok, lst_ok, if_ok, andV_ok, orV_ok, notV_ok, ch_ok, tr_ok, b_ok, and_ok, or_ok, not_ok, yes_ok, no_ok, is_ok, sl_ok, call_ok, mt_ok, opF_ok, iv_ok, ir_ok, lc_ok, el1_ok, ok_ok, mV, mVs, gP, pkV, entE, setFs, frz, ownL, gN, gTp, gCn, gNl, wipeE, isB_bl, tr_bl, isStr, isLst, addO_ll, addO_tt, addO_ss, fits, decide_eq_true_eq, Nat.reduceLeDiff, List.map_cons, List.map_nil, List.length_cons, List.length_nil, List.replicate, List.cons_append, List.nil_append, List.append_nil, List.getElem?_cons_zero, List.getElem?_cons_succ, List.set, List.getD_cons_zero, List.getD_cons_succ, Nat.reduceAdd, Nat.reduceSub, Nat.reduceLT, and_self, true_and, and_true, if_true, ↓reduceIte, Option.some.injEq, exists_eq_left', exists_eq_left, exists_eq', exists_eq, D.int.injEq, D.bl.injEq, D.lst.injEq, D.tup.injEq, Nat.reduceEqDiff, forall_const, reduceCtorEq, false_implies, Bool.true_eq_false, Bool.false_eq_true, implies_true]
  refine ⟨_, rfl, by omega, ?_⟩
  refine for_inv _ (fun i ρ g' => ∃ (rws : List (List Mv)) (t4 t5 t6 t7 t8 : Sl), ρ = [.val (.ref 0), .val (.lst [.str n, .str b, .str r, .str w]), .own (.lst (rws.map fun ms => .lst (ms.map mvD))), .val (.int (k : Int)), t4, t5, t6, t7, t8] ∧ rws.length = i ∧ (∀ ms ∈ rws, Full k ms) ∧ FG g') _ _ ⟨[], _, _, _, _, _, rfl, rfl, by simp, F2⟩ (fun i d ρ g' hd hI => ?_) (fun ρ g' hI => ?_)
  · obtain ⟨rws, t4, t5, t6, t7, t8, rfl, hl, hF, F⟩ := hI
    obtain ⟨hi, rfl⟩ := rng_get hd
    refine ⟨_, rfl, ?_⟩
    simp only [den_ok, srt_ok, seq_ok, nx_ok, set_ok, drop_ok, sif_ok, ow_ok, fz_ok, fzz_ok, app_ok, ext_ok, par_ok, asg_ok, for_ok, fcons_ok, fnil_ok, op_ok, un_ok, c_ok, nil_ok, cons_ok, tup_ok, lst_ok, if_ok, andV_ok, orV_ok, notV_ok, ch_ok, tr_ok, b_ok, and_ok, or_ok, not_ok, yes_ok, no_ok, is_ok, sl_ok, call_ok, mt_ok, opF_ok, iv_ok, ir_ok, lc_ok, el1_ok, ok_ok, mV, mVs, gP, pkV, entE, setFs, frz, ownL, gN, gTp, gCn, gNl, wipeE, isB_bl, tr_bl, isStr, isLst, addO_ll, addO_tt, addO_ss, fits, decide_eq_true_eq, Nat.reduceLeDiff, List.map_cons, List.map_nil, List.length_cons, List.length_nil, List.replicate, List.cons_append, List.nil_append, List.append_nil, List.getElem?_cons_zero, List.getElem?_cons_succ, List.set, List.getD_cons_zero, List.getD_cons_succ, Nat.reduceAdd, Nat.reduceSub, Nat.reduceLT, and_self, true_and, and_true, if_true, ↓reduceIte, Option.some.injEq, exists_eq_left', exists_eq_left, exists_eq', exists_eq, D.int.injEq, D.bl.injEq, D.lst.injEq, D.tup.injEq, Nat.reduceEqDiff, forall_const, reduceCtorEq, false_implies, Bool.true_eq_false, Bool.false_eq_true, implies_true, s1, s2, s3, s4, s5, s6]
    refine pick F (by simp) (by simp) fun d1 g3 hd1 F3 => ?_
    obtain ⟨us, rfl, U⟩ := gv d1 hd1
    refine pick F3 (by simp) (by simp) fun d2 g4 hd2 F4 => ?_
    obtain ⟨vs, rfl, V⟩ := tk d2 hd2
    simp only [den_ok, srt_ok, seq_ok, nx_ok, set_ok, drop_ok, sif_ok, ow_ok, fz_ok, fzz_ok, app_ok, ext_ok, par_ok, asg_ok, for_ok, fcons_ok, fnil_ok, op_ok, un_ok, c_ok, nil_ok, cons_ok, tup_ok, lst_ok, if_ok, andV_ok, orV_ok, notV_ok, ch_ok, tr_ok, b_ok, and_ok, or_ok, not_ok, yes_ok, no_ok, is_ok, sl_ok, call_ok, mt_ok, opF_ok, iv_ok, ir_ok, lc_ok, el1_ok, ok_ok, mV, mVs, gP, pkV, entE, setFs, frz, ownL, gN, gTp, gCn, gNl, wipeE, isB_bl, tr_bl, isStr, isLst, addO_ll, addO_tt, addO_ss, fits, decide_eq_true_eq, Nat.reduceLeDiff, List.map_cons, List.map_nil, List.length_cons, List.length_nil, List.replicate, List.cons_append, List.nil_append, List.append_nil, List.getElem?_cons_zero, List.getElem?_cons_succ, List.set, List.getD_cons_zero, List.getD_cons_succ, Nat.reduceAdd, Nat.reduceSub, Nat.reduceLT, and_self, true_and, and_true, if_true, ↓reduceIte, Option.some.injEq, exists_eq_left', exists_eq_left, exists_eq', exists_eq, D.int.injEq, D.bl.injEq, D.lst.injEq, D.tup.injEq, Nat.reduceEqDiff, forall_const, reduceCtorEq, false_implies, Bool.true_eq_false, Bool.false_eq_true, implies_true, ok_of (cross_s U V g4), itemsD]
    have hp16 : (prod us vs).length ≤ 16 := by
      have h2 := flat_len (fun x => vs.map fun y => (x, y)) 4 us fun x _ => by rw [List.length_map]; exact V.l
      have h3 : us.length * 4 ≤ 4 * 4 := Nat.mul_le_mul_right 4 U.l
      unfold prod
      omega
    refine ga_inv _ (fun j ys g => ∃ ms : List Mv, ys = ms.map mvD ∧ ms.map key = (prod us vs).take j ∧ (∀ m ∈ ms, m.2.2 < k) ∧ FG g) [] _ _ ⟨[], rfl, by simp, by simp, F4⟩ (fun j d zs g hj hJ => ?_) (fun zs g hJ => ?_)
    · obtain ⟨ms, rfl, hk, hz, F⟩ := hJ
      rw [List.getElem?_map] at hj
      obtain ⟨p, hp, rfl⟩ := Option.map_eq_some_iff.mp hj
      refine ⟨_, rfl, ?_⟩
      simp only [den_ok, srt_ok, seq_ok, nx_ok, set_ok, drop_ok, sif_ok, ow_ok, fz_ok, fzz_ok, app_ok, ext_ok, par_ok, asg_ok, for_ok, fcons_ok, fnil_ok, op_ok, un_ok, c_ok, nil_ok, cons_ok, tup_ok, lst_ok, if_ok, andV_ok, orV_ok, notV_ok, ch_ok, tr_ok, b_ok, and_ok, or_ok, not_ok, yes_ok, no_ok, is_ok, sl_ok, call_ok, mt_ok, opF_ok, iv_ok, ir_ok, lc_ok, el1_ok, ok_ok, mV, mVs, gP, pkV, entE, setFs, frz, ownL, gN, gTp, gCn, gNl, wipeE, isB_bl, tr_bl, isStr, isLst, addO_ll, addO_tt, addO_ss, fits, decide_eq_true_eq, Nat.reduceLeDiff, List.map_cons, List.map_nil, List.length_cons, List.length_nil, List.replicate, List.cons_append, List.nil_append, List.append_nil, List.getElem?_cons_zero, List.getElem?_cons_succ, List.set, List.getD_cons_zero, List.getD_cons_succ, Nat.reduceAdd, Nat.reduceSub, Nat.reduceLT, and_self, true_and, and_true, if_true, ↓reduceIte, Option.some.injEq, exists_eq_left', exists_eq_left, exists_eq', exists_eq, D.int.injEq, D.bl.injEq, D.lst.injEq, D.tup.injEq, Nat.reduceEqDiff, forall_const, reduceCtorEq, false_implies, Bool.true_eq_false, Bool.false_eq_true, implies_true]
      refine draw F (by omega) (by omega) fun q g5 hk5 F5 => ?_
      refine ⟨ms ++ [(p.1, p.2, q)], by simp, ?_, fun m hm => ?_, F5⟩
      · rw [List.map_append, hk, take_one hp]; rfl
      · rcases List.mem_append.mp hm with z | z
        · exact hz m z
        · rw [List.mem_singleton.mp z]; show q < k; omega
    · simp only [List.nil_append] at hJ
      obtain ⟨ms, rfl, hk, hz, F⟩ := hJ
      rw [List.length_map, List.take_length] at hk
      have hml : ms.length = (prod us vs).length := by rw [← hk, List.length_map]
      have hi3 : i < k := by simpa using hi
      simp only [den_ok, srt_ok, seq_ok, nx_ok, set_ok, drop_ok, sif_ok, ow_ok, fz_ok, fzz_ok, app_ok, ext_ok, par_ok, asg_ok, for_ok, fcons_ok, fnil_ok, op_ok, un_ok, c_ok, nil_ok, cons_ok, tup_ok, lst_ok, if_ok, andV_ok, orV_ok, notV_ok, ch_ok, tr_ok, b_ok, and_ok, or_ok, not_ok, yes_ok, no_ok, is_ok, sl_ok, call_ok, mt_ok, opF_ok, iv_ok, ir_ok, lc_ok, el1_ok, ok_ok, mV, mVs, gP, pkV, entE, setFs, frz, ownL, gN, gTp, gCn, gNl, wipeE, isB_bl, tr_bl, isStr, isLst, addO_ll, addO_tt, addO_ss, fits, decide_eq_true_eq, Nat.reduceLeDiff, List.map_cons, List.map_nil, List.length_cons, List.length_nil, List.replicate, List.cons_append, List.nil_append, List.append_nil, List.getElem?_cons_zero, List.getElem?_cons_succ, List.set, List.getD_cons_zero, List.getD_cons_succ, Nat.reduceAdd, Nat.reduceSub, Nat.reduceLT, and_self, true_and, and_true, if_true, ↓reduceIte, Option.some.injEq, exists_eq_left', exists_eq_left, exists_eq', exists_eq, D.int.injEq, D.bl.injEq, D.lst.injEq, D.tup.injEq, Nat.reduceEqDiff, forall_const, reduceCtorEq, false_implies, Bool.true_eq_false, Bool.false_eq_true, implies_true, List.length_map]
      refine ⟨by omega, by omega, rws ++ [ms], _, _, _, _, _, by rw [List.map_append]; rfl, by simp [hl], fun m hm => ?_, F⟩
      rcases List.mem_append.mp hm with z | z
      · exact hF m z
      · rw [List.mem_singleton.mp z]; exact ⟨⟨us, vs, U, V, hk⟩, hz⟩
  · obtain ⟨rws, t4, t5, t6, t7, t8, rfl, hl, hF, F⟩ := hI
    rw [rng_len] at hl
    have hl : rws.length = k := by simpa using hl
    have never : sgn "never" = true := by decide +kernel
    have rdv : ∀ d ∈ [D.lst [.str r], D.lst [.str r, .str w], D.lst [], D.lst [.str w, .str "never"]], ∃ zs : List Str, d = .lst (zs.map D.str) ∧ zs.length ≤ 10 ∧ ∀ x ∈ zs, sgn x = true := fun d hd => by
      simp only [List.mem_cons, List.not_mem_nil, or_false] at hd
      rcases hd with rfl | rfl | rfl | rfl
      · exact ⟨[r], rfl, by simp, by simp [hr]⟩
      · exact ⟨[r, w], rfl, by simp, by simp [hr, hw]⟩
      · exact ⟨[], rfl, by simp, by simp⟩
      · exact ⟨[w, "never"], rfl, by simp, by simp [hw, never]⟩
    simp only [den_ok, srt_ok, seq_ok, nx_ok, set_ok, drop_ok, sif_ok, ow_ok, fz_ok, fzz_ok, app_ok, ext_ok, par_ok, asg_ok, for_ok, fcons_ok, fnil_ok, op_ok, un_ok, c_ok, nil_ok, cons_ok, tup_ok, lst_ok, if_ok, andV_ok, orV_ok, notV_ok, ch_ok, tr_ok, b_ok, and_ok, or_ok, not_ok, yes_ok, no_ok, is_ok, sl_ok, call_ok, mt_ok, opF_ok, iv_ok, ir_ok, lc_ok, el1_ok, ok_ok, mV, mVs, gP, pkV, entE, setFs, frz, ownL, gN, gTp, gCn, gNl, wipeE, isB_bl, tr_bl, isStr, isLst, addO_ll, addO_tt, addO_ss, fits, decide_eq_true_eq, Nat.reduceLeDiff, List.map_cons, List.map_nil, List.length_cons, List.length_nil, List.replicate, List.cons_append, List.nil_append, List.append_nil, List.getElem?_cons_zero, List.getElem?_cons_succ, List.set, List.getD_cons_zero, List.getD_cons_succ, Nat.reduceAdd, Nat.reduceSub, Nat.reduceLT, and_self, true_and, and_true, if_true, ↓reduceIte, Option.some.injEq, exists_eq_left', exists_eq_left, exists_eq', exists_eq, D.int.injEq, D.bl.injEq, D.lst.injEq, D.tup.injEq, Nat.reduceEqDiff, forall_const, reduceCtorEq, false_implies, Bool.true_eq_false, Bool.false_eq_true, implies_true, s4, s5, s6]
    refine pick F (by simp) (by simp) fun d1 g3 hd1 F3 => ?_
    obtain ⟨zs, rfl, z1, z2⟩ := rdv d1 hd1
    obtain ⟨d, ed, R⟩ := made_ok (rws := rws) (rd := zs) g3 (fun e => by rw [e] at hl; simp at hl; omega) (by omega) (fun ms hm => by rw [hl]; exact hF ms hm) ⟨z1, z2⟩
    rw [ok_of ed]
    exact hP d g3 R F3
theorem rule {g : G} (F : FG g) {xs : List Str} (h : Four xs) {P : D → G → Prop} (hP : ∀ d g', IsRul d → FG g' → P d g') : (den__law_rule [.ref 0, .lst (xs.map D.str)] g).Ok P := by
  unfold den__law_rule m__law_rule m__law_rule_1
  simp only [den_ok, srt_ok, seq_ok, nx_ok, set_ok, drop_ok, sif_ok, ow_ok, fz_ok, fzz_ok, app_ok, ext_ok, par_ok, asg_ok, for_ok, fcons_ok, fnil_ok, op_ok, un_ok, c_ok, nil_ok, cons_ok, tup_ok, lst_ok, if_ok, andV_ok, orV_ok, notV_ok, ch_ok, tr_ok, b_ok, and_ok, or_ok, not_ok, yes_ok, no_ok, is_ok, sl_ok, call_ok, mt_ok, opF_ok, iv_ok, ir_ok, lc_ok, el1_ok, ok_ok, mV, mVs, gP, pkV, entE, setFs, frz, ownL, gN, gTp, gCn, gNl, wipeE, isB_bl, tr_bl, isStr, isLst, addO_ll, addO_tt, addO_ss, fits, decide_eq_true_eq, Nat.reduceLeDiff, List.map_cons, List.map_nil, List.length_cons, List.length_nil, List.replicate, List.cons_append, List.nil_append, List.append_nil, List.getElem?_cons_zero, List.getElem?_cons_succ, List.set, List.getD_cons_zero, List.getD_cons_succ, Nat.reduceAdd, Nat.reduceSub, Nat.reduceLT, and_self, true_and, and_true, if_true, ↓reduceIte, Option.some.injEq, exists_eq_left', exists_eq_left, exists_eq', exists_eq, D.int.injEq, D.bl.injEq, D.lst.injEq, D.tup.injEq, Nat.reduceEqDiff, forall_const, reduceCtorEq, false_implies, Bool.true_eq_false, Bool.false_eq_true, implies_true]
  refine draw F (by decide) (by decide) fun k0 g1 hk0 F1 => ?_
  obtain ⟨ds, eds, d0, dl, dR⟩ := hand_rules h g1
  simp only [den_ok, srt_ok, seq_ok, nx_ok, set_ok, drop_ok, sif_ok, ow_ok, fz_ok, fzz_ok, app_ok, ext_ok, par_ok, asg_ok, for_ok, fcons_ok, fnil_ok, op_ok, un_ok, c_ok, nil_ok, cons_ok, tup_ok, lst_ok, if_ok, andV_ok, orV_ok, notV_ok, ch_ok, tr_ok, b_ok, and_ok, or_ok, not_ok, yes_ok, no_ok, is_ok, sl_ok, call_ok, mt_ok, opF_ok, iv_ok, ir_ok, lc_ok, el1_ok, ok_ok, mV, mVs, gP, pkV, entE, setFs, frz, ownL, gN, gTp, gCn, gNl, wipeE, isB_bl, tr_bl, isStr, isLst, addO_ll, addO_tt, addO_ss, fits, decide_eq_true_eq, Nat.reduceLeDiff, List.map_cons, List.map_nil, List.length_cons, List.length_nil, List.replicate, List.cons_append, List.nil_append, List.append_nil, List.getElem?_cons_zero, List.getElem?_cons_succ, List.set, List.getD_cons_zero, List.getD_cons_succ, Nat.reduceAdd, Nat.reduceSub, Nat.reduceLT, and_self, true_and, and_true, if_true, ↓reduceIte, Option.some.injEq, exists_eq_left', exists_eq_left, exists_eq', exists_eq, D.int.injEq, D.bl.injEq, D.lst.injEq, D.tup.injEq, Nat.reduceEqDiff, forall_const, reduceCtorEq, false_implies, Bool.true_eq_false, Bool.false_eq_true, implies_true, gtO_ii, ok_of eds]
  refine ⟨fun _ => pick F1 d0 (by omega) fun d g2 hd F2 => hP d g2 (dR d hd) F2, fun _ => ?_⟩
  refine draw F1 (by decide) (by decide) fun k1 g2 hk1 F2 => ?_
  obtain ⟨n, b, r, w, rfl, hnb, hrw, hn, hb, hr, hw⟩ := h
  have e1 := e1k k1
  simp only [den_ok, srt_ok, seq_ok, nx_ok, set_ok, drop_ok, sif_ok, ow_ok, fz_ok, fzz_ok, app_ok, ext_ok, par_ok, asg_ok, for_ok, fcons_ok, fnil_ok, op_ok, un_ok, c_ok, nil_ok, cons_ok, tup_ok, lst_ok, if_ok, andV_ok, orV_ok, notV_ok, ch_ok, tr_ok, b_ok, and_ok, or_ok, not_ok, yes_ok, no_ok, is_ok, sl_ok, call_ok, mt_ok, opF_ok, iv_ok, ir_ok, lc_ok, el1_ok, ok_ok, mV, mVs, gP, pkV, entE, setFs, frz, ownL, gN, gTp, gCn, gNl, wipeE, isB_bl, tr_bl, isStr, isLst, addO_ll, addO_tt, addO_ss, fits, decide_eq_true_eq, Nat.reduceLeDiff, List.map_cons, List.map_nil, List.length_cons, List.length_nil, List.replicate, List.cons_append, List.nil_append, List.append_nil, List.getElem?_cons_zero, List.getElem?_cons_succ, List.set, List.getD_cons_zero, List.getD_cons_succ, Nat.reduceAdd, Nat.reduceSub, Nat.reduceLT, and_self, true_and, and_true, if_true, ↓reduceIte, Option.some.injEq, exists_eq_left', exists_eq_left, exists_eq', exists_eq, D.int.injEq, D.bl.injEq, D.lst.injEq, D.tup.injEq, Nat.reduceEqDiff, forall_const, reduceCtorEq, false_implies, Bool.true_eq_false, Bool.false_eq_true, implies_true, addO_ii, e1]
  exact rule_2 F2 hnb hrw hn hb hr hw (by omega) (by omega) hP
end Z

set_option maxHeartbeats 0
namespace Z
open PySem PySem.Spec PyProof.Rows L2
set_option autoImplicit false
/-! ### the wide rule -/
abbrev gA : List Str := ["a", "b", "c"]
abbrev gB : List Str := ["x", "y", "z"]
theorem gA_ok : SgL gA := ⟨by decide +kernel, by decide, by decide +kernel⟩
theorem gB_ok : SgL gB := ⟨by decide +kernel, by decide, by decide +kernel⟩
@[irreducible] def ixP (p : Str × Str) : Nat := (plcD (pK p) ((prod gA gB).map pK)).getD 0
theorem three {x a b c : Str} (h : x ∈ [a, b, c]) : x = a ∨ x = b ∨ x = c := by simpa using h
theorem where_ok {p : Str × Str} (hp : p ∈ prod gA gB) : whereF (.lst ((prod gA gB).map pK)) [pK p] = some (.int (ixP p : Nat)) := by
  obtain ⟨h1, h2⟩ := prod_mem.mp hp
  obtain ⟨x, y⟩ := p
  rcases three h1 with e | e | e <;> rcases three h2 with e2 | e2 | e2 <;> (dsimp only at e e2; subst e; subst e2; kernel_rfl)
theorem pK_0 (p : Str × Str) : idxO (pK p) (.int 0) = some (.str p.1) := by kernel_rfl
theorem pK_1 (p : Str × Str) : idxO (pK p) (.int 1) = some (.str p.2) := by kernel_rfl
def gV (i : Nat) (p : Str × Str) : Nat := (i * 5 + 7 * ixP p) % 12
def gR : List Rw := (List.range 12).map fun q => (gA, gB, (prod gA gB).map fun p => (p.1, p.2, gV q p))
theorem grand_eq (g : G) : den__law_grand [] g = .ok (rulD gR ["x", "z"]) g := by kernel_rfl
theorem gA_lt : gA.Pairwise ltS := by
  show List.Pairwise (fun a b : Str => a.cps.toList < b.cps.toList) gA
  decide +kernel
theorem gB_lt : gB.Pairwise ltS := by
  show List.Pairwise (fun a b : Str => a.cps.toList < b.cps.toList) gB
  decide +kernel
theorem gR_wf : WfRul gR ["x", "z"] := by
  have l12 : gR.length = 12 := by unfold gR; rw [List.length_map, List.length_range]
  have l9 : (prod gA gB).length = 9 := by decide +kernel
  refine ⟨⟨fun e => (by rw [e] at l12; cases l12), by omega⟩, fun r hr => ?_, by decide, by decide +kernel⟩
  unfold gR at hr
  obtain ⟨q, _, rfl⟩ := List.mem_map.mp hr
  rw [l12]
  refine ⟨⟨gA_ok.l, gA_ok.s, gA_lt⟩, ⟨gB_ok.l, gB_ok.s, gB_lt⟩, ⟨by rw [List.length_map, l9]; decide, fun m hm => ?_⟩, fun x hx y hy => ⟨(x, y, gV q (x, y)), List.mem_map.mpr ⟨(x, y), prod_mem.mpr ⟨hx, hy⟩, rfl⟩, rfl, rfl⟩, fun m hm m' hm' e1 e2 => ?_⟩
  · obtain ⟨p, hp, rfl⟩ := List.mem_map.mp hm
    have := prod_mem.mp hp
    exact ⟨gA_ok.s _ this.1, gB_ok.s _ this.2, Nat.mod_lt _ (by decide)⟩
  · obtain ⟨p, hp, rfl⟩ := List.mem_map.mp hm
    obtain ⟨p', hp', rfl⟩ := List.mem_map.mp hm'
    have e1 : p.1 = p'.1 := e1
    have e2 : p.2 = p'.2 := e2
    have : p = p' := Prod.ext e1 e2
    rw [this]
theorem silent_ok (g : G) : den_silent_rule [] g = .ok (rulD [(["none"], ["none"], [("none", "none", 0)])] ["none"]) g := by kernel_rfl
theorem silent_wf : WfRul [(["none"], ["none"], [("none", "none", 0)])] ["none"] := by
  refine ⟨⟨by simp, by simp⟩, fun r hr => ?_, by simp, by simp [none_sgn]⟩
  rw [List.mem_singleton.mp hr]
  exact ⟨⟨by simp, by simp [none_sgn], by simp⟩, ⟨by simp, by simp [none_sgn], by simp⟩, ⟨by simp, fun m hm => by rw [List.mem_singleton.mp hm]; exact ⟨none_sgn, none_sgn, by simp⟩⟩, fun a ha b hb => ⟨_, List.mem_singleton.mpr rfl, (List.mem_singleton.mp ha).symm, (List.mem_singleton.mp hb).symm⟩, fun m hm m' hm' _ _ => by rw [List.mem_singleton.mp hm, List.mem_singleton.mp hm']⟩
theorem by_hand (g : G) : den__law_by_hand [] g = .ok (.bl true) g := by kernel_rfl
/-! ### the law -/
theorem plain : Law den_law 63 := by
  intro ns _
  obtain ⟨g1, F1, e1⟩ := feed_ok ns
  suffices h : (den_law [.scr ns] []).Ok fun d _ => d = .bl true by
    obtain ⟨d, g, e, rfl⟩ := h.ex
    exact ⟨g, e⟩
  unfold den_law m_law m_law_1 m_law_2
  simp only [den_ok, srt_ok, seq_ok, nx_ok, set_ok, drop_ok, sif_ok, ow_ok, fz_ok, fzz_ok, app_ok, ext_ok, par_ok, asg_ok, for_ok, fcons_ok, fnil_ok, op_ok, un_ok, c_ok, nil_ok, cons_ok, tup_ok, lst_ok, if_ok, andV_ok, orV_ok, notV_ok, ch_ok, tr_ok, b_ok, and_ok, or_ok, not_ok, yes_ok, no_ok, is_ok, sl_ok, call_ok, mt_ok, opF_ok, iv_ok, ir_ok, lc_ok, el1_ok, ok_ok, mV, mVs, gP, pkV, entE, setFs, frz, ownL, gN, gTp, gCn, gNl, wipeE, isB_bl, tr_bl, isStr, isLst, addO_ll, addO_tt, addO_ss, fits, decide_eq_true_eq, Nat.reduceLeDiff, List.map_cons, List.map_nil, List.length_cons, List.length_nil, List.replicate, List.cons_append, List.nil_append, List.append_nil, List.getElem?_cons_zero, List.getElem?_cons_succ, List.set, List.getD_cons_zero, List.getD_cons_succ, Nat.reduceAdd, Nat.reduceSub, Nat.reduceLT, and_self, true_and, and_true, if_true, ↓reduceIte, Option.some.injEq, exists_eq_left', exists_eq_left, exists_eq', exists_eq, D.int.injEq, D.bl.injEq, D.lst.injEq, D.tup.injEq, Nat.reduceEqDiff, forall_const, reduceCtorEq, false_implies, Bool.true_eq_false, Bool.false_eq_true, implies_true, ok_of e1]
  refine ⟨_, rfl, by decide, ?_⟩
  refine for_inv _ (fun _ ρ g => ∃ (s2 : Sl), ρ = [.val (.scr ns), .val (.ref 0), s2] ∧ FG g) _ _ ⟨_, rfl, F1⟩ (fun i d ρ g hd hI => ?_) (fun ρ g hI => ?_)
  · obtain ⟨s2, rfl, F⟩ := hI
    refine ⟨_, rfl, ?_⟩
    simp only [den_ok, srt_ok, seq_ok, nx_ok, set_ok, drop_ok, sif_ok, ow_ok, fz_ok, fzz_ok, app_ok, ext_ok, par_ok, asg_ok, for_ok, fcons_ok, fnil_ok, op_ok, un_ok, c_ok, nil_ok, cons_ok, tup_ok, lst_ok, if_ok, andV_ok, orV_ok, notV_ok, ch_ok, tr_ok, b_ok, and_ok, or_ok, not_ok, yes_ok, no_ok, is_ok, sl_ok, call_ok, mt_ok, opF_ok, iv_ok, ir_ok, lc_ok, el1_ok, ok_ok, mV, mVs, gP, pkV, entE, setFs, frz, ownL, gN, gTp, gCn, gNl, wipeE, isB_bl, tr_bl, isStr, isLst, addO_ll, addO_tt, addO_ss, fits, decide_eq_true_eq, Nat.reduceLeDiff, List.map_cons, List.map_nil, List.length_cons, List.length_nil, List.replicate, List.cons_append, List.nil_append, List.append_nil, List.getElem?_cons_zero, List.getElem?_cons_succ, List.set, List.getD_cons_zero, List.getD_cons_succ, Nat.reduceAdd, Nat.reduceSub, Nat.reduceLT, and_self, true_and, and_true, if_true, ↓reduceIte, Option.some.injEq, exists_eq_left', exists_eq_left, exists_eq', exists_eq, D.int.injEq, D.bl.injEq, D.lst.injEq, D.tup.injEq, Nat.reduceEqDiff, forall_const, reduceCtorEq, false_implies, Bool.true_eq_false, Bool.false_eq_true, implies_true]
    refine signs F fun xs g2 h F2 => ?_
    refine rule F2 h fun d g3 hR F3 => ?_
    obtain ⟨rows, rd, rfl, W⟩ := hR
    simp only [den_ok, srt_ok, seq_ok, nx_ok, set_ok, drop_ok, sif_ok, ow_ok, fz_ok, fzz_ok, app_ok, ext_ok, par_ok, asg_ok, for_ok, fcons_ok, fnil_ok, op_ok, un_ok, c_ok, nil_ok, cons_ok, tup_ok, lst_ok, if_ok, andV_ok, orV_ok, notV_ok, ch_ok, tr_ok, b_ok, and_ok, or_ok, not_ok, yes_ok, no_ok, is_ok, sl_ok, call_ok, mt_ok, opF_ok, iv_ok, ir_ok, lc_ok, el1_ok, ok_ok, mV, mVs, gP, pkV, entE, setFs, frz, ownL, gN, gTp, gCn, gNl, wipeE, isB_bl, tr_bl, isStr, isLst, addO_ll, addO_tt, addO_ss, fits, decide_eq_true_eq, Nat.reduceLeDiff, List.map_cons, List.map_nil, List.length_cons, List.length_nil, List.replicate, List.cons_append, List.nil_append, List.append_nil, List.getElem?_cons_zero, List.getElem?_cons_succ, List.set, List.getD_cons_zero, List.getD_cons_succ, Nat.reduceAdd, Nat.reduceSub, Nat.reduceLT, and_self, true_and, and_true, if_true, ↓reduceIte, Option.some.injEq, exists_eq_left', exists_eq_left, exists_eq', exists_eq, D.int.injEq, D.bl.injEq, D.lst.injEq, D.tup.injEq, Nat.reduceEqDiff, forall_const, reduceCtorEq, false_implies, Bool.true_eq_false, Bool.false_eq_true, implies_true, ok_of (right_ok (g := g3) W), Bool.not_true]
    exact ⟨_, rfl, F3⟩
  · obtain ⟨s2, rfl, F⟩ := hI
    simp only [den_ok, srt_ok, seq_ok, nx_ok, set_ok, drop_ok, sif_ok, ow_ok, fz_ok, fzz_ok, app_ok, ext_ok, par_ok, asg_ok, for_ok, fcons_ok, fnil_ok, op_ok, un_ok, c_ok, nil_ok, cons_ok, tup_ok, lst_ok, if_ok, andV_ok, orV_ok, notV_ok, ch_ok, tr_ok, b_ok, and_ok, or_ok, not_ok, yes_ok, no_ok, is_ok, sl_ok, call_ok, mt_ok, opF_ok, iv_ok, ir_ok, lc_ok, el1_ok, ok_ok, mV, mVs, gP, pkV, entE, setFs, frz, ownL, gN, gTp, gCn, gNl, wipeE, isB_bl, tr_bl, isStr, isLst, addO_ll, addO_tt, addO_ss, fits, decide_eq_true_eq, Nat.reduceLeDiff, List.map_cons, List.map_nil, List.length_cons, List.length_nil, List.replicate, List.cons_append, List.nil_append, List.append_nil, List.getElem?_cons_zero, List.getElem?_cons_succ, List.set, List.getD_cons_zero, List.getD_cons_succ, Nat.reduceAdd, Nat.reduceSub, Nat.reduceLT, and_self, true_and, and_true, if_true, ↓reduceIte, Option.some.injEq, exists_eq_left', exists_eq_left, exists_eq', exists_eq, D.int.injEq, D.bl.injEq, D.lst.injEq, D.tup.injEq, Nat.reduceEqDiff, forall_const, reduceCtorEq, false_implies, Bool.true_eq_false, Bool.false_eq_true, implies_true, ok_of (by_hand _), ok_of (grand_eq _), ok_of (right_ok (g := g) gR_wf), ok_of (silent_ok _), ok_of (right_ok (g := g) silent_wf)]
end Z

namespace Z
open PySem PySem.Spec PyProof.Rows L2
/-! ### the head -/
abbrev R : PySem.W.OpenRow := PySem.W.OpenLaw.row PySem.Challenge.rw_zonebetween_k32_strangers_told
abbrev hk : PySem.W.Hook := He.hookD 4 fa fn
def ob (s : PySem.W.SharedT) : He.AlD := He.obsDG 4 fa fn (HandSHeadRun.getT s)
theorem ob_eq (s : PySem.W.SharedT) : ob s = hk.obs s.abs := He.obsDG_eq (HandSHeadRun.getT_eq s)
abbrev nmz : List Str := ["next_by", "silent_rule", "numbered", "freest_giver", "freest_taker", "_law_cross", "_law_feed", "_law_draw", "_law_pick", "_law_signs", "_law_made", "_law_hand", "_law_fence", "_law_hand_rules", "_law_rule", "_law_state", "_law_same", "_law_stranger", "_law_grand", "_law_is_right", "_law_by_hand"]
theorem runz (w : World) : HandSHeadRun.RunEq R (PySem.W.view R.prog [24]) hk ob 20000 nmz w := by
  intro os
  kernel_rfl
theorem fd_uniq {K : PySem.W.Frag} {x y q r : Str} {pa pb : Arguments} {ba bb : List Stmt} {sa sb : Scope} {da db : List V} {ka kb : List (Str × V)} {f : Addr} {g1 g2 : FuncData} (F : FunD K x q pa ba sa da ka f g1) (F2 : FunD K y r pb bb sb db kb f g2) : g1 = g2 := by
  obtain ⟨_, _, _, _, _, _, _, _, _, _, _, l1, _⟩ := F.ex
  obtain ⟨_, _, _, _, _, _, _, _, _, _, _, l2, _⟩ := F2.ex
  have := l1.symm.trans l2
  injection this with this
  injection this with _ _ q _
  injection q
theorem factsz {T : Wd} {h : Heap} {mg : Str → Option Value} {f : Addr} (X : T.K.In h) (G : h.Ns mainGlobals mg) (hfa : mg ("law" : Str) = some (.ref f)) (c : He.SaysD fa fn T.K) :
    ∃ fd : FuncData, (∀ (s : Shared) (v : Value), BindsTo s fd ⟨[v], []⟩ [("_law_script", v)]) ∧ ∀ base : Heap, T.K.In base → base.Ns mainGlobals mg → FnG T mg base 5 f fd ["_law_script"] den_law := by
  have kn : Kn T h mg := ⟨X, G, c⟩
  obtain ⟨fA, fd, F, N⟩ := ok_law kn h
  cases hfa.symm.trans N.gl
  have b := FunD.bindsA (ps := ["_law_script"]) F fun _ _ _ _ _ _ us hl => match us, hl with | [_], _ => rfl
  refine ⟨fd, fun s v => b s [v] rfl, fun base _ _ => ?_⟩
  obtain ⟨fA2, fd2, F2, N2⟩ := ok_law kn base
  cases N.gl.symm.trans N2.gl
  rw [fd_uniq F F2]
  exact N2.fn
end Z
open PySem PySem.W PySem.Calls PyProof.Rows
theorem PySem.Challenge.cw_zonebetween_k32_strangers_told_holds : PySem.Challenge.rw_zonebetween_k32_strangers_told.Holds := by
  w_on; o_law
  refine HandSHeadRun.head_any (r := OpenLaw.row PySem.Challenge.rw_zonebetween_k32_strangers_told) (q := view (OpenLaw.row PySem.Challenge.rw_zonebetween_k32_strangers_told).prog [24]) (H := Z.hk) (ob := Z.ob) (M := 20000) (loose := Z.nmz) (d := HandSHeadRun.topDef (OpenLaw.row PySem.Challenge.rw_zonebetween_k32_strangers_told).prog 24) (kwd := []) Z.ob_eq
    (by kernel_rfl) (fun s => by kernel_rfl) Z.runz (by kernel_rfl) (by kernel_rfl) (by kernel_rfl) (by rfl) (by first | assumption | decide +kernel) (by decide +kernel) ⟨rfl, rfl, rfl, rfl, rfl, by decide +kernel⟩ ?hw ?hc
  case hw => w_witness2
  case hc =>
    refine Z.walk_end (l := PySem.Challenge.rw_zonebetween_k32_strangers_told) (n := 63) (k := 5) (x := "_law_script") rfl (by decide) (by kernel_rfl) ⟨rfl, by decide, by decide⟩ ?F
    intro w mg fa h Y G hmg0
    obtain ⟨K, KX, c⟩ := Y
    have hmg : mg ("law" : PySem.Str) = some (.ref fa) := by
      have e : (HandSHeadRun.topDef (OpenLaw.row PySem.Challenge.rw_zonebetween_k32_strangers_told).prog 24).name = ("law" : PySem.Str) := by kernel_rfl
      rw [← e]
      exact hmg0
    obtain ⟨fd, hb, hF⟩ := Z.factsz (T := { P := (PySem.Challenge.rw_zonebetween_k32_strangers_told).prog, w := w, K := K, ct := fun _ => .none, cf := fun _ => [] }) KX G hmg c
    exact ⟨_, fd, Z.den_law, rfl, rfl, KX, hb, Z.plain, hF⟩
