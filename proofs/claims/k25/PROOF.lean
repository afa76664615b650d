import PyProof.Rows.All
import Wide.All
import OpenK.AllK
import Wide.FinOn
import HandS.ForExc
import HandS.Flow
import HandS.TupAny
import HandS.IsInst
import HandS.TryOnly
import HandS.ExcOwn
import HandS.Lambda
import HandS.Wide
import HandS.Style
import HandS.TupMul
import HandS.Deep
import PyProof.NeKinds
import PyProof.EqKinds
import KE.KEqDict
import HandS.Walk
import HandS.Iter
import HandS.Zip
import KE.GoesEnum
import KE.KExcSuper
import KE.KSuper
import HandS.ExcInit
import HandS.ExcSuper
import HandS.CallSlots
import HandS.ExcIs
import HandS.Dict
import HandS.WordsDict
import HandS.Text
import HandS.ExcValue
import HandS.Conv
import PyProof.TupleOfSeq
import PyProof.Rows.SortKeyStr
import HandS.TupSets
import HandS.SortRule
import HandS.SortInts
import HandS.Strs
import HandS.SetFor
import HandS.RaiseMore
import HandS.Defaults
import HandS.HeadHook4
import HandS.HeadWalk
import HandS.Head0
import HandS.Head1
import HandS.Head2
import HandS.HeadEnd
import PySem.Challenge.RW_seenatonce_k25_letters_judged
set_option Elab.async false
set_option linter.all false
set_option maxRecDepth 100000
set_option maxHeartbeats 4000000
/-! The data layer: values with their tuples inside, a store of mutable objects, over HandS. -/
namespace Dl
open PySem PySem.Spec PyProof.Rows L2

/-- a value with its tuples told whole; ref: a mutable object, a def, a class -/
inductive D where
  | non | bl (b : Bool) | int (i : Int) | str (x : Str) | ty (n : String) | ref (a : Addr) | tup (ds : List D)

mutual
def Is (K : PySem.W.Frag) (H : Hp) : D → V → Prop
  | .non, v => v = .non
  | .bl b, v => v = .bl b
  | .int i, v => v = .int i
  | .str x, v => v = .str x
  | .ty n, v => v = .ty n
  | .ref a, v => v = .ref a
  | .tup ds, v => ∃ a xs, v = .ref a ∧ SqT K H a xs ∧ IsL K H ds xs
def IsL (K : PySem.W.Frag) (H : Hp) : List D → List V → Prop
  | [], xs => xs = []
  | d :: ds, xs => ∃ x r, xs = x :: r ∧ Is K H d x ∧ IsL K H ds r
end

/-- what tuples tell stays -/
def Ext (K : PySem.W.Frag) (H H' : Hp) : Prop := ∀ a xs, SqT K H a xs → SqT K H' a xs
theorem Ext.refl {K : PySem.W.Frag} {H : Hp} : Ext K H H := fun _ _ h => h
theorem Ext.trans {K : PySem.W.Frag} {H H1 H2 : Hp} (a : Ext K H H1) (b : Ext K H1 H2) : Ext K H H2 := fun p xs h => b p xs (a p xs h)

mutual
theorem Is.ext {K : PySem.W.Frag} {H H' : Hp} (e : Ext K H H') : ∀ (d : D) {v : V}, Is K H d v → Is K H' d v
  | .non, _, h => h
  | .bl _, _, h => h
  | .int _, _, h => h
  | .str _, _, h => h
  | .ty _, _, h => h
  | .ref _, _, h => h
  | .tup ds, _, h => by
    obtain ⟨a, xs, h1, h2, h3⟩ := h
    exact ⟨a, xs, h1, e _ _ h2, IsL.ext e ds h3⟩
theorem IsL.ext {K : PySem.W.Frag} {H H' : Hp} (e : Ext K H H') : ∀ (ds : List D) {xs : List V}, IsL K H ds xs → IsL K H' ds xs
  | [], _, h => h
  | d :: ds, _, h => by
    obtain ⟨x, r, h1, h2, h3⟩ := h
    exact ⟨x, r, h1, Is.ext e d h2, IsL.ext e ds h3⟩
end
section
variable {K : PySem.W.Frag} {H H' : Hp}
theorem IsL.len : ∀ {ds : List D} {xs : List V}, IsL K H ds xs → xs.length = ds.length
  | [], _, h => by rw [show _ = [] from h]; rfl
  | d :: ds, _, h => by
    obtain ⟨x, r, h1, h2, h3⟩ := h
    subst h1
    simp [IsL.len h3]
theorem IsL.nil : IsL K H [] [] := rfl
theorem IsL.cons {d : D} {ds : List D} {x : V} {r : List V} (h : Is K H d x) (hs : IsL K H ds r) : IsL K H (d :: ds) (x :: r) := ⟨x, r, rfl, h, hs⟩
theorem IsL.uncons {d : D} {ds : List D} {x : V} {r : List V} (h : IsL K H (d :: ds) (x :: r)) : Is K H d x ∧ IsL K H ds r := by
  obtain ⟨_, _, e, h2, h3⟩ := h
  cases e
  exact ⟨h2, h3⟩
theorem IsL.app : ∀ {ds es : List D} {xs ys : List V}, IsL K H ds xs → IsL K H es ys → IsL K H (ds ++ es) (xs ++ ys)
  | [], _, _, _, h, h' => by rw [show _ = [] from h]; exact h'
  | d :: ds, _, _, _, h, h' => by
    obtain ⟨x, r, h1, h2, h3⟩ := h
    subst h1
    exact ⟨x, _, rfl, h2, IsL.app h3 h'⟩
theorem IsL.snoc {ds : List D} {xs : List V} {d : D} {x : V} (h : IsL K H ds xs) (h' : Is K H d x) : IsL K H (ds ++ [d]) (xs ++ [x]) := h.app (.cons h' .nil)
theorem IsL.get : ∀ {ds : List D} {xs : List V} {i : Nat} {d : D}, IsL K H ds xs → ds[i]? = some d → ∃ x, xs[i]? = some x ∧ Is K H d x
  | [], _, _, _, _, e => by simp at e
  | d :: ds, _, 0, _, h, e => by
    obtain ⟨x, r, h1, h2, h3⟩ := h
    subst h1
    simp at e; subst e
    exact ⟨x, rfl, h2⟩
  | d :: ds, _, i + 1, _, h, e => by
    obtain ⟨x, r, h1, h2, h3⟩ := h
    subst h1
    obtain ⟨y, e1, e2⟩ := IsL.get (i := i) h3 (by simpa using e)
    exact ⟨y, by simpa using e1, e2⟩
theorem IsL.of_get : ∀ {ds : List D} {xs : List V} {i : Nat} {x : V}, IsL K H ds xs → xs[i]? = some x → ∃ d, ds[i]? = some d ∧ Is K H d x
  | [], _, _, _, h, e => by rw [show _ = [] from h] at e; simp at e
  | d :: ds, _, 0, _, h, e => by
    obtain ⟨x, r, h1, h2, h3⟩ := h
    subst h1
    simp at e; subst e
    exact ⟨d, rfl, h2⟩
  | d :: ds, _, i + 1, _, h, e => by
    obtain ⟨x, r, h1, h2, h3⟩ := h
    subst h1
    obtain ⟨y, e1, e2⟩ := IsL.of_get (i := i) h3 (by simpa using e)
    exact ⟨y, by simpa using e1, e2⟩
theorem IsL.set : ∀ {ds : List D} {xs : List V} {d : D} {x : V} (i : Nat), IsL K H ds xs → Is K H d x → IsL K H (ds.set i d) (xs.set i x)
  | [], _, _, _, _, h, _ => by rw [show _ = [] from h]; rfl
  | d :: ds, _, _, _, 0, h, h' => by
    obtain ⟨x, r, h1, h2, h3⟩ := h
    subst h1
    exact ⟨_, r, rfl, h', h3⟩
  | d :: ds, _, _, _, i + 1, h, h' => by
    obtain ⟨x, r, h1, h2, h3⟩ := h
    subst h1
    exact ⟨x, _, rfl, h2, IsL.set i h3 h'⟩
theorem IsL.drop : ∀ {ds : List D} {xs : List V} (n : Nat), IsL K H ds xs → IsL K H (ds.drop n) (xs.drop n)
  | ds, xs, 0, h => by simpa using h
  | [], xs, n + 1, h => by rw [show _ = [] from h]; rfl
  | d :: ds, xs, n + 1, h => by
    obtain ⟨x, r, h1, h2, h3⟩ := h
    subst h1
    simpa using IsL.drop n h3
theorem IsL.take : ∀ {ds : List D} {xs : List V} (n : Nat), IsL K H ds xs → IsL K H (ds.take n) (xs.take n)
  | ds, xs, 0, h => by simp; rfl
  | [], xs, n + 1, h => by rw [show _ = [] from h]; rfl
  | d :: ds, xs, n + 1, h => by
    obtain ⟨x, r, h1, h2, h3⟩ := h
    subst h1
    exact ⟨x, _, rfl, h2, IsL.take n h3⟩
theorem IsL.eraseIdx : ∀ {ds : List D} {xs : List V} (n : Nat), IsL K H ds xs → IsL K H (ds.eraseIdx n) (xs.eraseIdx n)
  | [], xs, n, h => by rw [show _ = [] from h]; rfl
  | d :: ds, xs, 0, h => by
    obtain ⟨x, r, h1, h2, h3⟩ := h
    subst h1
    exact h3
  | d :: ds, xs, n + 1, h => by
    obtain ⟨x, r, h1, h2, h3⟩ := h
    subst h1
    exact ⟨x, _, rfl, h2, IsL.eraseIdx n h3⟩
theorem IsL.rep {ds : List D} {xs : List V} (h : IsL K H ds xs) : ∀ k : Nat, IsL K H (List.replicate k ds).flatten (List.replicate k xs).flatten
  | 0 => rfl
  | k + 1 => by
    simp only [List.replicate_succ, List.flatten_cons]
    exact h.app (IsL.rep h k)
theorem IsL.ints : ∀ {ns : List Int} {xs : List V}, IsL K H (ns.map D.int) xs → xs = ns.map V.int
  | [], _, h => h
  | n :: ns, _, h => by
    obtain ⟨x, r, h1, h2, h3⟩ := h
    subst h1
    rw [IsL.ints h3, show x = .int n from h2]
    rfl
theorem IsL.bools : ∀ {ns : List Bool} {xs : List V}, IsL K H (ns.map D.bl) xs → xs = ns.map V.bl
  | [], _, h => h
  | n :: ns, _, h => by
    obtain ⟨x, r, h1, h2, h3⟩ := h
    subst h1
    rw [IsL.bools h3, show x = .bl n from h2]
    rfl
end

section
variable {K : PySem.W.Frag} {H : Hp}
theorem Is.non : Is K H .non .non := rfl
theorem Is.bl {b : Bool} : Is K H (.bl b) (.bl b) := rfl
theorem Is.int {i : Int} : Is K H (.int i) (.int i) := rfl
theorem Is.str {x : Str} : Is K H (.str x) (.str x) := rfl
theorem Is.ty {x : String} : Is K H (.ty x) (.ty x) := rfl
theorem Is.ref {a : Addr} : Is K H (.ref a) (.ref a) := rfl
theorem Is.tup {a : Addr} {xs : List V} {ds : List D} (h : SqT K H a xs) (h' : IsL K H ds xs) : Is K H (.tup ds) (.ref a) := ⟨a, xs, rfl, h, h'⟩
end
/-! ### the store -/
/-- a mutable object -/
inductive MO where
  | lst (ds : List D)
  /-- a list that is only read (the script) -/
  | fro (ds : List D)
  | dct (kvs : List (Key × D))
  | ins (C : Addr) (fs : List (Str × D))
  /-- an exception of one's own that was caught -/
  | exc (C : Addr) (fs : List (Str × D))
  /-- an object of another kind: by AbsI -/
  | abs (k : Nat) (ds : List D)

abbrev GH := Addr → Option MO
def gup (G : GH) (a : Addr) (o : MO) : GH := fun b => if b = a then some o else G b
theorem gup_same {G : GH} {a : Addr} {o : MO} : gup G a o a = some o := by unfold gup; rw [if_pos rfl]
theorem gup_ne {G : GH} {a b : Addr} {o : MO} (h : b ≠ a) : gup G a o b = G b := by unfold gup; rw [if_neg h]
theorem gup_gup {G : GH} {a : Addr} {o u : MO} : gup (gup G a o) a u = gup G a u := by
  funext b; unfold gup; split <;> rfl
theorem gup_comm {G : GH} {a b : Addr} {o u : MO} (h : a ≠ b) : gup (gup G a o) b u = gup (gup G b u) a o := by
  funext c; unfold gup
  by_cases e1 : c = b
  · subst e1
    rw [if_pos rfl, if_neg h.symm, if_pos rfl]
  · rw [if_neg e1, if_neg e1]
theorem gup_id {G : GH} {a : Addr} {o : MO} (h : G a = some o) : gup G a o = G := by
  funext b; unfold gup
  split
  · rename_i e; subst e; exact h.symm
  · rfl
theorem gne {G : GH} {a b : Addr} {o : MO} (h : G a = some o) (h' : G b = none) : a ≠ b := by
  intro e; subst e; rw [h] at h'; cases h'

/-- what a further kind of object is: by the abstract heap and the addresses that it owns -/
structure AbsI where
  /-- the tables of code objects -/
  T : List (Addr × Str)
  rep : PySem.W.Frag → Hp → (Addr → Option Addr) → Addr → Nat → List D → Prop
  there : ∀ {K : PySem.W.Frag} {H : Hp} {own : Addr → Option Addr} {a : Addr} {k : Nat} {ds : List D}, rep K H own a k ds → ∃ o, H a = some o ∧ ∀ ps, o ≠ .tbl ps
  stay : ∀ {K : PySem.W.Frag} {H H' : Hp} {own own' : Addr → Option Addr} {a : Addr} {k : Nat} {ds : List D}, rep K H own a k ds → Ext K H H' → H' a = H a →
    (∀ h, own h = some a → H' h = H h ∧ own' h = some a) → rep K H' own' a k ds

def IsK (K : PySem.W.Frag) (H : Hp) {κ : Type} : List (κ × D) → List (κ × V) → Prop
  | [], ws => ws = []
  | (k, d) :: r, ws => ∃ x q, ws = (k, x) :: q ∧ Is K H d x ∧ IsK K H r q
theorem IsK.ext {K : PySem.W.Frag} {H H' : Hp} {κ : Type} (e : Ext K H H') : ∀ {kvs : List (κ × D)} {ws : List (κ × V)}, IsK K H kvs ws → IsK K H' kvs ws
  | [], _, h => h
  | (k, d) :: r, _, h => by
    obtain ⟨x, q, h1, h2, h3⟩ := h
    exact ⟨x, q, h1, Is.ext e d h2, IsK.ext e h3⟩
theorem IsK.len {K : PySem.W.Frag} {H : Hp} {κ : Type} : ∀ {kvs : List (κ × D)} {ws : List (κ × V)}, IsK K H kvs ws → ws.length = kvs.length
  | [], _, h => by rw [show _ = [] from h]; rfl
  | (k, d) :: r, _, h => by
    obtain ⟨x, q, h1, h2, h3⟩ := h
    subst h1
    simp [IsK.len h3]
theorem IsK.keys {K : PySem.W.Frag} {H : Hp} {κ : Type} : ∀ {kvs : List (κ × D)} {ws : List (κ × V)}, IsK K H kvs ws → ws.map (·.1) = kvs.map (·.1)
  | [], _, h => by rw [show _ = [] from h]; rfl
  | (k, d) :: r, _, h => by
    obtain ⟨x, q, h1, h2, h3⟩ := h
    subst h1
    simp [IsK.keys h3]

def ObjIs (Θ : AbsI) (K : PySem.W.Frag) (H : Hp) (own : Addr → Option Addr) (a : Addr) : MO → Prop
  | .lst ds => ∃ xs, H a = some (.lst xs) ∧ IsL K H ds xs
  | .fro ds => ∃ o xs, H a = some (.frz o (.lst xs)) ∧ IsL K H ds xs
  | .dct kvs => ∃ ws, H a = some (.dK ws) ∧ IsK K H kvs ws
  | .ins C fs => ∃ dx ws, H a = some (.ins C dx ws) ∧ IsK K H fs ws
  | .exc C fs => fs = [] ∧ ∃ φ, H a = some (.ext φ) ∧ ∀ h, φ h → ∃ (oe : Obj) (vs : Array Value), h.get? a = some oe ∧ Zc (.ref C) none oe ∧ oe.data = .fields vs
  | .abs k ds => Θ.rep K H own a k ds

section
variable {Θ : AbsI} {K : PySem.W.Frag} {H H' : Hp} {own own' : Addr → Option Addr} {a : Addr} {mo : MO}
theorem ObjIs.lst {ds : List D} {xs : List V} (h : H a = some (.lst xs)) (h' : IsL K H ds xs) : ObjIs Θ K H own a (.lst ds) := ⟨xs, h, h'⟩
theorem ObjIs.dct {kvs : List (Key × D)} {ws : List (Key × V)} (h : H a = some (.dK ws)) (h' : IsK K H kvs ws) : ObjIs Θ K H own a (.dct kvs) := ⟨ws, h, h'⟩
theorem ObjIs.ins {C dx : Addr} {fs : List (Str × D)} {ws : List (Str × V)} (h : H a = some (.ins C dx ws)) (h' : IsK K H fs ws) : ObjIs Θ K H own a (.ins C fs) := ⟨dx, ws, h, h'⟩
theorem ObjIs.there (h : ObjIs Θ K H own a mo) : ∃ o, H a = some o ∧ ∀ ps, o ≠ .tbl ps := by
  cases mo with
  | lst ds => obtain ⟨xs, e, _⟩ := h; exact ⟨_, e, fun _ z => nomatch z⟩
  | fro ds => obtain ⟨o, xs, e, _⟩ := h; exact ⟨_, e, fun _ z => nomatch z⟩
  | dct kvs => obtain ⟨ws, e, _⟩ := h; exact ⟨_, e, fun _ z => nomatch z⟩
  | ins C fs => obtain ⟨dx, ws, e, _⟩ := h; exact ⟨_, e, fun _ z => nomatch z⟩
  | exc C fs => obtain ⟨_, φ, e, _⟩ := h; exact ⟨_, e, fun _ z => nomatch z⟩
  | abs k ds => exact Θ.there h
theorem ObjIs.stay (h : ObjIs Θ K H own a mo) (e : Ext K H H') (ea : H' a = H a) (eo : ∀ p, own p = some a → H' p = H p ∧ own' p = some a) : ObjIs Θ K H' own' a mo := by
  cases mo with
  | lst ds => obtain ⟨xs, h1, h2⟩ := h; exact ⟨xs, ea.trans h1, IsL.ext e _ h2⟩
  | fro ds => obtain ⟨o, xs, h1, h2⟩ := h; exact ⟨o, xs, ea.trans h1, IsL.ext e _ h2⟩
  | dct kvs => obtain ⟨ws, h1, h2⟩ := h; exact ⟨ws, ea.trans h1, IsK.ext e h2⟩
  | ins C fs => obtain ⟨dx, ws, h1, h2⟩ := h; exact ⟨dx, ws, ea.trans h1, IsK.ext e h2⟩
  | exc C fs => obtain ⟨h0, φ, h1, h2⟩ := h; exact ⟨h0, φ, ea.trans h1, h2⟩
  | abs k ds => exact Θ.stay h e ea eo
end

structure RepO (Θ : AbsI) (K : PySem.W.Frag) (H : Hp) (G : GH) (F : Hp) (own : Addr → Option Addr) : Prop where
  obj : ∀ a o, G a = some o → ObjIs Θ K H own a o
  hid : ∀ p a, own p = some a → G p = none ∧ F p = none ∧ ∃ o, H p = some o ∧ ∀ ps, o ≠ .tbl ps
  frm : ∀ a o, F a = some o → H a = some o ∧ G a = none ∧ ∀ ps, o ≠ .tbl ps
  tab : LamX.Tabs Θ.T H
/-- the store G is told by the heap; F: what must stay and is not in G -/
def Rep (Θ : AbsI) (K : PySem.W.Frag) (H : Hp) (G : GH) (F : Hp) : Prop := ∃ own, RepO Θ K H G F own

section
variable {Θ : AbsI} {K : PySem.W.Frag} {H H' : Hp} {G : GH} {F : Hp} {a p : Addr} {mo : MO} {o : HO}
theorem Rep.free (r : Rep Θ K H G F) (h : H p = none) : G p = none ∧ F p = none := by
  obtain ⟨own, r⟩ := r
  constructor
  · cases e : G p with
    | none => rfl
    | some u =>
      obtain ⟨q, e1, _⟩ := (r.obj p u e).there
      rw [h] at e1; cases e1
  · cases e : F p with
    | none => rfl
    | some u =>
      have e1 := (r.frm p u e).1
      rw [h] at e1; cases e1
theorem ext_upd_new (h : H p = none) : Ext K H (upd H p o) := fun a xs q => by
  rcases q with q | q
  · left
    rcases q with q | ⟨u, q⟩
    · exact .inl (by rw [upd_ne (ne_of_none q h)]; exact q)
    · exact .inr ⟨u, by rw [upd_ne (ne_of_none q h)]; exact q⟩
  · exact .inr q
/-- what may be written over -/
def NoTup : HO → Prop
  | .lst _ => True
  | .dK _ => True
  | .dT _ => True
  | .set _ _ => True
  | .ins _ _ _ => True
  | _ => False
theorem ext_upd_mut {o' : HO} (h : H p = some o') (n : NoTup o') : Ext K H (upd H p o) := fun a xs q => by
  rcases q with q | q
  · left
    rcases q with q | ⟨u, q⟩
    · refine .inl ?_
      rw [upd_ne]
      · exact q
      · rintro rfl
        rw [h] at q; cases q; exact n
    · refine .inr ⟨u, ?_⟩
      rw [upd_ne]
      · exact q
      · rintro rfl
        rw [h] at q; cases q; exact n
  · exact .inr q
theorem tabs_new {T : List (Addr × Str)} (t : LamX.Tabs T H) (h : H p = none) : LamX.Tabs T (upd H p o) := t.ext fun b u e => by rw [upd_ne (ne_of_none e h)]; exact e
theorem tabs_mut {T : List (Addr × Str)} {o' : HO} (t : LamX.Tabs T H) (h : H p = some o') (n : NoTup o') : LamX.Tabs T (upd H p o) := fun q hq => by
  obtain ⟨ps, h1, h2, h3⟩ := t q hq
  refine ⟨ps, ?_, h2, fun pos cv hc => ?_⟩
  · rw [upd_ne (ne_of h1 h fun z => by subst z; exact n)]
    exact h1
  · obtain ⟨c, e1, e2⟩ := h3 pos cv hc
    refine ⟨c, e1, ?_⟩
    rw [upd_ne (ne_of e2 h fun z => by rw [← z] at n; exact n)]
    exact e2
/-- a new thing that the store doesn't tell (a tuple) -/
theorem Rep.newH (r : Rep Θ K H G F) (h : H p = none) : Rep Θ K (upd H p o) G F := by
  have hn := r.free h
  obtain ⟨own, r⟩ := r
  refine ⟨own, fun b u e => ?_, fun q b e => ?_, fun b u e => ?_, tabs_new r.tab h⟩
  · obtain ⟨z, ez, _⟩ := (r.obj b u e).there
    refine (r.obj b u e).stay (ext_upd_new h) (by rw [upd_ne (ne_of_none ez h)]) fun q eq => ⟨?_, eq⟩
    obtain ⟨_, _, z2, e2, _⟩ := r.hid q b eq
    rw [upd_ne (ne_of_none e2 h)]
  · obtain ⟨h1, h2, z, h3, h4⟩ := r.hid q b e
    exact ⟨h1, h2, z, by rw [upd_ne (ne_of_none h3 h)]; exact h3, h4⟩
  · obtain ⟨h1, h2⟩ := r.frm b u e
    exact ⟨by rw [upd_ne (ne_of_none h1 h)]; exact h1, h2⟩
/-- a new object of the store -/
theorem Rep.new (r : Rep Θ K H G F) (h : H p = none) (w : ∀ own, ObjIs Θ K (upd H p o) own p mo) : Rep Θ K (upd H p o) (gup G p mo) F := by
  have hn := r.free h
  obtain ⟨own, r⟩ := r
  refine ⟨own, fun b u e => ?_, fun q b e => ?_, fun b u e => ?_, tabs_new r.tab h⟩
  · by_cases hb : b = p
    · subst hb
      rw [gup_same] at e
      cases e
      exact w own
    · rw [gup_ne hb] at e
      refine (r.obj b u e).stay (ext_upd_new h) (by rw [upd_ne hb]) fun q eq => ⟨?_, eq⟩
      obtain ⟨_, _, z2, e2, _⟩ := r.hid q b eq
      rw [upd_ne (ne_of_none e2 h)]
  · obtain ⟨h1, h2, z, h3, h4⟩ := r.hid q b e
    have ne := ne_of_none h3 h
    exact ⟨by rw [gup_ne ne]; exact h1, h2, z, by rw [upd_ne ne]; exact h3, h4⟩
  · obtain ⟨h1, h2, h3⟩ := r.frm b u e
    have ne := ne_of_none h1 h
    exact ⟨by rw [upd_ne ne]; exact h1, by rw [gup_ne ne]; exact h2, h3⟩
/-- an object of the store is written -/
theorem Rep.write {mo' : MO} {o' : HO} (r : Rep Θ K H G F) (hg : G a = some mo) (h : H a = some o') (n : NoTup o') (w : ∀ own, (∀ q, own q = some a → G q = none) → ObjIs Θ K (upd H a o) own a mo') : Rep Θ K (upd H a o) (gup G a mo') F := by
  obtain ⟨own, r⟩ := r
  have hq : ∀ q b, own q = some b → q ≠ a := fun q b e => by
    rintro rfl
    have := (r.hid q b e).1
    rw [hg] at this; cases this
  refine ⟨own, fun b u e => ?_, fun q b e => ?_, fun b u e => ?_, tabs_mut r.tab h n⟩
  · by_cases hb : b = a
    · subst hb
      rw [gup_same] at e
      cases e
      exact w own fun q e => (r.hid q b e).1
    · rw [gup_ne hb] at e
      exact (r.obj b u e).stay (ext_upd_mut h n) (by rw [upd_ne hb]) fun q eq => ⟨by rw [upd_ne (hq q b eq)], eq⟩
  · obtain ⟨h1, h2, z, h3, h4⟩ := r.hid q b e
    have ne := hq q b e
    exact ⟨by rw [gup_ne ne]; exact h1, h2, z, by rw [upd_ne ne]; exact h3, h4⟩
  · obtain ⟨h1, h2, h3⟩ := r.frm b u e
    have ne : b ≠ a := by
      rintro rfl
      rw [hg] at h2; cases h2
    exact ⟨by rw [upd_ne ne]; exact h1, by rw [gup_ne ne]; exact h2, h3⟩
/-- the frame takes one more that is new -/
theorem Rep.frame (r : Rep Θ K H G F) (h : H p = none) (ht : ∀ ps, o ≠ .tbl ps) : Rep Θ K (upd H p o) G (upd F p o) := by
  have r' := r.newH (o := o) h
  have hn := r.free h
  obtain ⟨own, r0⟩ := r
  obtain ⟨own', r'⟩ := r'
  refine ⟨own, fun b u e => ?_, fun q b e => ?_, fun b u e => ?_, tabs_new r0.tab h⟩
  · obtain ⟨z, ez, _⟩ := (r0.obj b u e).there
    refine (r0.obj b u e).stay (ext_upd_new h) (by rw [upd_ne (ne_of_none ez h)]) fun q eq => ⟨?_, eq⟩
    obtain ⟨_, _, z2, e2, _⟩ := r0.hid q b eq
    rw [upd_ne (ne_of_none e2 h)]
  · obtain ⟨h1, h2, z, h3, h4⟩ := r0.hid q b e
    have ne := ne_of_none h3 h
    exact ⟨h1, by rw [upd_ne ne]; exact h2, z, by rw [upd_ne ne]; exact h3, h4⟩
  · by_cases hb : b = p
    · subst hb
      rw [upd_same] at e
      cases e
      exact ⟨upd_same, hn.1, ht⟩
    · rw [upd_ne hb] at e
      obtain ⟨h1, h2⟩ := r0.frm b u e
      exact ⟨by rw [upd_ne hb]; exact h1, h2⟩
/-- what the frame holds is written -/
theorem Rep.writeF {o' : HO} (r : Rep Θ K H G F) (hf : F p = some o') (n : NoTup o') (ht : ∀ ps, o ≠ .tbl ps) : Rep Θ K (upd H p o) G (upd F p o) := by
  obtain ⟨own, r⟩ := r
  obtain ⟨h, hn, _⟩ := r.frm p o' hf
  have hq : ∀ q b, own q = some b → q ≠ p := fun q b e => by
    rintro rfl
    have := (r.hid q b e).2.1
    rw [hf] at this; cases this
  refine ⟨own, fun b u e => ?_, fun q b e => ?_, fun b u e => ?_, tabs_mut r.tab h n⟩
  · have hb : b ≠ p := gne e hn
    exact (r.obj b u e).stay (ext_upd_mut h n) (by rw [upd_ne hb]) fun q eq => ⟨by rw [upd_ne (hq q b eq)], eq⟩
  · obtain ⟨h1, h2, z, h3, h4⟩ := r.hid q b e
    have ne := hq q b e
    exact ⟨h1, by rw [upd_ne ne]; exact h2, z, by rw [upd_ne ne]; exact h3, h4⟩
  · by_cases hb : b = p
    · subst hb
      rw [upd_same] at e
      cases e
      exact ⟨upd_same, hn, ht⟩
    · rw [upd_ne hb] at e
      obtain ⟨h1, h2⟩ := r.frm b u e
      exact ⟨by rw [upd_ne hb]; exact h1, h2⟩
/-- the frame hands one over to the store -/
theorem Rep.unframe (r : Rep Θ K H G (upd F p o)) (hF : F p = none) (w : ∀ own, ObjIs Θ K H own p mo) : Rep Θ K H (gup G p mo) F := by
  obtain ⟨own, r⟩ := r
  refine ⟨own, fun b u e => ?_, fun q b e => ?_, fun b u e => ?_, r.tab⟩
  · by_cases hb : b = p
    · subst hb
      rw [gup_same] at e
      cases e
      exact w own
    · rw [gup_ne hb] at e
      exact r.obj b u e
  · obtain ⟨h1, h2, z, h3, h4⟩ := r.hid q b e
    have ne : q ≠ p := by
      rintro rfl
      rw [upd_same] at h2; cases h2
    rw [upd_ne ne] at h2
    exact ⟨by rw [gup_ne ne]; exact h1, h2, z, h3, h4⟩
  · have ne : b ≠ p := by
      rintro rfl
      rw [hF] at e; cases e
    obtain ⟨h1, h2, h3⟩ := r.frm b u (by rw [upd_ne ne]; exact e)
    exact ⟨h1, by rw [gup_ne ne]; exact h2, h3⟩
/-- tables grow -/
theorem ext_of_extN (e : LamX.ExtN H H') : Ext K H H' := fun a xs q => by
  rcases q with q | q
  · left
    rcases q with q | ⟨u, q⟩
    · exact .inl (e a _ q fun _ z => nomatch z)
    · exact .inr ⟨u, e a _ q fun _ z => nomatch z⟩
  · exact .inr q
theorem Rep.extN (r : Rep Θ K H G F) (e : LamX.ExtN H H') (t : LamX.Tabs Θ.T H') : Rep Θ K H' G F := by
  obtain ⟨own, r⟩ := r
  refine ⟨own, fun b u h => ?_, fun q b h => ?_, fun b u h => ?_, t⟩
  · obtain ⟨z, ez, hz⟩ := (r.obj b u h).there
    refine (r.obj b u h).stay (ext_of_extN e) (by rw [ez]; exact e b z ez hz) fun q eq => ⟨?_, eq⟩
    obtain ⟨_, _, z2, e2, h2⟩ := r.hid q b eq
    rw [e2]; exact e q z2 e2 h2
  · obtain ⟨h1, h2, z, h3, h4⟩ := r.hid q b h
    exact ⟨h1, h2, z, e q z h3 h4, h4⟩
  · obtain ⟨h1, h2, h3⟩ := r.frm b u h
    exact ⟨e b u h1 h3, h2, h3⟩
/-- what the store tells may be forgotten -/
def GSub (G G' : GH) : Prop := ∀ a o, G a = some o → G' a = some o
theorem GSub.refl (G : GH) : GSub G G := fun _ _ h => h
theorem GSub.trans {G G1 G2 : GH} (a : GSub G G1) (b : GSub G1 G2) : GSub G G2 := fun p o h => b p o (a p o h)
theorem GSub.new {G : GH} {a : Addr} {o : MO} (h : G a = none) : GSub G (gup G a o) := fun b u e => by rw [gup_ne (gne e h)]; exact e
theorem GSub.up {G G' : GH} {a : Addr} {o : MO} (h : GSub G G') : GSub (gup G a o) (gup G' a o) := fun b u e => by
  by_cases hb : b = a
  · subst hb; rw [gup_same] at e ⊢; exact e
  · rw [gup_ne hb] at e ⊢; exact h b u e
theorem Rep.sub {G' : GH} (r : Rep Θ K H G' F) (s : GSub G G') : Rep Θ K H G F := by
  obtain ⟨own, r⟩ := r
  refine ⟨own, fun b u e => r.obj b u (s b u e), fun q b e => ?_, fun b u e => ?_, r.tab⟩
  · obtain ⟨h1, h2⟩ := r.hid q b e
    refine ⟨?_, h2⟩
    cases z : G q with
    | none => rfl
    | some u => rw [s q u z] at h1; cases h1
  · obtain ⟨h1, h2, h3⟩ := r.frm b u e
    refine ⟨h1, ?_, h3⟩
    cases z : G b with
    | none => rfl
    | some u => rw [s b u z] at h2; cases h2
end

/-! ### places -/
abbrev Ro := List (Option D)
structure EnvIs (K : PySem.W.Frag) (H : Hp) (ρ : Ro) (σ : L2.St) : Prop where
  len : ρ.length = σ.length
  at_ : ∀ (i : Nat) (d : D), ρ[i]? = some (some d) → ∃ v, σ[i]? = some (some v) ∧ Is K H d v
theorem EnvIs.ext {K : PySem.W.Frag} {H H' : Hp} {ρ : Ro} {σ : L2.St} (e : EnvIs K H ρ σ) (x : Ext K H H') : EnvIs K H' ρ σ :=
  ⟨e.len, fun i d h => let ⟨v, h1, h2⟩ := e.at_ i d h; ⟨v, h1, Is.ext x d h2⟩⟩
theorem EnvIs.set {K : PySem.W.Frag} {H : Hp} {ρ : Ro} {σ : L2.St} {d : D} {v : V} (i : Nat) (e : EnvIs K H ρ σ) (h : Is K H d v) : EnvIs K H (ρ.set i (some d)) (σ.set i (some v)) := by
  refine ⟨by simp [e.len], fun j u hj => ?_⟩
  by_cases hij : i = j
  · subst hij
    have hl : i < ρ.length := by
      have := (List.getElem?_eq_some_iff.mp hj).1
      simpa using this
    rw [List.getElem?_set_self hl] at hj
    cases hj
    exact ⟨v, by rw [List.getElem?_set_self (by rw [← e.len]; exact hl)], h⟩
  · rw [List.getElem?_set_ne hij] at hj
    obtain ⟨w, h1, h2⟩ := e.at_ j u hj
    exact ⟨w, by rw [List.getElem?_set_ne hij]; exact h1, h2⟩
theorem EnvIs.unset {K : PySem.W.Frag} {H : Hp} {ρ : Ro} {σ : L2.St} {o : Option V} (i : Nat) (e : EnvIs K H ρ σ) : EnvIs K H (ρ.set i none) (σ.set i o) := by
  refine ⟨by simp [e.len], fun j u hj => ?_⟩
  by_cases hij : i = j
  · subst hij
    have hl : i < ρ.length := by
      have := (List.getElem?_eq_some_iff.mp hj).1
      simpa using this
    rw [List.getElem?_set_self hl] at hj
    cases hj
  · rw [List.getElem?_set_ne hij] at hj
    obtain ⟨w, h1, h2⟩ := e.at_ j u hj
    exact ⟨w, by rw [List.getElem?_set_ne hij]; exact h1, h2⟩

/-! ### what an exception is; what is wanted -/
structure DE where
  C : Addr
  fs : List (Str × D)
def ExcIs (K : PySem.W.Frag) (H : Hp) (e : DE) (cls : Value) (d : Option Addr) : Prop :=
  cls = .ref e.C ∧ match d with
    | none => e.fs = []
    | some q => e.fs ≠ [] ∧ ∃ ws, H q = some (.xd ws) ∧ IsK K H e.fs ws
abbrev DK := D → GH → Prop
abbrev DXK := DE → Ro → GH → Prop
abbrev TED := DXK → Ro → GH → DK → Prop
abbrev TTD := DXK → Ro → GH → (Bool → GH → Prop) → Prop
abbrev TAD := DXK → Ro → GH → (List D → GH → Prop) → Prop
structure DEnds where
  nx : Ro → GH → Prop
  rt : DK
  bk : Ro → GH → Prop := fun _ _ => False
  ct : Ro → GH → Prop := fun _ _ => False
  ex : DXK := fun _ _ _ => False
abbrev TSD := DEnds → Ro → GH → Prop
abbrev DSp := List D → GH → DK → (DE → GH → Prop) → Prop

section
variable (Θ : AbsI) (K : PySem.W.Frag)
def XTo (W : WX) (DX : DXK) (H F : Hp) : Prop := ∀ cls d σ' H' e ρ' G', Ext K H H' → ExcIs K H' e cls d → EnvIs K H' ρ' σ' → Rep Θ K H' G' F → DX e ρ' G' → W cls d σ' H'
def lowE (W : WX) (td : TED) : TE := fun σ H R => ∃ (ρ : Ro) (G : GH) (F : Hp) (Q : DK) (DX : DXK), EnvIs K H ρ σ ∧ Rep Θ K H G F ∧ td DX ρ G Q ∧ XTo Θ K W DX H F ∧
  ∀ v H' d G', Ext K H H' → Is K H' d v → Rep Θ K H' G' F → Q d G' → R v H'
def lowT (W : WX) (td : TTD) : TT := fun σ H R => ∃ (ρ : Ro) (G : GH) (F : Hp) (Q : Bool → GH → Prop) (DX : DXK), EnvIs K H ρ σ ∧ Rep Θ K H G F ∧ td DX ρ G Q ∧ XTo Θ K W DX H F ∧
  ∀ b H' G', Ext K H H' → Rep Θ K H' G' F → Q b G' → R b H'
def lowA (W : WX) (td : TAD) : TA := fun σ H R => ∃ (ρ : Ro) (G : GH) (F : Hp) (Q : List D → GH → Prop) (DX : DXK), EnvIs K H ρ σ ∧ Rep Θ K H G F ∧ td DX ρ G Q ∧ XTo Θ K W DX H F ∧
  ∀ vs H' ds G', Ext K H H' → IsL K H' ds vs → Rep Θ K H' G' F → Q ds G' → R vs H'
def lowS (W : WX) (td : TSD) : TS := fun D σ H => ∃ (ρ : Ro) (G : GH) (F : Hp) (E : DEnds), EnvIs K H ρ σ ∧ Rep Θ K H G F ∧ td E ρ G ∧ XTo Θ K W E.ex H F ∧
  (∀ σ' H' ρ' G', Ext K H H' → EnvIs K H' ρ' σ' → Rep Θ K H' G' F → E.nx ρ' G' → D.nx σ' H') ∧
  (∀ v H' d G', Ext K H H' → Is K H' d v → Rep Θ K H' G' F → E.rt d G' → D.rt v H') ∧
  (∀ σ' H' ρ' G', Ext K H H' → EnvIs K H' ρ' σ' → Rep Θ K H' G' F → E.bk ρ' G' → D.bk σ' H') ∧
  (∀ σ' H' ρ' G', Ext K H H' → EnvIs K H' ρ' σ' → Rep Θ K H' G' F → E.ct ρ' G' → D.ct σ' H')
/-- a def's promise -/
def lowSp (n : Nat) (sp : DSp) : Sp := fun vs H Q E => vs.length = n ∧ ∃ (ds : List D) (G : GH) (F : Hp) (DQ : DK) (DX : DE → GH → Prop), IsL K H ds vs ∧ Rep Θ K H G F ∧ sp ds G DQ DX ∧
  (∀ v H' d G', Ext K H H' → Is K H' d v → Rep Θ K H' G' F → DQ d G' → Q v H') ∧
  (∀ cls x H' e G', Ext K H H' → ExcIs K H' e cls x → Rep Θ K H' G' F → DX e G' → E cls x H')
end
theorem XTo.ext {Θ : AbsI} {K : PySem.W.Frag} {W : WX} {DX : DXK} {H H' F : Hp} (x : XTo Θ K W DX H F) (e : Ext K H H') : XTo Θ K W DX H' F :=
  fun cls d σ' H'' ee ρ' G' e2 => x cls d σ' H'' ee ρ' G' (e.trans e2)
theorem _root_.L2.PE.weak {X : Cx} {e : Expr} {t t' : TE} (h : PE X e t) (i : ∀ σ H Q, t' σ H Q → t σ H Q) : PE X e t' := ⟨fun pins s σ H Q I q => h.run pins s σ H Q I (i _ _ _ q)⟩
theorem _root_.L2.PT.weak {X : Cx} {e : Expr} {t t' : TT} (h : PT X e t) (i : ∀ σ H Q, t' σ H Q → t σ H Q) : PT X e t' := ⟨fun pins s σ H Q I q => h.run pins s σ H Q I (i _ _ _ q)⟩
theorem _root_.L2.PW.weak {X : Cx} {e : Expr} {t t' : TT} (h : PW X e t) (i : ∀ σ H Q, t' σ H Q → t σ H Q) : PW X e t' := ⟨fun wh pins s σ H Q I q => h.run wh pins s σ H Q I (i _ _ _ q)⟩
theorem _root_.L2.PA.weak {X : Cx} {e : List Expr} {t t' : TA} (h : PA X e t) (i : ∀ σ H Q, t' σ H Q → t σ H Q) : PA X e t' := ⟨fun p pins s σ H Q I q => h.run p pins s σ H Q I (i _ _ _ q)⟩
theorem _root_.L2.PS.weak {X : Cx} {e : Stmt} {t t' : TS} (h : PS X e t) (i : ∀ D σ H, t' D σ H → t D σ H) : PS X e t' := ⟨fun pins s σ H D I q => h.run pins s σ H D I (i _ _ _ q)⟩
theorem _root_.L2.PSs.weak {X : Cx} {e : List Stmt} {t t' : TS} (h : PSs X e t) (i : ∀ D σ H, t' D σ H → t D σ H) : PSs X e t' := ⟨fun pins s σ H D I q => h.run pins s σ H D I (i _ _ _ q)⟩
end Dl

namespace Dl
open PySem PySem.Spec PyProof.Rows L2

/-! ### operators by values -/
abbrev R2D := D → D → GH → DK → Prop
abbrev R1D := D → GH → DK → Prop
abbrev RLD := List D → GH → DK → Prop
section
variable (Θ : AbsI) (K : PySem.W.Frag)
def lowR2 (rd : R2D) : R2 := fun v u H R => ∃ (G : GH) (F : Hp) (x y : D) (Q : DK), Rep Θ K H G F ∧ Is K H x v ∧ Is K H y u ∧ rd x y G Q ∧ ∀ w H' d G', Ext K H H' → Is K H' d w → Rep Θ K H' G' F → Q d G' → R w H'
def lowR1 (rd : R1D) : V → Hp → VK → Prop := fun v H R => ∃ (G : GH) (F : Hp) (x : D) (Q : DK), Rep Θ K H G F ∧ Is K H x v ∧ rd x G Q ∧ ∀ w H' d G', Ext K H H' → Is K H' d w → Rep Θ K H' G' F → Q d G' → R w H'
def lowRL (rd : RLD) : List V → Hp → VK → Prop := fun vs H R => ∃ (G : GH) (F : Hp) (xs : List D) (Q : DK), Rep Θ K H G F ∧ IsL K H xs vs ∧ rd xs G Q ∧ ∀ w H' d G', Ext K H H' → Is K H' d w → Rep Θ K H' G' F → Q d G' → R w H'
end
theorem OpR.weak {X : Cx} {f : Value → Value → Sem Value} {r r' : R2} (h : OpR X f r) (i : ∀ x y H Q, r' x y H Q → r x y H Q) : OpR X f r' := fun pins s σ H x y v u Q I rx ry q => h pins s σ H x y v u Q I rx ry (i _ _ _ _ q)

def arg0 (xs : List D) (k : Prop) : Prop := match xs with
  | [] => k
  | _ :: _ => False
def arg1 (xs : List D) (k : D → Prop) : Prop := match xs with
  | [] => False
  | x :: r => arg0 r (k x)
def arg2 (xs : List D) (k : D → D → Prop) : Prop := match xs with
  | [] => False
  | x :: r => arg1 r (k x)
def arg3 (xs : List D) (k : D → D → D → Prop) : Prop := match xs with
  | [] => False
  | x :: r => arg2 r (k x)
theorem arg0_of {xs : List D} {k : Prop} (h : arg0 xs k) : xs = [] ∧ k := by
  cases xs with
  | nil => exact ⟨rfl, h⟩
  | cons x r => exact h.elim
theorem arg1_of {xs : List D} {k : D → Prop} (h : arg1 xs k) : ∃ x, xs = [x] ∧ k x := by
  cases xs with
  | nil => exact h.elim
  | cons x r =>
    obtain ⟨rfl, h⟩ := arg0_of h
    exact ⟨x, rfl, h⟩
theorem arg2_of {xs : List D} {k : D → D → Prop} (h : arg2 xs k) : ∃ x y, xs = [x, y] ∧ k x y := by
  cases xs with
  | nil => exact h.elim
  | cons x r =>
    obtain ⟨y, rfl, h⟩ := arg1_of h
    exact ⟨x, y, rfl, h⟩
theorem arg3_of {xs : List D} {k : D → D → D → Prop} (h : arg3 xs k) : ∃ x y z, xs = [x, y, z] ∧ k x y z := by
  cases xs with
  | nil => exact h.elim
  | cons x r =>
    obtain ⟨y, z, rfl, h⟩ := arg2_of h
    exact ⟨x, y, z, rfl, h⟩
theorem IsL.one {K : PySem.W.Frag} {H : Hp} {d : D} {vs : List V} (h : IsL K H [d] vs) : ∃ v, vs = [v] ∧ Is K H d v := by
  obtain ⟨v, r, rfl, h1, h2⟩ := h
  exact ⟨v, by rw [show r = [] from h2], h1⟩
theorem IsL.two {K : PySem.W.Frag} {H : Hp} {d e : D} {vs : List V} (h : IsL K H [d, e] vs) : ∃ v w, vs = [v, w] ∧ Is K H d v ∧ Is K H e w := by
  obtain ⟨v, r, rfl, h1, h2⟩ := h
  obtain ⟨w, rfl, h3⟩ := IsL.one h2
  exact ⟨v, w, rfl, h1, h3⟩
theorem IsL.three {K : PySem.W.Frag} {H : Hp} {d e f : D} {vs : List V} (h : IsL K H [d, e, f] vs) : ∃ v w u, vs = [v, w, u] ∧ Is K H d v ∧ Is K H e w ∧ Is K H f u := by
  obtain ⟨v, r, rfl, h1, h2⟩ := h
  obtain ⟨w, u, rfl, h3, h4⟩ := IsL.two h2
  exact ⟨v, w, u, rfl, h1, h3, h4⟩

/-- a list of the store that is read -/
def seqOf (G : GH) : D → Option (List D)
  | .tup ds => some ds
  | .ref a => match G a with
    | some (.lst ds) => some ds
    | some (.fro ds) => some ds
    | _ => none
  | _ => none
def lstOf (G : GH) : D → Option (List D)
  | .ref a => match G a with
    | some (.lst ds) => some ds
    | some (.fro ds) => some ds
    | _ => none
  | _ => none
section
variable {Θ : AbsI} {K : PySem.W.Frag} {H : Hp} {G : GH} {F : Hp} {a : Addr} {ds : List D} {d : D} {v : V}
theorem Rep.lst (r : Rep Θ K H G F) (h : G a = some (.lst ds)) : ∃ xs, H a = some (.lst xs) ∧ IsL K H ds xs := by
  obtain ⟨own, r⟩ := r
  exact r.obj a _ h
theorem Rep.fro (r : Rep Θ K H G F) (h : G a = some (.fro ds)) : ∃ o xs, H a = some (.frz o (.lst xs)) ∧ IsL K H ds xs := by
  obtain ⟨own, r⟩ := r
  exact r.obj a _ h
theorem Rep.dct {kvs : List (Key × D)} (r : Rep Θ K H G F) (h : G a = some (.dct kvs)) : ∃ ws, H a = some (.dK ws) ∧ IsK K H kvs ws := by
  obtain ⟨own, r⟩ := r
  exact r.obj a _ h
theorem Rep.ins {C : Addr} {fs : List (Str × D)} (r : Rep Θ K H G F) (h : G a = some (.ins C fs)) : ∃ dx ws, H a = some (.ins C dx ws) ∧ IsK K H fs ws := by
  obtain ⟨own, r⟩ := r
  exact r.obj a _ h
theorem Rep.lstOf (r : Rep Θ K H G F) (h : lstOf G d = some ds) (i : Is K H d v) : ∃ a xs, v = .ref a ∧ d = .ref a ∧ SqL K H a xs ∧ IsL K H ds xs := by
  cases d with
  | ref p =>
    obtain rfl : v = .ref p := i
    cases e : G p with
    | none => simp [Dl.lstOf, e] at h
    | some mo =>
      cases mo with
      | lst es =>
        simp [Dl.lstOf, e] at h
        subst h
        obtain ⟨xs, h1, h2⟩ := r.lst e
        exact ⟨p, xs, rfl, rfl, SqL.of h1, h2⟩
      | fro es =>
        simp [Dl.lstOf, e] at h
        subst h
        obtain ⟨o, xs, h1, h2⟩ := r.fro e
        exact ⟨p, xs, rfl, rfl, .inl (.inr ⟨o, h1⟩), h2⟩
      | _ => simp [Dl.lstOf, e] at h
  | _ => simp [Dl.lstOf] at h
theorem Rep.seqOf (r : Rep Θ K H G F) (h : seqOf G d = some ds) (i : Is K H d v) : ∃ a xs, v = .ref a ∧ (SqL K H a xs ∨ SqT K H a xs) ∧ IsL K H ds xs := by
  cases d with
  | tup es =>
    obtain ⟨a, xs, h1, h2, h3⟩ := i
    simp [Dl.seqOf] at h
    subst h
    exact ⟨a, xs, h1, .inr h2, h3⟩
  | ref p =>
    obtain ⟨a, xs, h1, _, h2, h3⟩ := r.lstOf (d := .ref p) (by simpa [Dl.seqOf, Dl.lstOf] using h) i
    exact ⟨a, xs, h1, .inl h2, h3⟩
  | _ => simp [Dl.seqOf] at h
end

/-! ### arithmetic -/
def IMul (i j : Int) : Prop := CMul i j ∨ CMulW i j
def IDiv (i j : Int) : Prop := CDivN i j ∨ CDivW i j
def rAdd : R2D
  | .int i, .int j, G, Q => Q (.int (i + j)) G
  | .int i, .bl k, G, Q => Q (.int (i + b2i k)) G
  | .str i, .str j, G, Q => i.length + j.length ≤ sizeLine ∧ Q (.str (i ++ j)) G
  | .tup a, .tup b, G, Q => a.length + b.length ≤ sizeLine ∧ Q (.tup (a ++ b)) G
  | .ref a, .ref b, G, Q => ∃ xs ys, G a = some (.lst xs) ∧ G b = some (.lst ys) ∧ xs.length + ys.length ≤ sizeLine ∧ ∀ p, G p = none → Q (.ref p) (gup G p (.lst (xs ++ ys)))
  | _, _, _, _ => False
def rSub : R2D
  | .int i, .int j, G, Q => Q (.int (i - j)) G
  | _, _, _, _ => False
def rFdiv : R2D
  | .int i, .int j, G, Q => 0 < j ∧ IDiv i j ∧ Q (.int (i / j)) G
  | _, _, _, _ => False
def rMod : R2D
  | .int i, .int j, G, Q => 0 < j ∧ Q (.int (i % j)) G
  | _, _, _, _ => False
def rPow : R2D
  | .int i, .int j, G, Q => CPow i j ∧ Q (.int (i ^ j.toNat)) G
  | _, _, _, _ => False
section
variable {X : Cx} {Θ : AbsI}
theorem od_add : OpR X (binaryOp .Add) (lowR2 Θ X.K rAdd) := by
  intro pins s σ H x y v u R I rx ry ⟨G, F, d, e, Q, rep, hd, he, h, k⟩
  cases d with
  | int i =>
    cases e with
    | int j => exact op_add pins s σ H x y v u R I rx ry ⟨i, j, hd, he, k _ _ _ _ Ext.refl .int rep h⟩
    | bl j => exact op_add_ib pins s σ H x y v u R I rx ry ⟨i, j, hd, he, k _ _ _ _ Ext.refl .int rep h⟩
    | _ => exact h.elim
  | str i =>
    cases e with
    | str j => exact op_add_str pins s σ H x y v u R I rx ry ⟨i, j, hd, he, h.1, k _ _ _ _ Ext.refl .str rep h.2⟩
    | _ => exact h.elim
  | tup as =>
    cases e with
    | tup bs =>
      obtain ⟨a, xs, e1, t1, l1⟩ := hd
      obtain ⟨b, ys, e2, t2, l2⟩ := he
      refine op_catA pins s σ H x y v u R I rx ry ⟨a, b, xs, ys, e1, e2, t1, t2, by rw [l1.len, l2.len]; exact h.1, fun z => ?_, fun z1 z2 => ?_, fun z1 z2 p hp => ?_⟩
      · refine k _ _ _ _ Ext.refl (.tup t2 ?_) rep h.2
        subst z
        have : as = [] := List.length_eq_zero_iff.mp (by rw [← l1.len]; rfl)
        subst this
        exact l2
      · refine k _ _ _ _ Ext.refl (.tup t1 ?_) rep h.2
        subst z2
        have : bs = [] := List.length_eq_zero_iff.mp (by rw [← l2.len]; rfl)
        subst this
        rw [List.append_nil]
        exact l1
      · exact k _ _ _ _ (ext_upd_new hp) (.tup (SqT.of upd_same) (IsL.ext (ext_upd_new hp) _ (l1.app l2))) (rep.newH hp) h.2
    | _ => exact h.elim
  | ref a =>
    cases e with
    | ref b =>
      obtain ⟨xs, ys, h1, h2, h3, h4⟩ := h
      obtain ⟨vs, e1, l1⟩ := rep.lst h1
      obtain ⟨ws, e2, l2⟩ := rep.lst h2
      refine op_cat pins s σ H x y v u R I rx ry ⟨a, b, vs, ws, hd, he, e1, e2, by rw [l1.len, l2.len]; exact h3, fun p hp => ?_⟩
      exact k _ _ _ _ (ext_upd_new hp) .ref (rep.new hp fun own => .lst upd_same (IsL.ext (ext_upd_new hp) _ (l1.app l2))) (h4 p (rep.free hp).1)
    | _ => exact h.elim
  | _ => exact h.elim
theorem od_sub : OpR X (binaryOp .Sub) (lowR2 Θ X.K rSub) := by
  intro pins s σ H x y v u R I rx ry ⟨G, F, d, e, Q, rep, hd, he, h, k⟩
  cases d with
  | int i =>
    cases e with
    | int j => exact op_sub pins s σ H x y v u R I rx ry ⟨i, j, hd, he, k _ _ _ _ Ext.refl .int rep h⟩
    | _ => exact h.elim
  | _ => exact h.elim
theorem od_fdiv : OpR X (binaryOp .FloorDiv) (lowR2 Θ X.K rFdiv) := by
  intro pins s σ H x y v u R I rx ry ⟨G, F, d, e, Q, rep, hd, he, h, k⟩
  cases d with
  | int i =>
    cases e with
    | int j =>
      obtain ⟨h0, h1, h2⟩ := h
      rcases h1 with h1 | h1
      · refine op_fdivN pins s σ H x y v u R I rx ry ⟨i, j, hd, he, h1, k _ _ _ _ Ext.refl .int rep ?_⟩
        rw [Int.fdiv_eq_ediv_of_nonneg _ (Int.le_of_lt h0)]
        exact h2
      · exact op_fdivW pins s σ H x y v u R I rx ry ⟨i, j, hd, he, h1, k _ _ _ _ Ext.refl .int rep h2⟩
    | _ => exact h.elim
  | _ => exact h.elim
theorem od_mod : OpR X (binaryOp .Mod) (lowR2 Θ X.K rMod) := by
  intro pins s σ H x y v u R I rx ry ⟨G, F, d, e, Q, rep, hd, he, h, k⟩
  cases d with
  | int i =>
    cases e with
    | int j =>
      obtain ⟨h0, h2⟩ := h
      exact op_mod pins s σ H x y v u R I rx ry ⟨i, j, hd, he, h0, k _ _ _ _ Ext.refl .int rep h2⟩
    | _ => exact h.elim
  | _ => exact h.elim
theorem od_pow : OpR X (binaryOp .Pow) (lowR2 Θ X.K rPow) := by
  intro pins s σ H x y v u R I rx ry ⟨G, F, d, e, Q, rep, hd, he, h, k⟩
  cases d with
  | int i =>
    cases e with
    | int j =>
      obtain ⟨h0, h2⟩ := h
      exact op_pow pins s σ H x y v u R I rx ry ⟨i, j, hd, he, h0, k _ _ _ _ Ext.refl .int rep h2⟩
    | _ => exact h.elim
  | _ => exact h.elim
end
end Dl

namespace Dl
open PySem PySem.Spec PyProof.Rows L2
open PySem.SeqAt
open AutoSeq1 (wpAny_loadPart')
open MeetsSeq
def DctAt (h : Heap) (l : Addr) : Prop := ∃ (dd : Option Addr) (es : Array DictEntry) (n : Nat) (sl : Array (Option Value)), h.get? l = some { cls := .type "dict", dict := dd, data := .dict es n, slots := sl }
theorem kdct_eq_none (l : Addr) (es : Array DictEntry) (n : Nat) (dd : Option Addr) (sl : Array (Option Value))  :
    Meets (Builtin.«dict.__eq__» ⟨[.ref l, .none], []⟩) (fun _ R s => s.heap.get? l = some { cls := .type "dict", dict := dd, data := .dict es n, slots := sl } ∧ R (.ok (.ret .notImplemented)) s) :=
  .of_wp fun prog w A R s h => by
    obtain ⟨hp, g, d, tk, os⟩ := s
    obtain ⟨hl, h⟩ := h
    have f1 := F.sub_NoneType_dict
    wp_walk using wpAny_loadPart' hl, wpAny_load hl
    exact ⟨_, rfl, h⟩
theorem knone_eq_dct (l : Addr) (es : Array DictEntry) (n : Nat) (dd : Option Addr) (sl : Array (Option Value))  :
    Meets (Builtin.«NoneType.__eq__» ⟨[.none, .ref l], []⟩) (fun _ R s => s.heap.get? l = some { cls := .type "dict", dict := dd, data := .dict es n, slots := sl } ∧ R (.ok (.ret .notImplemented)) s) :=
  .of_wp fun prog w A R s h => by
    obtain ⟨hp, g, d, tk, os⟩ := s
    obtain ⟨hl, h⟩ := h
    wp_walk using wpAny_loadPart' hl, wpAny_load hl
    exact ⟨_, rfl, h⟩
theorem kdct_eq_bool (l : Addr) (es : Array DictEntry) (n : Nat) (dd : Option Addr) (sl : Array (Option Value)) (b : Bool) :
    Meets (Builtin.«dict.__eq__» ⟨[.ref l, (.bool b)], []⟩) (fun _ R s => s.heap.get? l = some { cls := .type "dict", dict := dd, data := .dict es n, slots := sl } ∧ R (.ok (.ret .notImplemented)) s) :=
  .of_wp fun prog w A R s h => by
    obtain ⟨hp, g, d, tk, os⟩ := s
    obtain ⟨hl, h⟩ := h
    have f1 := F.sub_bool_dict
    wp_walk using wpAny_loadPart' hl, wpAny_load hl
    exact ⟨_, rfl, h⟩
theorem kbool_eq_dct (l : Addr) (es : Array DictEntry) (n : Nat) (dd : Option Addr) (sl : Array (Option Value)) (b : Bool) :
    Meets (Builtin.«int.__eq__» ⟨[(.bool b), .ref l], []⟩) (fun _ R s => s.heap.get? l = some { cls := .type "dict", dict := dd, data := .dict es n, slots := sl } ∧ R (.ok (.ret .notImplemented)) s) :=
  .of_wp fun prog w A R s h => by
    obtain ⟨hp, g, d, tk, os⟩ := s
    obtain ⟨hl, h⟩ := h
    wp_walk using wpAny_loadPart' hl, wpAny_load hl
    exact ⟨_, rfl, h⟩
theorem kdct_eq_int (l : Addr) (es : Array DictEntry) (n : Nat) (dd : Option Addr) (sl : Array (Option Value)) (b : Int) (u : Tok) :
    Meets (Builtin.«dict.__eq__» ⟨[.ref l, (.int b u)], []⟩) (fun _ R s => s.heap.get? l = some { cls := .type "dict", dict := dd, data := .dict es n, slots := sl } ∧ R (.ok (.ret .notImplemented)) s) :=
  .of_wp fun prog w A R s h => by
    obtain ⟨hp, g, d, tk, os⟩ := s
    obtain ⟨hl, h⟩ := h
    have f1 := F.sub_int_dict
    wp_walk using wpAny_loadPart' hl, wpAny_load hl
    exact ⟨_, rfl, h⟩
theorem kint_eq_dct (l : Addr) (es : Array DictEntry) (n : Nat) (dd : Option Addr) (sl : Array (Option Value)) (b : Int) (u : Tok) :
    Meets (Builtin.«int.__eq__» ⟨[(.int b u), .ref l], []⟩) (fun _ R s => s.heap.get? l = some { cls := .type "dict", dict := dd, data := .dict es n, slots := sl } ∧ R (.ok (.ret .notImplemented)) s) :=
  .of_wp fun prog w A R s h => by
    obtain ⟨hp, g, d, tk, os⟩ := s
    obtain ⟨hl, h⟩ := h
    wp_walk using wpAny_loadPart' hl, wpAny_load hl
    exact ⟨_, rfl, h⟩
theorem kdct_eq_str (l : Addr) (es : Array DictEntry) (n : Nat) (dd : Option Addr) (sl : Array (Option Value)) (b : Str) (u : Tok) :
    Meets (Builtin.«dict.__eq__» ⟨[.ref l, (.str b u)], []⟩) (fun _ R s => s.heap.get? l = some { cls := .type "dict", dict := dd, data := .dict es n, slots := sl } ∧ R (.ok (.ret .notImplemented)) s) :=
  .of_wp fun prog w A R s h => by
    obtain ⟨hp, g, d, tk, os⟩ := s
    obtain ⟨hl, h⟩ := h
    have f1 := F.sub_str_dict
    wp_walk using wpAny_loadPart' hl, wpAny_load hl
    exact ⟨_, rfl, h⟩
theorem kstr_eq_dct (l : Addr) (es : Array DictEntry) (n : Nat) (dd : Option Addr) (sl : Array (Option Value)) (b : Str) (u : Tok) :
    Meets (Builtin.«str.__eq__» ⟨[(.str b u), .ref l], []⟩) (fun _ R s => s.heap.get? l = some { cls := .type "dict", dict := dd, data := .dict es n, slots := sl } ∧ R (.ok (.ret .notImplemented)) s) :=
  .of_wp fun prog w A R s h => by
    obtain ⟨hp, g, d, tk, os⟩ := s
    obtain ⟨hl, h⟩ := h
    wp_walk using wpAny_loadPart' hl, wpAny_load hl
    exact ⟨_, rfl, h⟩
theorem kdct_eq_list (l b : Addr) (es : Array DictEntry) (items : Array Value) (n n2 : Nat) (dd dd2 : Option Addr) (sl sl2 : Array (Option Value)) :
    Meets (Builtin.«dict.__eq__» ⟨[.ref l, .ref b], []⟩) (fun _ R s => s.heap.get? l = some { cls := .type "dict", dict := dd, data := .dict es n, slots := sl } ∧ s.heap.get? b = some { cls := .type "list", dict := dd2, data := .seq items n2, slots := sl2 } ∧ R (.ok (.ret .notImplemented)) s) :=
  .of_wp fun prog w A R s h => by
    obtain ⟨hp, g, d, tk, os⟩ := s
    obtain ⟨hl, hb, h⟩ := h
    have f1 := F.sub_list_dict
    wp_walk using wpAny_loadPart' hl, wpAny_loadPart' hb, wpAny_load hl, wpAny_load hb
    exact ⟨_, rfl, h⟩
theorem klist_eq_dct (l b : Addr) (es : Array DictEntry) (items : Array Value) (n n2 : Nat) (dd dd2 : Option Addr) (sl sl2 : Array (Option Value)) :
    Meets (Builtin.«list.__eq__» ⟨[.ref b, .ref l], []⟩) (fun _ R s => s.heap.get? l = some { cls := .type "dict", dict := dd, data := .dict es n, slots := sl } ∧ s.heap.get? b = some { cls := .type "list", dict := dd2, data := .seq items n2, slots := sl2 } ∧ R (.ok (.ret .notImplemented)) s) :=
  .of_wp fun prog w A R s h => by
    obtain ⟨hp, g, d, tk, os⟩ := s
    obtain ⟨hl, hb, h⟩ := h
    have f1 := F.sub_dict_list
    wp_walk using wpAny_loadPart' hl, wpAny_loadPart' hb, wpAny_load hl, wpAny_load hb
    exact ⟨_, rfl, h⟩
theorem kdct_eq_tuple (l b : Addr) (es : Array DictEntry) (items : Array Value) (n n2 : Nat) (dd dd2 : Option Addr) (sl sl2 : Array (Option Value)) :
    Meets (Builtin.«dict.__eq__» ⟨[.ref l, .ref b], []⟩) (fun _ R s => s.heap.get? l = some { cls := .type "dict", dict := dd, data := .dict es n, slots := sl } ∧ s.heap.get? b = some { cls := .type "tuple", dict := dd2, data := .seq items n2, slots := sl2 } ∧ R (.ok (.ret .notImplemented)) s) :=
  .of_wp fun prog w A R s h => by
    obtain ⟨hp, g, d, tk, os⟩ := s
    obtain ⟨hl, hb, h⟩ := h
    have f1 := F.sub_tuple_dict
    wp_walk using wpAny_loadPart' hl, wpAny_loadPart' hb, wpAny_load hl, wpAny_load hb
    exact ⟨_, rfl, h⟩
theorem ktuple_eq_dct (l b : Addr) (es : Array DictEntry) (items : Array Value) (n n2 : Nat) (dd dd2 : Option Addr) (sl sl2 : Array (Option Value)) :
    Meets (Builtin.«tuple.__eq__» ⟨[.ref b, .ref l], []⟩) (fun _ R s => s.heap.get? l = some { cls := .type "dict", dict := dd, data := .dict es n, slots := sl } ∧ s.heap.get? b = some { cls := .type "tuple", dict := dd2, data := .seq items n2, slots := sl2 } ∧ R (.ok (.ret .notImplemented)) s) :=
  .of_wp fun prog w A R s h => by
    obtain ⟨hp, g, d, tk, os⟩ := s
    obtain ⟨hl, hb, h⟩ := h
    have f1 := F.sub_dict_tuple
    wp_walk using wpAny_loadPart' hl, wpAny_loadPart' hb, wpAny_load hl, wpAny_load hb
    exact ⟨_, rfl, h⟩
theorem kdct_ne_none (l : Addr) (es : Array DictEntry) (n : Nat) (dd : Option Addr) (sl : Array (Option Value))  :
    Meets (Builtin.«dict.__ne__» ⟨[.ref l, .none], []⟩) (fun _ R s => s.heap.get? l = some { cls := .type "dict", dict := dd, data := .dict es n, slots := sl } ∧ R (.ok (.ret .notImplemented)) s) :=
  .of_wp fun prog w A R s h => by
    obtain ⟨hp, g, d, tk, os⟩ := s
    obtain ⟨hl, h⟩ := h
    have f1 := F.sub_NoneType_dict
    wp_walk using wpAny_loadPart' hl, wpAny_load hl
    exact ⟨_, rfl, h⟩
theorem knone_ne_dct (l : Addr) (es : Array DictEntry) (n : Nat) (dd : Option Addr) (sl : Array (Option Value))  :
    Meets (Builtin.«NoneType.__ne__» ⟨[.none, .ref l], []⟩) (fun _ R s => s.heap.get? l = some { cls := .type "dict", dict := dd, data := .dict es n, slots := sl } ∧ R (.ok (.ret .notImplemented)) s) :=
  .of_wp fun prog w A R s h => by
    obtain ⟨hp, g, d, tk, os⟩ := s
    obtain ⟨hl, h⟩ := h
    wp_walk using wpAny_loadPart' hl, wpAny_load hl
    exact ⟨_, rfl, h⟩
theorem kdct_ne_bool (l : Addr) (es : Array DictEntry) (n : Nat) (dd : Option Addr) (sl : Array (Option Value)) (b : Bool) :
    Meets (Builtin.«dict.__ne__» ⟨[.ref l, (.bool b)], []⟩) (fun _ R s => s.heap.get? l = some { cls := .type "dict", dict := dd, data := .dict es n, slots := sl } ∧ R (.ok (.ret .notImplemented)) s) :=
  .of_wp fun prog w A R s h => by
    obtain ⟨hp, g, d, tk, os⟩ := s
    obtain ⟨hl, h⟩ := h
    have f1 := F.sub_bool_dict
    wp_walk using wpAny_loadPart' hl, wpAny_load hl
    exact ⟨_, rfl, h⟩
theorem kbool_ne_dct (l : Addr) (es : Array DictEntry) (n : Nat) (dd : Option Addr) (sl : Array (Option Value)) (b : Bool) :
    Meets (Builtin.«int.__ne__» ⟨[(.bool b), .ref l], []⟩) (fun _ R s => s.heap.get? l = some { cls := .type "dict", dict := dd, data := .dict es n, slots := sl } ∧ R (.ok (.ret .notImplemented)) s) :=
  .of_wp fun prog w A R s h => by
    obtain ⟨hp, g, d, tk, os⟩ := s
    obtain ⟨hl, h⟩ := h
    wp_walk using wpAny_loadPart' hl, wpAny_load hl
    exact ⟨_, rfl, h⟩
theorem kdct_ne_int (l : Addr) (es : Array DictEntry) (n : Nat) (dd : Option Addr) (sl : Array (Option Value)) (b : Int) (u : Tok) :
    Meets (Builtin.«dict.__ne__» ⟨[.ref l, (.int b u)], []⟩) (fun _ R s => s.heap.get? l = some { cls := .type "dict", dict := dd, data := .dict es n, slots := sl } ∧ R (.ok (.ret .notImplemented)) s) :=
  .of_wp fun prog w A R s h => by
    obtain ⟨hp, g, d, tk, os⟩ := s
    obtain ⟨hl, h⟩ := h
    have f1 := F.sub_int_dict
    wp_walk using wpAny_loadPart' hl, wpAny_load hl
    exact ⟨_, rfl, h⟩
theorem kint_ne_dct (l : Addr) (es : Array DictEntry) (n : Nat) (dd : Option Addr) (sl : Array (Option Value)) (b : Int) (u : Tok) :
    Meets (Builtin.«int.__ne__» ⟨[(.int b u), .ref l], []⟩) (fun _ R s => s.heap.get? l = some { cls := .type "dict", dict := dd, data := .dict es n, slots := sl } ∧ R (.ok (.ret .notImplemented)) s) :=
  .of_wp fun prog w A R s h => by
    obtain ⟨hp, g, d, tk, os⟩ := s
    obtain ⟨hl, h⟩ := h
    wp_walk using wpAny_loadPart' hl, wpAny_load hl
    exact ⟨_, rfl, h⟩
theorem kdct_ne_str (l : Addr) (es : Array DictEntry) (n : Nat) (dd : Option Addr) (sl : Array (Option Value)) (b : Str) (u : Tok) :
    Meets (Builtin.«dict.__ne__» ⟨[.ref l, (.str b u)], []⟩) (fun _ R s => s.heap.get? l = some { cls := .type "dict", dict := dd, data := .dict es n, slots := sl } ∧ R (.ok (.ret .notImplemented)) s) :=
  .of_wp fun prog w A R s h => by
    obtain ⟨hp, g, d, tk, os⟩ := s
    obtain ⟨hl, h⟩ := h
    have f1 := F.sub_str_dict
    wp_walk using wpAny_loadPart' hl, wpAny_load hl
    exact ⟨_, rfl, h⟩
theorem kstr_ne_dct (l : Addr) (es : Array DictEntry) (n : Nat) (dd : Option Addr) (sl : Array (Option Value)) (b : Str) (u : Tok) :
    Meets (Builtin.«str.__ne__» ⟨[(.str b u), .ref l], []⟩) (fun _ R s => s.heap.get? l = some { cls := .type "dict", dict := dd, data := .dict es n, slots := sl } ∧ R (.ok (.ret .notImplemented)) s) :=
  .of_wp fun prog w A R s h => by
    obtain ⟨hp, g, d, tk, os⟩ := s
    obtain ⟨hl, h⟩ := h
    wp_walk using wpAny_loadPart' hl, wpAny_load hl
    exact ⟨_, rfl, h⟩
theorem kdct_ne_list (l b : Addr) (es : Array DictEntry) (items : Array Value) (n n2 : Nat) (dd dd2 : Option Addr) (sl sl2 : Array (Option Value)) :
    Meets (Builtin.«dict.__ne__» ⟨[.ref l, .ref b], []⟩) (fun _ R s => s.heap.get? l = some { cls := .type "dict", dict := dd, data := .dict es n, slots := sl } ∧ s.heap.get? b = some { cls := .type "list", dict := dd2, data := .seq items n2, slots := sl2 } ∧ R (.ok (.ret .notImplemented)) s) :=
  .of_wp fun prog w A R s h => by
    obtain ⟨hp, g, d, tk, os⟩ := s
    obtain ⟨hl, hb, h⟩ := h
    have f1 := F.sub_list_dict
    wp_walk using wpAny_loadPart' hl, wpAny_loadPart' hb, wpAny_load hl, wpAny_load hb
    exact ⟨_, rfl, h⟩
theorem klist_ne_dct (l b : Addr) (es : Array DictEntry) (items : Array Value) (n n2 : Nat) (dd dd2 : Option Addr) (sl sl2 : Array (Option Value)) :
    Meets (Builtin.«list.__ne__» ⟨[.ref b, .ref l], []⟩) (fun _ R s => s.heap.get? l = some { cls := .type "dict", dict := dd, data := .dict es n, slots := sl } ∧ s.heap.get? b = some { cls := .type "list", dict := dd2, data := .seq items n2, slots := sl2 } ∧ R (.ok (.ret .notImplemented)) s) :=
  .of_wp fun prog w A R s h => by
    obtain ⟨hp, g, d, tk, os⟩ := s
    obtain ⟨hl, hb, h⟩ := h
    have f1 := F.sub_dict_list
    wp_walk using wpAny_loadPart' hl, wpAny_loadPart' hb, wpAny_load hl, wpAny_load hb
    exact ⟨_, rfl, h⟩
theorem kdct_ne_tuple (l b : Addr) (es : Array DictEntry) (items : Array Value) (n n2 : Nat) (dd dd2 : Option Addr) (sl sl2 : Array (Option Value)) :
    Meets (Builtin.«dict.__ne__» ⟨[.ref l, .ref b], []⟩) (fun _ R s => s.heap.get? l = some { cls := .type "dict", dict := dd, data := .dict es n, slots := sl } ∧ s.heap.get? b = some { cls := .type "tuple", dict := dd2, data := .seq items n2, slots := sl2 } ∧ R (.ok (.ret .notImplemented)) s) :=
  .of_wp fun prog w A R s h => by
    obtain ⟨hp, g, d, tk, os⟩ := s
    obtain ⟨hl, hb, h⟩ := h
    have f1 := F.sub_tuple_dict
    wp_walk using wpAny_loadPart' hl, wpAny_loadPart' hb, wpAny_load hl, wpAny_load hb
    exact ⟨_, rfl, h⟩
theorem ktuple_ne_dct (l b : Addr) (es : Array DictEntry) (items : Array Value) (n n2 : Nat) (dd dd2 : Option Addr) (sl sl2 : Array (Option Value)) :
    Meets (Builtin.«tuple.__ne__» ⟨[.ref b, .ref l], []⟩) (fun _ R s => s.heap.get? l = some { cls := .type "dict", dict := dd, data := .dict es n, slots := sl } ∧ s.heap.get? b = some { cls := .type "tuple", dict := dd2, data := .seq items n2, slots := sl2 } ∧ R (.ok (.ret .notImplemented)) s) :=
  .of_wp fun prog w A R s h => by
    obtain ⟨hp, g, d, tk, os⟩ := s
    obtain ⟨hl, hb, h⟩ := h
    have f1 := F.sub_dict_tuple
    wp_walk using wpAny_loadPart' hl, wpAny_loadPart' hb, wpAny_load hl, wpAny_load hb
    exact ⟨_, rfl, h⟩
section
variable {A : Around} {s : Shared}
theorem rceq_dct_none {l : Addr}  (hl : DctAt s.heap l) (hu : A.units < cLine) : RcAt A s (.ref l) .none false := fun prog w E Q h => by
  obtain ⟨dd, es, n, sl, ho⟩ := hl
  exact rc_eq_decline_or (k := false) ⟨_, ho, rfl⟩ rfl (by decide) F.sub_NoneType_dict F.slot_dict_eq F.slot_NoneType_eq_refl
    (fun _ hq => call_meets F.slot_dict_eq ⟨_, ho, rfl⟩ F.entry_dict_eq (F.args_dict_eq_2 _ _) (kdct_eq_none l es n dd sl ) ⟨ho, hq⟩)
    (fun _ hq => call_meets F.slot_NoneType_eq_refl rfl F.entry_NoneType_eq (F.args_NoneType_eq_2 _ _) (knone_eq_dct l es n dd sl ) ⟨ho, hq⟩)
    (fun _ hq => wpAny_of_eq (rfl : isSame (.ref l) .none = pure false) hq) (.inr hu) h
theorem rceq_none_dct {l : Addr}  (hl : DctAt s.heap l) (hu : A.units < cLine) : RcAt A s .none (.ref l) false := fun prog w E Q h => by
  obtain ⟨dd, es, n, sl, ho⟩ := hl
  exact rc_eq_decline_or (k := false) rfl ⟨_, ho, rfl⟩ (by decide) F.sub_dict_NoneType F.slot_NoneType_eq F.slot_dict_eq_refl
    (fun _ hq => call_meets F.slot_NoneType_eq rfl F.entry_NoneType_eq (F.args_NoneType_eq_2 _ _) (knone_eq_dct l es n dd sl ) ⟨ho, hq⟩)
    (fun _ hq => call_meets F.slot_dict_eq_refl ⟨_, ho, rfl⟩ F.entry_dict_eq (F.args_dict_eq_2 _ _) (kdct_eq_none l es n dd sl ) ⟨ho, hq⟩)
    (fun _ hq => wpAny_of_eq (rfl : isSame .none (.ref l) = pure false) hq) (.inr hu) h
theorem rceq_dct_bool {l : Addr} (b : Bool) (hl : DctAt s.heap l) (hu : A.units < cLine) : RcAt A s (.ref l) (.bool b) false := fun prog w E Q h => by
  obtain ⟨dd, es, n, sl, ho⟩ := hl
  exact rc_eq_decline_or (k := false) ⟨_, ho, rfl⟩ rfl (by decide) F.sub_bool_dict F.slot_dict_eq F.slot_bool_eq_refl
    (fun _ hq => call_meets F.slot_dict_eq ⟨_, ho, rfl⟩ F.entry_dict_eq (F.args_dict_eq_2 _ _) (kdct_eq_bool l es n dd sl b) ⟨ho, hq⟩)
    (fun _ hq => call_meets F.slot_bool_eq_refl rfl F.entry_int_eq (F.args_int_eq_2 _ _) (kbool_eq_dct l es n dd sl b) ⟨ho, hq⟩)
    (fun _ hq => wpAny_of_eq (rfl : isSame (.ref l) (.bool b) = pure false) hq) (.inr hu) h
theorem rceq_bool_dct {l : Addr} (b : Bool) (hl : DctAt s.heap l) (hu : A.units < cLine) : RcAt A s (.bool b) (.ref l) false := fun prog w E Q h => by
  obtain ⟨dd, es, n, sl, ho⟩ := hl
  exact rc_eq_decline_or (k := false) rfl ⟨_, ho, rfl⟩ (by decide) F.sub_dict_bool F.slot_bool_eq F.slot_dict_eq_refl
    (fun _ hq => call_meets F.slot_bool_eq rfl F.entry_int_eq (F.args_int_eq_2 _ _) (kbool_eq_dct l es n dd sl b) ⟨ho, hq⟩)
    (fun _ hq => call_meets F.slot_dict_eq_refl ⟨_, ho, rfl⟩ F.entry_dict_eq (F.args_dict_eq_2 _ _) (kdct_eq_bool l es n dd sl b) ⟨ho, hq⟩)
    (fun _ hq => wpAny_of_eq (rfl : isSame (.bool b) (.ref l) = pure false) hq) (.inr hu) h
theorem rceq_dct_int {l : Addr} (b : Int) (u : Tok) (hl : DctAt s.heap l) (hu : A.units < cLine) : RcAt A s (.ref l) (.int b u) false := fun prog w E Q h => by
  obtain ⟨dd, es, n, sl, ho⟩ := hl
  exact rc_eq_decline_or (k := false) ⟨_, ho, rfl⟩ (typeIs_int s b u) (by decide) F.sub_int_dict F.slot_dict_eq F.slot_int_eq_refl
    (fun _ hq => call_meets F.slot_dict_eq ⟨_, ho, rfl⟩ F.entry_dict_eq (F.args_dict_eq_2 _ _) (kdct_eq_int l es n dd sl b u) ⟨ho, hq⟩)
    (fun _ hq => call_meets F.slot_int_eq_refl (typeIs_int s b u) F.entry_int_eq (F.args_int_eq_2 _ _) (kint_eq_dct l es n dd sl b u) ⟨ho, hq⟩)
    (fun _ hq => wpAny_of_eq (rfl : isSame (.ref l) (.int b u) = pure false) hq) (.inr hu) h
theorem rceq_int_dct {l : Addr} (b : Int) (u : Tok) (hl : DctAt s.heap l) (hu : A.units < cLine) : RcAt A s (.int b u) (.ref l) false := fun prog w E Q h => by
  obtain ⟨dd, es, n, sl, ho⟩ := hl
  exact rc_eq_decline_or (k := false) (typeIs_int s b u) ⟨_, ho, rfl⟩ (by decide) F.sub_dict_int F.slot_int_eq F.slot_dict_eq_refl
    (fun _ hq => call_meets F.slot_int_eq (typeIs_int s b u) F.entry_int_eq (F.args_int_eq_2 _ _) (kint_eq_dct l es n dd sl b u) ⟨ho, hq⟩)
    (fun _ hq => call_meets F.slot_dict_eq_refl ⟨_, ho, rfl⟩ F.entry_dict_eq (F.args_dict_eq_2 _ _) (kdct_eq_int l es n dd sl b u) ⟨ho, hq⟩)
    (fun _ hq => wpAny_of_eq (rfl : isSame (.int b u) (.ref l) = pure false) hq) (.inr hu) h
theorem rceq_dct_str {l : Addr} (b : Str) (u : Tok) (hl : DctAt s.heap l) (hu : A.units < cLine) : RcAt A s (.ref l) (.str b u) false := fun prog w E Q h => by
  obtain ⟨dd, es, n, sl, ho⟩ := hl
  exact rc_eq_decline_or (k := false) ⟨_, ho, rfl⟩ (typeIs_str s b u) (by decide) F.sub_str_dict F.slot_dict_eq F.slot_str_eq_refl
    (fun _ hq => call_meets F.slot_dict_eq ⟨_, ho, rfl⟩ F.entry_dict_eq (F.args_dict_eq_2 _ _) (kdct_eq_str l es n dd sl b u) ⟨ho, hq⟩)
    (fun _ hq => call_meets F.slot_str_eq_refl (typeIs_str s b u) F.entry_str_eq (F.args_str_eq_2 _ _) (kstr_eq_dct l es n dd sl b u) ⟨ho, hq⟩)
    (fun _ hq => wpAny_of_eq (rfl : isSame (.ref l) (.str b u) = pure false) hq) (.inr hu) h
theorem rceq_str_dct {l : Addr} (b : Str) (u : Tok) (hl : DctAt s.heap l) (hu : A.units < cLine) : RcAt A s (.str b u) (.ref l) false := fun prog w E Q h => by
  obtain ⟨dd, es, n, sl, ho⟩ := hl
  exact rc_eq_decline_or (k := false) (typeIs_str s b u) ⟨_, ho, rfl⟩ (by decide) F.sub_dict_str F.slot_str_eq F.slot_dict_eq_refl
    (fun _ hq => call_meets F.slot_str_eq (typeIs_str s b u) F.entry_str_eq (F.args_str_eq_2 _ _) (kstr_eq_dct l es n dd sl b u) ⟨ho, hq⟩)
    (fun _ hq => call_meets F.slot_dict_eq_refl ⟨_, ho, rfl⟩ F.entry_dict_eq (F.args_dict_eq_2 _ _) (kdct_eq_str l es n dd sl b u) ⟨ho, hq⟩)
    (fun _ hq => wpAny_of_eq (rfl : isSame (.str b u) (.ref l) = pure false) hq) (.inr hu) h
theorem rceq_dct_list {l b : Addr} {items : Array Value} (hl : DctAt s.heap l) (hb : s.heap.IsList b items) (hu : A.units < cLine) : RcAt A s (.ref l) (.ref b) false := fun prog w E Q h => by
  obtain ⟨dd, es, n, sl, ho⟩ := hl
  obtain ⟨⟨cls, dd2, data, sl2⟩, ho2, hc, n2, hd⟩ := id hb
  simp only at hc hd
  subst hc hd
  have hne : l ≠ b := fun e => by subst e; rw [ho] at ho2; simp at ho2
  exact rc_eq_decline_or (k := false) ⟨_, ho, rfl⟩ ⟨_, ho2, rfl⟩ (by decide) F.sub_list_dict F.slot_dict_eq F.slot_list_eq_refl
    (fun _ hq => call_meets F.slot_dict_eq ⟨_, ho, rfl⟩ F.entry_dict_eq (F.args_dict_eq_2 _ _) (kdct_eq_list l b es items n n2 dd dd2 sl sl2) ⟨ho, ho2, hq⟩)
    (fun _ hq => call_meets F.slot_list_eq_refl ⟨_, ho2, rfl⟩ F.entry_list_eq (F.args_list_eq_2 _ _) (klist_eq_dct l b es items n n2 dd dd2 sl sl2) ⟨ho, ho2, hq⟩)
    (fun _ hq => wpAny_isSame_ref_other hne ho ho2 (by simp) hq) (.inr hu) h
theorem rceq_list_dct {l b : Addr} {items : Array Value} (hl : DctAt s.heap l) (hb : s.heap.IsList b items) (hu : A.units < cLine) : RcAt A s (.ref b) (.ref l) false := fun prog w E Q h => by
  obtain ⟨dd, es, n, sl, ho⟩ := hl
  obtain ⟨⟨cls, dd2, data, sl2⟩, ho2, hc, n2, hd⟩ := id hb
  simp only at hc hd
  subst hc hd
  have hne : b ≠ l := fun e => by subst e; rw [ho] at ho2; simp at ho2
  exact rc_eq_decline_or (k := false) ⟨_, ho2, rfl⟩ ⟨_, ho, rfl⟩ (by decide) F.sub_dict_list F.slot_list_eq F.slot_dict_eq_refl
    (fun _ hq => call_meets F.slot_list_eq ⟨_, ho2, rfl⟩ F.entry_list_eq (F.args_list_eq_2 _ _) (klist_eq_dct l b es items n n2 dd dd2 sl sl2) ⟨ho, ho2, hq⟩)
    (fun _ hq => call_meets F.slot_dict_eq_refl ⟨_, ho, rfl⟩ F.entry_dict_eq (F.args_dict_eq_2 _ _) (kdct_eq_list l b es items n n2 dd dd2 sl sl2) ⟨ho, ho2, hq⟩)
    (fun _ hq => wpAny_isSame_ref_other' hne ho2 ho (by simp) hq) (.inr hu) h
theorem rceq_dct_tuple {l b : Addr} {items : Array Value} (hl : DctAt s.heap l) (hb : s.heap.IsTuple b items) (hu : A.units < cLine) : RcAt A s (.ref l) (.ref b) false := fun prog w E Q h => by
  obtain ⟨dd, es, n, sl, ho⟩ := hl
  obtain ⟨⟨cls, dd2, data, sl2⟩, ho2, hc, n2, hd⟩ := id hb
  simp only at hc hd
  subst hc hd
  have hne : l ≠ b := fun e => by subst e; rw [ho] at ho2; simp at ho2
  exact rc_eq_decline_or (k := false) ⟨_, ho, rfl⟩ ⟨_, ho2, rfl⟩ (by decide) F.sub_tuple_dict F.slot_dict_eq F.slot_tuple_eq_refl
    (fun _ hq => call_meets F.slot_dict_eq ⟨_, ho, rfl⟩ F.entry_dict_eq (F.args_dict_eq_2 _ _) (kdct_eq_tuple l b es items n n2 dd dd2 sl sl2) ⟨ho, ho2, hq⟩)
    (fun _ hq => call_meets F.slot_tuple_eq_refl ⟨_, ho2, rfl⟩ F.entry_tuple_eq (F.args_tuple_eq_2 _ _) (ktuple_eq_dct l b es items n n2 dd dd2 sl sl2) ⟨ho, ho2, hq⟩)
    (fun _ hq => wpAny_isSame_ref_other hne ho ho2 (by simp) hq) (.inr hu) h
theorem rceq_tuple_dct {l b : Addr} {items : Array Value} (hl : DctAt s.heap l) (hb : s.heap.IsTuple b items) (hu : A.units < cLine) : RcAt A s (.ref b) (.ref l) false := fun prog w E Q h => by
  obtain ⟨dd, es, n, sl, ho⟩ := hl
  obtain ⟨⟨cls, dd2, data, sl2⟩, ho2, hc, n2, hd⟩ := id hb
  simp only at hc hd
  subst hc hd
  have hne : b ≠ l := fun e => by subst e; rw [ho] at ho2; simp at ho2
  exact rc_eq_decline_or (k := false) ⟨_, ho2, rfl⟩ ⟨_, ho, rfl⟩ (by decide) F.sub_dict_tuple F.slot_tuple_eq F.slot_dict_eq_refl
    (fun _ hq => call_meets F.slot_tuple_eq ⟨_, ho2, rfl⟩ F.entry_tuple_eq (F.args_tuple_eq_2 _ _) (ktuple_eq_dct l b es items n n2 dd dd2 sl sl2) ⟨ho, ho2, hq⟩)
    (fun _ hq => call_meets F.slot_dict_eq_refl ⟨_, ho, rfl⟩ F.entry_dict_eq (F.args_dict_eq_2 _ _) (kdct_eq_tuple l b es items n n2 dd dd2 sl sl2) ⟨ho, ho2, hq⟩)
    (fun _ hq => wpAny_isSame_ref_other' hne ho2 ho (by simp) hq) (.inr hu) h
theorem rcne_dct_none {l : Addr}  (hl : DctAt s.heap l) (hu : A.units < cLine) : RcNeAt A s (.ref l) .none true := fun prog w E Q h => by
  obtain ⟨dd, es, n, sl, ho⟩ := hl
  exact rc_ne_decline_or (k := false) ⟨_, ho, rfl⟩ rfl (by decide) F.sub_NoneType_dict F.slot_dict_ne F.slot_NoneType_ne_refl
    (fun _ hq => call_meets F.slot_dict_ne ⟨_, ho, rfl⟩ F.entry_dict_ne (F.args_dict_ne_2 _ _) (kdct_ne_none l es n dd sl ) ⟨ho, hq⟩)
    (fun _ hq => call_meets F.slot_NoneType_ne_refl rfl F.entry_NoneType_ne (F.args_NoneType_ne_2 _ _) (knone_ne_dct l es n dd sl ) ⟨ho, hq⟩)
    (fun _ hq => wpAny_of_eq (rfl : isSame (.ref l) .none = pure false) hq) (.inr hu) h
theorem rcne_none_dct {l : Addr}  (hl : DctAt s.heap l) (hu : A.units < cLine) : RcNeAt A s .none (.ref l) true := fun prog w E Q h => by
  obtain ⟨dd, es, n, sl, ho⟩ := hl
  exact rc_ne_decline_or (k := false) rfl ⟨_, ho, rfl⟩ (by decide) F.sub_dict_NoneType F.slot_NoneType_ne F.slot_dict_ne_refl
    (fun _ hq => call_meets F.slot_NoneType_ne rfl F.entry_NoneType_ne (F.args_NoneType_ne_2 _ _) (knone_ne_dct l es n dd sl ) ⟨ho, hq⟩)
    (fun _ hq => call_meets F.slot_dict_ne_refl ⟨_, ho, rfl⟩ F.entry_dict_ne (F.args_dict_ne_2 _ _) (kdct_ne_none l es n dd sl ) ⟨ho, hq⟩)
    (fun _ hq => wpAny_of_eq (rfl : isSame .none (.ref l) = pure false) hq) (.inr hu) h
theorem rcne_dct_bool {l : Addr} (b : Bool) (hl : DctAt s.heap l) (hu : A.units < cLine) : RcNeAt A s (.ref l) (.bool b) true := fun prog w E Q h => by
  obtain ⟨dd, es, n, sl, ho⟩ := hl
  exact rc_ne_decline_or (k := false) ⟨_, ho, rfl⟩ rfl (by decide) F.sub_bool_dict F.slot_dict_ne F.slot_bool_ne_refl
    (fun _ hq => call_meets F.slot_dict_ne ⟨_, ho, rfl⟩ F.entry_dict_ne (F.args_dict_ne_2 _ _) (kdct_ne_bool l es n dd sl b) ⟨ho, hq⟩)
    (fun _ hq => call_meets F.slot_bool_ne_refl rfl F.entry_int_ne (F.args_int_ne_2 _ _) (kbool_ne_dct l es n dd sl b) ⟨ho, hq⟩)
    (fun _ hq => wpAny_of_eq (rfl : isSame (.ref l) (.bool b) = pure false) hq) (.inr hu) h
theorem rcne_bool_dct {l : Addr} (b : Bool) (hl : DctAt s.heap l) (hu : A.units < cLine) : RcNeAt A s (.bool b) (.ref l) true := fun prog w E Q h => by
  obtain ⟨dd, es, n, sl, ho⟩ := hl
  exact rc_ne_decline_or (k := false) rfl ⟨_, ho, rfl⟩ (by decide) F.sub_dict_bool F.slot_bool_ne F.slot_dict_ne_refl
    (fun _ hq => call_meets F.slot_bool_ne rfl F.entry_int_ne (F.args_int_ne_2 _ _) (kbool_ne_dct l es n dd sl b) ⟨ho, hq⟩)
    (fun _ hq => call_meets F.slot_dict_ne_refl ⟨_, ho, rfl⟩ F.entry_dict_ne (F.args_dict_ne_2 _ _) (kdct_ne_bool l es n dd sl b) ⟨ho, hq⟩)
    (fun _ hq => wpAny_of_eq (rfl : isSame (.bool b) (.ref l) = pure false) hq) (.inr hu) h
theorem rcne_dct_int {l : Addr} (b : Int) (u : Tok) (hl : DctAt s.heap l) (hu : A.units < cLine) : RcNeAt A s (.ref l) (.int b u) true := fun prog w E Q h => by
  obtain ⟨dd, es, n, sl, ho⟩ := hl
  exact rc_ne_decline_or (k := false) ⟨_, ho, rfl⟩ (typeIs_int s b u) (by decide) F.sub_int_dict F.slot_dict_ne F.slot_int_ne_refl
    (fun _ hq => call_meets F.slot_dict_ne ⟨_, ho, rfl⟩ F.entry_dict_ne (F.args_dict_ne_2 _ _) (kdct_ne_int l es n dd sl b u) ⟨ho, hq⟩)
    (fun _ hq => call_meets F.slot_int_ne_refl (typeIs_int s b u) F.entry_int_ne (F.args_int_ne_2 _ _) (kint_ne_dct l es n dd sl b u) ⟨ho, hq⟩)
    (fun _ hq => wpAny_of_eq (rfl : isSame (.ref l) (.int b u) = pure false) hq) (.inr hu) h
theorem rcne_int_dct {l : Addr} (b : Int) (u : Tok) (hl : DctAt s.heap l) (hu : A.units < cLine) : RcNeAt A s (.int b u) (.ref l) true := fun prog w E Q h => by
  obtain ⟨dd, es, n, sl, ho⟩ := hl
  exact rc_ne_decline_or (k := false) (typeIs_int s b u) ⟨_, ho, rfl⟩ (by decide) F.sub_dict_int F.slot_int_ne F.slot_dict_ne_refl
    (fun _ hq => call_meets F.slot_int_ne (typeIs_int s b u) F.entry_int_ne (F.args_int_ne_2 _ _) (kint_ne_dct l es n dd sl b u) ⟨ho, hq⟩)
    (fun _ hq => call_meets F.slot_dict_ne_refl ⟨_, ho, rfl⟩ F.entry_dict_ne (F.args_dict_ne_2 _ _) (kdct_ne_int l es n dd sl b u) ⟨ho, hq⟩)
    (fun _ hq => wpAny_of_eq (rfl : isSame (.int b u) (.ref l) = pure false) hq) (.inr hu) h
theorem rcne_dct_str {l : Addr} (b : Str) (u : Tok) (hl : DctAt s.heap l) (hu : A.units < cLine) : RcNeAt A s (.ref l) (.str b u) true := fun prog w E Q h => by
  obtain ⟨dd, es, n, sl, ho⟩ := hl
  exact rc_ne_decline_or (k := false) ⟨_, ho, rfl⟩ (typeIs_str s b u) (by decide) F.sub_str_dict F.slot_dict_ne F.slot_str_ne_refl
    (fun _ hq => call_meets F.slot_dict_ne ⟨_, ho, rfl⟩ F.entry_dict_ne (F.args_dict_ne_2 _ _) (kdct_ne_str l es n dd sl b u) ⟨ho, hq⟩)
    (fun _ hq => call_meets F.slot_str_ne_refl (typeIs_str s b u) F.entry_str_ne (F.args_str_ne_2 _ _) (kstr_ne_dct l es n dd sl b u) ⟨ho, hq⟩)
    (fun _ hq => wpAny_of_eq (rfl : isSame (.ref l) (.str b u) = pure false) hq) (.inr hu) h
theorem rcne_str_dct {l : Addr} (b : Str) (u : Tok) (hl : DctAt s.heap l) (hu : A.units < cLine) : RcNeAt A s (.str b u) (.ref l) true := fun prog w E Q h => by
  obtain ⟨dd, es, n, sl, ho⟩ := hl
  exact rc_ne_decline_or (k := false) (typeIs_str s b u) ⟨_, ho, rfl⟩ (by decide) F.sub_dict_str F.slot_str_ne F.slot_dict_ne_refl
    (fun _ hq => call_meets F.slot_str_ne (typeIs_str s b u) F.entry_str_ne (F.args_str_ne_2 _ _) (kstr_ne_dct l es n dd sl b u) ⟨ho, hq⟩)
    (fun _ hq => call_meets F.slot_dict_ne_refl ⟨_, ho, rfl⟩ F.entry_dict_ne (F.args_dict_ne_2 _ _) (kdct_ne_str l es n dd sl b u) ⟨ho, hq⟩)
    (fun _ hq => wpAny_of_eq (rfl : isSame (.str b u) (.ref l) = pure false) hq) (.inr hu) h
theorem rcne_dct_list {l b : Addr} {items : Array Value} (hl : DctAt s.heap l) (hb : s.heap.IsList b items) (hu : A.units < cLine) : RcNeAt A s (.ref l) (.ref b) true := fun prog w E Q h => by
  obtain ⟨dd, es, n, sl, ho⟩ := hl
  obtain ⟨⟨cls, dd2, data, sl2⟩, ho2, hc, n2, hd⟩ := id hb
  simp only at hc hd
  subst hc hd
  have hne : l ≠ b := fun e => by subst e; rw [ho] at ho2; simp at ho2
  exact rc_ne_decline_or (k := false) ⟨_, ho, rfl⟩ ⟨_, ho2, rfl⟩ (by decide) F.sub_list_dict F.slot_dict_ne F.slot_list_ne_refl
    (fun _ hq => call_meets F.slot_dict_ne ⟨_, ho, rfl⟩ F.entry_dict_ne (F.args_dict_ne_2 _ _) (kdct_ne_list l b es items n n2 dd dd2 sl sl2) ⟨ho, ho2, hq⟩)
    (fun _ hq => call_meets F.slot_list_ne_refl ⟨_, ho2, rfl⟩ F.entry_list_ne (F.args_list_ne_2 _ _) (klist_ne_dct l b es items n n2 dd dd2 sl sl2) ⟨ho, ho2, hq⟩)
    (fun _ hq => wpAny_isSame_ref_other hne ho ho2 (by simp) hq) (.inr hu) h
theorem rcne_list_dct {l b : Addr} {items : Array Value} (hl : DctAt s.heap l) (hb : s.heap.IsList b items) (hu : A.units < cLine) : RcNeAt A s (.ref b) (.ref l) true := fun prog w E Q h => by
  obtain ⟨dd, es, n, sl, ho⟩ := hl
  obtain ⟨⟨cls, dd2, data, sl2⟩, ho2, hc, n2, hd⟩ := id hb
  simp only at hc hd
  subst hc hd
  have hne : b ≠ l := fun e => by subst e; rw [ho] at ho2; simp at ho2
  exact rc_ne_decline_or (k := false) ⟨_, ho2, rfl⟩ ⟨_, ho, rfl⟩ (by decide) F.sub_dict_list F.slot_list_ne F.slot_dict_ne_refl
    (fun _ hq => call_meets F.slot_list_ne ⟨_, ho2, rfl⟩ F.entry_list_ne (F.args_list_ne_2 _ _) (klist_ne_dct l b es items n n2 dd dd2 sl sl2) ⟨ho, ho2, hq⟩)
    (fun _ hq => call_meets F.slot_dict_ne_refl ⟨_, ho, rfl⟩ F.entry_dict_ne (F.args_dict_ne_2 _ _) (kdct_ne_list l b es items n n2 dd dd2 sl sl2) ⟨ho, ho2, hq⟩)
    (fun _ hq => wpAny_isSame_ref_other' hne ho2 ho (by simp) hq) (.inr hu) h
theorem rcne_dct_tuple {l b : Addr} {items : Array Value} (hl : DctAt s.heap l) (hb : s.heap.IsTuple b items) (hu : A.units < cLine) : RcNeAt A s (.ref l) (.ref b) true := fun prog w E Q h => by
  obtain ⟨dd, es, n, sl, ho⟩ := hl
  obtain ⟨⟨cls, dd2, data, sl2⟩, ho2, hc, n2, hd⟩ := id hb
  simp only at hc hd
  subst hc hd
  have hne : l ≠ b := fun e => by subst e; rw [ho] at ho2; simp at ho2
  exact rc_ne_decline_or (k := false) ⟨_, ho, rfl⟩ ⟨_, ho2, rfl⟩ (by decide) F.sub_tuple_dict F.slot_dict_ne F.slot_tuple_ne_refl
    (fun _ hq => call_meets F.slot_dict_ne ⟨_, ho, rfl⟩ F.entry_dict_ne (F.args_dict_ne_2 _ _) (kdct_ne_tuple l b es items n n2 dd dd2 sl sl2) ⟨ho, ho2, hq⟩)
    (fun _ hq => call_meets F.slot_tuple_ne_refl ⟨_, ho2, rfl⟩ F.entry_tuple_ne (F.args_tuple_ne_2 _ _) (ktuple_ne_dct l b es items n n2 dd dd2 sl sl2) ⟨ho, ho2, hq⟩)
    (fun _ hq => wpAny_isSame_ref_other hne ho ho2 (by simp) hq) (.inr hu) h
theorem rcne_tuple_dct {l b : Addr} {items : Array Value} (hl : DctAt s.heap l) (hb : s.heap.IsTuple b items) (hu : A.units < cLine) : RcNeAt A s (.ref b) (.ref l) true := fun prog w E Q h => by
  obtain ⟨dd, es, n, sl, ho⟩ := hl
  obtain ⟨⟨cls, dd2, data, sl2⟩, ho2, hc, n2, hd⟩ := id hb
  simp only at hc hd
  subst hc hd
  have hne : b ≠ l := fun e => by subst e; rw [ho] at ho2; simp at ho2
  exact rc_ne_decline_or (k := false) ⟨_, ho2, rfl⟩ ⟨_, ho, rfl⟩ (by decide) F.sub_dict_tuple F.slot_tuple_ne F.slot_dict_ne_refl
    (fun _ hq => call_meets F.slot_tuple_ne ⟨_, ho2, rfl⟩ F.entry_tuple_ne (F.args_tuple_ne_2 _ _) (ktuple_ne_dct l b es items n n2 dd dd2 sl sl2) ⟨ho, ho2, hq⟩)
    (fun _ hq => call_meets F.slot_dict_ne_refl ⟨_, ho, rfl⟩ F.entry_dict_ne (F.args_dict_ne_2 _ _) (kdct_ne_tuple l b es items n n2 dd dd2 sl sl2) ⟨ho, ho2, hq⟩)
    (fun _ hq => wpAny_isSame_ref_other' hne ho2 ho (by simp) hq) (.inr hu) h
end
inductive Kd where
  | non | num | str | tup | lst | dct
  deriving DecidableEq
def KdAt (h : Heap) (u : Value) : Kd → Prop
  | .non => u = .none
  | .num => (∃ b, u = .bool b) ∨ ∃ i t, u = .int i t
  | .str => ∃ x t, u = .str x t
  | .tup => ∃ (l : Addr) (its : Array Value), u = .ref l ∧ h.IsTuple l its
  | .lst => ∃ (l : Addr) (its : Array Value), u = .ref l ∧ h.IsList l its
  | .dct => ∃ l : Addr, u = .ref l ∧ DctAt h l
def RcBoth (A : Around) (s : Shared) (u v : Value) : Prop := RcAt A s u v false ∧ RcNeAt A s u v true
section
variable {A : Around} {s : Shared}
theorem rcb_non_num {u v : Value} (a : KdAt s.heap u .non) (b : KdAt s.heap v .num) (hu : A.units < cLine) : RcBoth A s u v := by
  cases (show u = Value.none from a)
  rcases b with ⟨b2, rfl⟩ | ⟨i2, t2, rfl⟩
  · exact ⟨RcAt.none_bool b2, RcNeAt.none_bool b2⟩
  · exact ⟨RcAt.none_int i2 t2, RcNeAt.none_int i2 t2⟩
theorem rcb_non_str {u v : Value} (a : KdAt s.heap u .non) (b : KdAt s.heap v .str) (hu : A.units < cLine) : RcBoth A s u v := by
  cases (show u = Value.none from a)
  rcases b with ⟨x2, t2, rfl⟩
  exact ⟨RcAt.none_str x2 t2, RcNeAt.none_str x2 t2⟩
theorem rcb_non_tup {u v : Value} (a : KdAt s.heap u .non) (b : KdAt s.heap v .tup) (hu : A.units < cLine) : RcBoth A s u v := by
  cases (show u = Value.none from a)
  rcases b with ⟨l2, s2, rfl, h2⟩
  exact ⟨RcAt.none_tuple h2 hu, RcNeAt.none_tuple h2 hu⟩
theorem rcb_non_lst {u v : Value} (a : KdAt s.heap u .non) (b : KdAt s.heap v .lst) (hu : A.units < cLine) : RcBoth A s u v := by
  cases (show u = Value.none from a)
  rcases b with ⟨l2, s2, rfl, h2⟩
  exact ⟨RcAt.none_list h2 hu, RcNeAt.none_list h2 hu⟩
theorem rcb_non_dct {u v : Value} (a : KdAt s.heap u .non) (b : KdAt s.heap v .dct) (hu : A.units < cLine) : RcBoth A s u v := by
  cases (show u = Value.none from a)
  rcases b with ⟨l2, rfl, h2⟩
  exact ⟨rceq_none_dct h2 hu, rcne_none_dct h2 hu⟩
theorem rcb_num_non {u v : Value} (a : KdAt s.heap u .num) (b : KdAt s.heap v .non) (hu : A.units < cLine) : RcBoth A s u v := by
  rcases a with ⟨b1, rfl⟩ | ⟨i1, t1, rfl⟩
  · cases (show v = Value.none from b)
    exact ⟨RcAt.bool_none b1, RcNeAt.bool_none b1⟩
  · cases (show v = Value.none from b)
    exact ⟨RcAt.int_none i1 t1, RcNeAt.int_none i1 t1⟩
theorem rcb_num_str {u v : Value} (a : KdAt s.heap u .num) (b : KdAt s.heap v .str) (hu : A.units < cLine) : RcBoth A s u v := by
  rcases a with ⟨b1, rfl⟩ | ⟨i1, t1, rfl⟩
  · rcases b with ⟨x2, t2, rfl⟩
    exact ⟨RcAt.bool_str b1 x2 t2, RcNeAt.bool_str b1 x2 t2⟩
  · rcases b with ⟨x2, t2, rfl⟩
    exact ⟨RcAt.int_str i1 t1 x2 t2, RcNeAt.int_str i1 t1 x2 t2⟩
theorem rcb_num_tup {u v : Value} (a : KdAt s.heap u .num) (b : KdAt s.heap v .tup) (hu : A.units < cLine) : RcBoth A s u v := by
  rcases a with ⟨b1, rfl⟩ | ⟨i1, t1, rfl⟩
  · rcases b with ⟨l2, s2, rfl, h2⟩
    exact ⟨RcAt.bool_tuple b1 h2 hu, RcNeAt.bool_tuple b1 h2 hu⟩
  · rcases b with ⟨l2, s2, rfl, h2⟩
    exact ⟨RcAt.int_tuple i1 t1 h2 hu, RcNeAt.int_tuple i1 t1 h2 hu⟩
theorem rcb_num_lst {u v : Value} (a : KdAt s.heap u .num) (b : KdAt s.heap v .lst) (hu : A.units < cLine) : RcBoth A s u v := by
  rcases a with ⟨b1, rfl⟩ | ⟨i1, t1, rfl⟩
  · rcases b with ⟨l2, s2, rfl, h2⟩
    exact ⟨RcAt.bool_list b1 h2 hu, RcNeAt.bool_list b1 h2 hu⟩
  · rcases b with ⟨l2, s2, rfl, h2⟩
    exact ⟨RcAt.int_list i1 t1 h2 hu, RcNeAt.int_list i1 t1 h2 hu⟩
theorem rcb_num_dct {u v : Value} (a : KdAt s.heap u .num) (b : KdAt s.heap v .dct) (hu : A.units < cLine) : RcBoth A s u v := by
  rcases a with ⟨b1, rfl⟩ | ⟨i1, t1, rfl⟩
  · rcases b with ⟨l2, rfl, h2⟩
    exact ⟨rceq_bool_dct b1 h2 hu, rcne_bool_dct b1 h2 hu⟩
  · rcases b with ⟨l2, rfl, h2⟩
    exact ⟨rceq_int_dct i1 t1 h2 hu, rcne_int_dct i1 t1 h2 hu⟩
theorem rcb_str_non {u v : Value} (a : KdAt s.heap u .str) (b : KdAt s.heap v .non) (hu : A.units < cLine) : RcBoth A s u v := by
  rcases a with ⟨x1, t1, rfl⟩
  cases (show v = Value.none from b)
  exact ⟨RcAt.str_none x1 t1, RcNeAt.str_none x1 t1⟩
theorem rcb_str_num {u v : Value} (a : KdAt s.heap u .str) (b : KdAt s.heap v .num) (hu : A.units < cLine) : RcBoth A s u v := by
  rcases a with ⟨x1, t1, rfl⟩
  rcases b with ⟨b2, rfl⟩ | ⟨i2, t2, rfl⟩
  · exact ⟨RcAt.str_bool x1 t1 b2, RcNeAt.str_bool x1 t1 b2⟩
  · exact ⟨RcAt.str_int x1 t1 i2 t2, RcNeAt.str_int x1 t1 i2 t2⟩
theorem rcb_str_tup {u v : Value} (a : KdAt s.heap u .str) (b : KdAt s.heap v .tup) (hu : A.units < cLine) : RcBoth A s u v := by
  rcases a with ⟨x1, t1, rfl⟩
  rcases b with ⟨l2, s2, rfl, h2⟩
  exact ⟨RcAt.str_tuple x1 t1 h2 hu, RcNeAt.str_tuple x1 t1 h2 hu⟩
theorem rcb_str_lst {u v : Value} (a : KdAt s.heap u .str) (b : KdAt s.heap v .lst) (hu : A.units < cLine) : RcBoth A s u v := by
  rcases a with ⟨x1, t1, rfl⟩
  rcases b with ⟨l2, s2, rfl, h2⟩
  exact ⟨RcAt.str_list x1 t1 h2 hu, RcNeAt.str_list x1 t1 h2 hu⟩
theorem rcb_str_dct {u v : Value} (a : KdAt s.heap u .str) (b : KdAt s.heap v .dct) (hu : A.units < cLine) : RcBoth A s u v := by
  rcases a with ⟨x1, t1, rfl⟩
  rcases b with ⟨l2, rfl, h2⟩
  exact ⟨rceq_str_dct x1 t1 h2 hu, rcne_str_dct x1 t1 h2 hu⟩
theorem rcb_tup_non {u v : Value} (a : KdAt s.heap u .tup) (b : KdAt s.heap v .non) (hu : A.units < cLine) : RcBoth A s u v := by
  rcases a with ⟨l1, s1, rfl, h1⟩
  cases (show v = Value.none from b)
  exact ⟨RcAt.tuple_none h1 hu, RcNeAt.tuple_none h1 hu⟩
theorem rcb_tup_num {u v : Value} (a : KdAt s.heap u .tup) (b : KdAt s.heap v .num) (hu : A.units < cLine) : RcBoth A s u v := by
  rcases a with ⟨l1, s1, rfl, h1⟩
  rcases b with ⟨b2, rfl⟩ | ⟨i2, t2, rfl⟩
  · exact ⟨RcAt.tuple_bool b2 h1 hu, RcNeAt.tuple_bool b2 h1 hu⟩
  · exact ⟨RcAt.tuple_int i2 t2 h1 hu, RcNeAt.tuple_int i2 t2 h1 hu⟩
theorem rcb_tup_str {u v : Value} (a : KdAt s.heap u .tup) (b : KdAt s.heap v .str) (hu : A.units < cLine) : RcBoth A s u v := by
  rcases a with ⟨l1, s1, rfl, h1⟩
  rcases b with ⟨x2, t2, rfl⟩
  exact ⟨RcAt.tuple_str x2 t2 h1 hu, RcNeAt.tuple_str x2 t2 h1 hu⟩
theorem rcb_tup_lst {u v : Value} (a : KdAt s.heap u .tup) (b : KdAt s.heap v .lst) (hu : A.units < cLine) : RcBoth A s u v := by
  rcases a with ⟨l1, s1, rfl, h1⟩
  rcases b with ⟨l2, s2, rfl, h2⟩
  exact ⟨RcAt.tuple_list h1 h2 hu, RcNeAt.tuple_list h1 h2 hu⟩
theorem rcb_tup_dct {u v : Value} (a : KdAt s.heap u .tup) (b : KdAt s.heap v .dct) (hu : A.units < cLine) : RcBoth A s u v := by
  rcases a with ⟨l1, s1, rfl, h1⟩
  rcases b with ⟨l2, rfl, h2⟩
  exact ⟨rceq_tuple_dct h2 h1 hu, rcne_tuple_dct h2 h1 hu⟩
theorem rcb_lst_non {u v : Value} (a : KdAt s.heap u .lst) (b : KdAt s.heap v .non) (hu : A.units < cLine) : RcBoth A s u v := by
  rcases a with ⟨l1, s1, rfl, h1⟩
  cases (show v = Value.none from b)
  exact ⟨RcAt.list_none h1 hu, RcNeAt.list_none h1 hu⟩
theorem rcb_lst_num {u v : Value} (a : KdAt s.heap u .lst) (b : KdAt s.heap v .num) (hu : A.units < cLine) : RcBoth A s u v := by
  rcases a with ⟨l1, s1, rfl, h1⟩
  rcases b with ⟨b2, rfl⟩ | ⟨i2, t2, rfl⟩
  · exact ⟨RcAt.list_bool b2 h1 hu, RcNeAt.list_bool b2 h1 hu⟩
  · exact ⟨RcAt.list_int i2 t2 h1 hu, RcNeAt.list_int i2 t2 h1 hu⟩
theorem rcb_lst_str {u v : Value} (a : KdAt s.heap u .lst) (b : KdAt s.heap v .str) (hu : A.units < cLine) : RcBoth A s u v := by
  rcases a with ⟨l1, s1, rfl, h1⟩
  rcases b with ⟨x2, t2, rfl⟩
  exact ⟨RcAt.list_str x2 t2 h1 hu, RcNeAt.list_str x2 t2 h1 hu⟩
theorem rcb_lst_tup {u v : Value} (a : KdAt s.heap u .lst) (b : KdAt s.heap v .tup) (hu : A.units < cLine) : RcBoth A s u v := by
  rcases a with ⟨l1, s1, rfl, h1⟩
  rcases b with ⟨l2, s2, rfl, h2⟩
  exact ⟨RcAt.list_tuple h1 h2 hu, RcNeAt.list_tuple h1 h2 hu⟩
theorem rcb_lst_dct {u v : Value} (a : KdAt s.heap u .lst) (b : KdAt s.heap v .dct) (hu : A.units < cLine) : RcBoth A s u v := by
  rcases a with ⟨l1, s1, rfl, h1⟩
  rcases b with ⟨l2, rfl, h2⟩
  exact ⟨rceq_list_dct h2 h1 hu, rcne_list_dct h2 h1 hu⟩
theorem rcb_dct_non {u v : Value} (a : KdAt s.heap u .dct) (b : KdAt s.heap v .non) (hu : A.units < cLine) : RcBoth A s u v := by
  rcases a with ⟨l1, rfl, h1⟩
  cases (show v = Value.none from b)
  exact ⟨rceq_dct_none h1 hu, rcne_dct_none h1 hu⟩
theorem rcb_dct_num {u v : Value} (a : KdAt s.heap u .dct) (b : KdAt s.heap v .num) (hu : A.units < cLine) : RcBoth A s u v := by
  rcases a with ⟨l1, rfl, h1⟩
  rcases b with ⟨b2, rfl⟩ | ⟨i2, t2, rfl⟩
  · exact ⟨rceq_dct_bool b2 h1 hu, rcne_dct_bool b2 h1 hu⟩
  · exact ⟨rceq_dct_int i2 t2 h1 hu, rcne_dct_int i2 t2 h1 hu⟩
theorem rcb_dct_str {u v : Value} (a : KdAt s.heap u .dct) (b : KdAt s.heap v .str) (hu : A.units < cLine) : RcBoth A s u v := by
  rcases a with ⟨l1, rfl, h1⟩
  rcases b with ⟨x2, t2, rfl⟩
  exact ⟨rceq_dct_str x2 t2 h1 hu, rcne_dct_str x2 t2 h1 hu⟩
theorem rcb_dct_tup {u v : Value} (a : KdAt s.heap u .dct) (b : KdAt s.heap v .tup) (hu : A.units < cLine) : RcBoth A s u v := by
  rcases a with ⟨l1, rfl, h1⟩
  rcases b with ⟨l2, s2, rfl, h2⟩
  exact ⟨rceq_dct_tuple h1 h2 hu, rcne_dct_tuple h1 h2 hu⟩
theorem rcb_dct_lst {u v : Value} (a : KdAt s.heap u .dct) (b : KdAt s.heap v .lst) (hu : A.units < cLine) : RcBoth A s u v := by
  rcases a with ⟨l1, rfl, h1⟩
  rcases b with ⟨l2, s2, rfl, h2⟩
  exact ⟨rceq_dct_list h1 h2 hu, rcne_dct_list h1 h2 hu⟩
theorem rcb_of {u v : Value} {k l : Kd} (a : KdAt s.heap u k) (b : KdAt s.heap v l) (hn : k ≠ l) (hu : A.units < cLine) : RcBoth A s u v := by
  cases k <;> cases l <;> first
    | exact absurd rfl hn
    | exact rcb_non_num a b hu
    | exact rcb_non_str a b hu
    | exact rcb_non_tup a b hu
    | exact rcb_non_lst a b hu
    | exact rcb_non_dct a b hu
    | exact rcb_num_non a b hu
    | exact rcb_num_str a b hu
    | exact rcb_num_tup a b hu
    | exact rcb_num_lst a b hu
    | exact rcb_num_dct a b hu
    | exact rcb_str_non a b hu
    | exact rcb_str_num a b hu
    | exact rcb_str_tup a b hu
    | exact rcb_str_lst a b hu
    | exact rcb_str_dct a b hu
    | exact rcb_tup_non a b hu
    | exact rcb_tup_num a b hu
    | exact rcb_tup_str a b hu
    | exact rcb_tup_lst a b hu
    | exact rcb_tup_dct a b hu
    | exact rcb_lst_non a b hu
    | exact rcb_lst_num a b hu
    | exact rcb_lst_str a b hu
    | exact rcb_lst_tup a b hu
    | exact rcb_lst_dct a b hu
    | exact rcb_dct_non a b hu
    | exact rcb_dct_num a b hu
    | exact rcb_dct_str a b hu
    | exact rcb_dct_tup a b hu
    | exact rcb_dct_lst a b hu
end
end Dl

namespace Dl
open PySem PySem.Spec PyProof.Rows L2

/-! ### expressions -/
def dVar (i : Nat) (X : DXK) (ρ : Ro) (G : GH) (Q : DK) : Prop := match ρ[i]? with
  | some (some d) => Q d G
  | _ => False
def dC (d : D) (X : DXK) (ρ : Ro) (G : GH) (Q : DK) : Prop := Q d G
def dBin (r : R2D) (ta tb : TED) (X : DXK) (ρ : Ro) (G : GH) (Q : DK) : Prop := ta X ρ G fun x G1 => tb X ρ G1 fun y G2 => r x y G2 Q
def dUn (r : R1D) (ta : TED) (X : DXK) (ρ : Ro) (G : GH) (Q : DK) : Prop := ta X ρ G fun x G1 => r x G1 Q
def dChain (r r' : R2D) (ta tb tc : TED) (X : DXK) (ρ : Ro) (G : GH) (Q : DK) : Prop := ta X ρ G fun x G1 => tb X ρ G1 fun y G2 => r x y G2 fun z G3 => match z with
  | .bl true => tc X ρ G3 fun w G4 => r' y w G4 Q
  | .bl false => Q (.bl false) G3
  | _ => False
/-- truth of a value -/
def truD (G : GH) : D → Option Bool
  | .non => some false
  | .bl b => some b
  | .int i => some (i != 0)
  | .str x => if x.length ≤ sizeLine then some (x.length != 0) else none
  | .tup ds => some (!ds.isEmpty)
  | .ref a => match G a with
    | some (.lst ds) => some (!ds.isEmpty)
    | some (.fro ds) => some (!ds.isEmpty)
    | some (.dct kvs) => some (!kvs.isEmpty)
    | _ => none
  | .ty _ => none
def rTru (x : D) (G : GH) (Q : Bool → GH → Prop) : Prop := match truD G x with
  | some b => Q b G
  | none => False
def dTru (ta : TED) (X : DXK) (ρ : Ro) (G : GH) (Q : Bool → GH → Prop) : Prop := ta X ρ G fun x G1 => rTru x G1 Q
def dIte (b : Bool) (p q : Prop) : Prop := (b = true → p) ∧ (b = false → q)
def dTAnd (ta tb : TTD) (X : DXK) (ρ : Ro) (G : GH) (Q : Bool → GH → Prop) : Prop := ta X ρ G fun b G1 => dIte b (tb X ρ G1 Q) (Q false G1)
def dTOr (ta tb : TTD) (X : DXK) (ρ : Ro) (G : GH) (Q : Bool → GH → Prop) : Prop := ta X ρ G fun b G1 => dIte b (Q true G1) (tb X ρ G1 Q)
def dTNot (ta : TTD) (X : DXK) (ρ : Ro) (G : GH) (Q : Bool → GH → Prop) : Prop := ta X ρ G fun b G1 => Q (!b) G1
def dAnd (ta tb : TED) (X : DXK) (ρ : Ro) (G : GH) (Q : DK) : Prop := ta X ρ G fun x G1 => rTru x G1 fun b G2 => dIte b (tb X ρ G2 Q) (Q x G2)
def dOr (ta tb : TED) (X : DXK) (ρ : Ro) (G : GH) (Q : DK) : Prop := ta X ρ G fun x G1 => rTru x G1 fun b G2 => dIte b (Q x G2) (tb X ρ G2 Q)
def dNot (ta : TED) (X : DXK) (ρ : Ro) (G : GH) (Q : DK) : Prop := ta X ρ G fun x G1 => rTru x G1 fun b G2 => Q (.bl (!b)) G2
def dIf (t : TTD) (ta tb : TED) (X : DXK) (ρ : Ro) (G : GH) (Q : DK) : Prop := t X ρ G fun b G1 => dIte b (ta X ρ G1 Q) (tb X ρ G1 Q)
def dNil (X : DXK) (ρ : Ro) (G : GH) (Q : List D → GH → Prop) : Prop := Q [] G
def dCons (ta : TED) (tr : TAD) (X : DXK) (ρ : Ro) (G : GH) (Q : List D → GH → Prop) : Prop := ta X ρ G fun x G1 => tr X ρ G1 fun xs G2 => Q (x :: xs) G2
def dTup (t : TAD) (X : DXK) (ρ : Ro) (G : GH) (Q : DK) : Prop := t X ρ G fun xs G1 => xs.length ≤ sizeLine ∧ Q (.tup xs) G1
def dLst (t : TAD) (X : DXK) (ρ : Ro) (G : GH) (Q : DK) : Prop := t X ρ G fun xs G1 => xs.length ≤ sizeLine ∧ ∀ p, G1 p = none → Q (.ref p) (gup G1 p (.lst xs))
/-- a built-in called by value -/
def dB (r : RLD) (t : TAD) (X : DXK) (ρ : Ro) (G : GH) (Q : DK) : Prop := t X ρ G fun xs G1 => r xs G1 Q

theorem ite_of {b : Bool} {p q : Prop} (h : dIte b p q) : if b = true then p else q := by
  cases b with
  | true => rw [if_pos rfl]; exact h.1 rfl
  | false => rw [if_neg Bool.false_ne_true]; exact h.2 rfl

section
variable {Θ : AbsI} {K : PySem.W.Frag} {W : WX} {σ : L2.St} {H : Hp} {ρ : Ro} {G : GH} {F : Hp} {DX : DXK}
theorem lowE_mk {td : TED} {Q : DK} {R : VK} (e : EnvIs K H ρ σ) (r : Rep Θ K H G F) (x : XTo Θ K W DX H F) (h : td DX ρ G Q)
    (k : ∀ v H' d G', Ext K H H' → Is K H' d v → Rep Θ K H' G' F → Q d G' → R v H') : lowE Θ K W td σ H R := ⟨ρ, G, F, Q, DX, e, r, h, x, k⟩
theorem lowT_mk {td : TTD} {Q : Bool → GH → Prop} {R : Bool → Hp → Prop} (e : EnvIs K H ρ σ) (r : Rep Θ K H G F) (x : XTo Θ K W DX H F) (h : td DX ρ G Q)
    (k : ∀ b H' G', Ext K H H' → Rep Θ K H' G' F → Q b G' → R b H') : lowT Θ K W td σ H R := ⟨ρ, G, F, Q, DX, e, r, h, x, k⟩
theorem lowA_mk {td : TAD} {Q : List D → GH → Prop} {R : List V → Hp → Prop} (e : EnvIs K H ρ σ) (r : Rep Θ K H G F) (x : XTo Θ K W DX H F) (h : td DX ρ G Q)
    (k : ∀ v H' d G', Ext K H H' → IsL K H' d v → Rep Θ K H' G' F → Q d G' → R v H') : lowA Θ K W td σ H R := ⟨ρ, G, F, Q, DX, e, r, h, x, k⟩
end

section
variable {X : Cx} {Θ : AbsI} {W : WX} {a b c : Expr} {ta tb tc : TED} {pos : Pos}
theorem de_var {i : Nat} {x : Str} (hN : X.N[i]? = some x) (hv : Vis X.env.scope x) (hd : (x == ("__debug__" : Str)) = false) (hc : (x == ("__classdict__" : Str)) = false) : PE X (.Name x pos) (lowE Θ X.K W (dVar i)) :=
  (pe_var hN hv hd hc).weak fun σ H R ⟨ρ, G, F, Q, DX, e, r, h, x, k⟩ => by
    unfold dVar at h
    cases q : ρ[i]? with
    | none => rw [q] at h; exact h.elim
    | some o =>
      cases o with
      | none => rw [q] at h; exact h.elim
      | some d =>
        rw [q] at h
        obtain ⟨v, h1, h2⟩ := e.at_ i d q
        exact ⟨v, h1, k _ _ _ _ Ext.refl h2 r h⟩
theorem de_c {e : Expr} {v : V} {d : D} (h : PE X e (tC v)) (i : ∀ H, Is X.K H d v) : PE X e (lowE Θ X.K W (dC d)) :=
  h.weak fun σ H R ⟨ρ, G, F, Q, DX, e, r, h, x, k⟩ => k _ _ _ _ Ext.refl (i H) r h
theorem de_int {i j} : PE X (.Constant (.int i) j pos) (lowE Θ X.K W (dC (.int i))) := de_c pe_int fun _ => rfl
theorem de_bl {i j} : PE X (.Constant (.bool i) j pos) (lowE Θ X.K W (dC (.bl i))) := de_c pe_bl fun _ => rfl
theorem de_non {j} : PE X (.Constant .none j pos) (lowE Θ X.K W (dC .non)) := de_c pe_non fun _ => rfl
theorem de_str {i j} : PE X (.Constant (.str i) j pos) (lowE Θ X.K W (dC (.str i))) := de_c pe_str fun _ => rfl
theorem low_bin {r : R2D} {r' : R2} {t : TE} (ht : ∀ σ H R, tOp (lowR2 Θ X.K r) (lowE Θ X.K W ta) (lowE Θ X.K W tb) σ H R → t σ H R) (σ : L2.St) (H : Hp) (R : VK) (h : lowE Θ X.K W (dBin r ta tb) σ H R) : t σ H R := by
  obtain ⟨ρ, G, F, Q, DX, e, rr, h, x, k⟩ := h
  refine ht _ _ _ (lowE_mk e rr x h fun v H1 d G1 e1 i1 r1 q1 => lowE_mk (e.ext e1) r1 (x.ext e1) q1 fun u H2 d2 G2 e2 i2 r2 q2 => ?_)
  exact ⟨G2, F, d, d2, Q, r2, i1.ext e2 d, i2, q2, fun w H3 d3 G3 e3 i3 r3 q3 => k w H3 d3 G3 (e1.trans (e2.trans e3)) i3 r3 q3⟩
theorem de_bin {op : Operator} {r : R2D} (ho : OpR X (binaryOp op) (lowR2 Θ X.K r)) (ha : PE X a (lowE Θ X.K W ta)) (hb : PE X b (lowE Θ X.K W tb)) : PE X (.BinOp a op b pos) (lowE Θ X.K W (dBin r ta tb)) :=
  (pe_op ho ha hb).weak (low_bin (r' := lowR2 Θ X.K r) fun _ _ _ h => h)
theorem de_cmp {op : CmpOp} {r : R2D} (ho : OpR X (compareOp op) (lowR2 Θ X.K r)) (ha : PE X a (lowE Θ X.K W ta)) (hb : PE X b (lowE Θ X.K W tb)) (hm : behindInMarks op b = false) : PE X (.Compare a [op] [b] pos) (lowE Θ X.K W (dBin r ta tb)) :=
  (pe_cmpR ho ha hb hm).weak (low_bin (r' := lowR2 Θ X.K r) fun _ _ _ h => h)
theorem de_un {op : UnaryOp} {r : R1D} (ho : UnR X (unaryOp op) (lowR1 Θ X.K r)) (ha : PE X a (lowE Θ X.K W ta)) : PE X (.UnaryOp op a pos) (lowE Θ X.K W (dUn r ta)) :=
  (pe_un ho ha).weak fun σ H R ⟨ρ, G, F, Q, DX, e, rr, h, x, k⟩ => lowE_mk e rr x h fun v H1 d G1 e1 i1 r1 q1 => ⟨G1, F, d, Q, r1, i1, q1, fun w H3 d3 G3 e3 i3 r3 q3 => k w H3 d3 G3 (e1.trans e3) i3 r3 q3⟩
theorem de_chain {op op' : CmpOp} {r r' : R2D} (ho : OpR X (compareOp op) (lowR2 Θ X.K r)) (ho' : OpR X (compareOp op') (lowR2 Θ X.K r')) (ha : PE X a (lowE Θ X.K W ta)) (hb : PE X b (lowE Θ X.K W tb)) (hc : PE X c (lowE Θ X.K W tc))
    (hm : lastMarks [op, op'] [b, c] = false) : PE X (.Compare a [op, op'] [b, c] pos) (lowE Θ X.K W (dChain r r' ta tb tc)) :=
  (pe_chain ho ho' ha hb hc hm).weak fun σ H R ⟨ρ, G, F, Q, DX, e, rr, h, x, k⟩ => by
    refine lowE_mk e rr x h fun v H1 d G1 e1 i1 r1 q1 => lowE_mk (e.ext e1) r1 (x.ext e1) q1 fun u H2 d2 G2 e2 i2 r2 q2 => ?_
    refine ⟨G2, F, d, d2, _, r2, i1.ext e2 d, i2, q2, fun w H3 d3 G3 e3 i3 r3 q3 => ?_⟩
    cases d3 with
    | bl z =>
      refine ⟨z, i3, ?_⟩
      cases z with
      | true =>
        rw [if_pos rfl]
        refine lowE_mk (e.ext (e1.trans (e2.trans e3))) r3 (x.ext (e1.trans (e2.trans e3))) q3 fun u4 H4 d4 G4 e4 i4 r4 q4 => ?_
        exact ⟨G4, F, d2, d4, Q, r4, i2.ext (e3.trans e4) d2, i4, q4, fun w H5 d5 G5 e5 i5 r5 q5 => k w H5 d5 G5 (e1.trans (e2.trans (e3.trans (e4.trans e5)))) i5 r5 q5⟩
      | false =>
        rw [if_neg Bool.false_ne_true]
        exact k _ _ _ _ (e1.trans (e2.trans e3)) .bl r3 q3
    | _ => exact q3.elim
theorem tru_low {x : D} {G : GH} {F : Hp} {H : Hp} {v : V} {Q : Bool → GH → Prop} (r : Rep Θ X.K H G F) (i : Is X.K H x v) (h : rTru x G Q) : ∃ b, TruV X.K v H b ∧ Q b G := by
  unfold rTru at h
  cases e : truD G x with
  | none => rw [e] at h; exact h.elim
  | some b =>
    rw [e] at h
    refine ⟨b, ?_, h⟩
    cases x with
    | non => cases i; simp only [truD, Option.some.injEq] at e; exact e.symm
    | bl z => cases i; simp only [truD, Option.some.injEq] at e; exact e.symm
    | int z => cases i; simp only [truD, Option.some.injEq] at e; exact e.symm
    | str z =>
      cases i
      simp only [truD] at e
      split at e
      · rename_i hl
        refine ⟨hl, ?_⟩
        cases e
        have h1 : ((z.length : Int) != 0) = (z.length != 0) := by
          rw [Bool.eq_iff_iff, bne_iff_ne, bne_iff_ne]; omega
        rw [h1]
      · cases e
    | tup ds =>
      obtain ⟨a, xs, h1, h2, h3⟩ := i
      subst h1
      simp only [truD, Option.some.injEq] at e
      refine .inr (.inl ⟨xs, h2, ?_⟩)
      have := h3.len
      cases ds <;> cases xs <;> simp_all
    | ref a =>
      cases i
      simp only [truD] at e
      cases q : G a with
      | none => rw [q] at e; cases e
      | some mo =>
        rw [q] at e
        cases mo with
        | lst ds =>
          obtain ⟨xs, h1, h2⟩ := r.lst q
          have := h2.len
          refine .inl ⟨xs, SqL.of h1, ?_⟩
          cases ds <;> cases xs <;> simp_all
        | fro ds =>
          obtain ⟨o, xs, h1, h2⟩ := r.fro q
          have := h2.len
          refine .inl ⟨xs, .inl (.inr ⟨o, h1⟩), ?_⟩
          cases ds <;> cases xs <;> simp_all
        | dct kvs =>
          obtain ⟨ws, h1, h2⟩ := r.dct q
          have := h2.len
          refine .inr (.inr ⟨ws, h1, ?_⟩)
          cases kvs <;> cases ws <;> simp_all
        | _ => cases e
    | ty n => simp [truD] at e
/-- a test by the truth of its value -/
theorem dt_tru (ha : PE X a (lowE Θ X.K W ta)) (he : ∀ whole, isTrue a X.env whole = (do let v ← whole; standAt a.pos; holding [v] (truthy v))) : PT X a (lowT Θ X.K W (dTru ta)) :=
  (pt_truth ha he).weak fun σ H R ⟨ρ, G, F, Q, DX, e, rr, h, x, k⟩ => lowE_mk e rr x h fun v H1 d G1 e1 i1 r1 q1 => by
    obtain ⟨b, h1, h2⟩ := tru_low r1 i1 q1
    exact ⟨b, h1, k _ _ _ e1 r1 h2⟩
/-- a test that gives a bool: a comparison -/
theorem dt_cmp {op : CmpOp} {r : R2D} (ho : OpR X (compareOp op) (lowR2 Θ X.K r)) (hr : ∀ x y G Q, r x y G Q → r x y G fun d G' => (∃ b, d = .bl b) ∧ Q d G') (ha : PE X a (lowE Θ X.K W ta)) (hb : PE X b (lowE Θ X.K W tb)) (hm : behindInMarks op b = false) :
    PT X (.Compare a [op] [b] pos) (lowT Θ X.K W (dTru (dBin r ta tb))) :=
  (pt_cmpR ho ha hb hm).weak fun σ H R ⟨ρ, G, F, Q, DX, e, rr, h, x, k⟩ => by
    refine lowE_mk e rr x h fun v H1 d G1 e1 i1 r1 q1 => lowE_mk (e.ext e1) r1 (x.ext e1) q1 fun u H2 d2 G2 e2 i2 r2 q2 => ?_
    refine ⟨G2, F, d, d2, _, r2, i1.ext e2 d, i2, hr _ _ _ _ q2, fun w H3 d3 G3 e3 i3 r3 q3 => ?_⟩
    obtain ⟨⟨z, hz⟩, q3⟩ := q3
    subst hz
    exact ⟨z, i3, k _ _ _ (e1.trans (e2.trans e3)) r3 q3⟩
theorem dt_chain {op op' : CmpOp} {r r' : R2D} (ho : OpR X (compareOp op) (lowR2 Θ X.K r)) (ho' : OpR X (compareOp op') (lowR2 Θ X.K r')) (hr : ∀ x y G Q, r' x y G Q → r' x y G fun d G' => (∃ b, d = .bl b) ∧ Q d G')
    (ha : PE X a (lowE Θ X.K W ta)) (hb : PE X b (lowE Θ X.K W tb)) (hc : PE X c (lowE Θ X.K W tc)) (hm : lastMarks [op, op'] [b, c] = false) : PT X (.Compare a [op, op'] [b, c] pos) (lowT Θ X.K W (dTru (dChain r r' ta tb tc))) :=
  (pt_chain ho ho' ha hb hc hm).weak fun σ H R ⟨ρ, G, F, Q, DX, e, rr, h, x, k⟩ => by
    refine lowE_mk e rr x h fun v H1 d G1 e1 i1 r1 q1 => lowE_mk (e.ext e1) r1 (x.ext e1) q1 fun u H2 d2 G2 e2 i2 r2 q2 => ?_
    refine ⟨G2, F, d, d2, _, r2, i1.ext e2 d, i2, q2, fun w H3 d3 G3 e3 i3 r3 q3 => ?_⟩
    cases d3 with
    | bl z =>
      refine ⟨z, i3, ?_⟩
      cases z with
      | true =>
        rw [if_pos rfl]
        refine lowE_mk (e.ext (e1.trans (e2.trans e3))) r3 (x.ext (e1.trans (e2.trans e3))) q3 fun u4 H4 d4 G4 e4 i4 r4 q4 => ?_
        refine ⟨G4, F, d2, d4, _, r4, i2.ext (e3.trans e4) d2, i4, hr _ _ _ _ q4, fun w H5 d5 G5 e5 i5 r5 q5 => ?_⟩
        obtain ⟨⟨z, hz⟩, q5⟩ := q5
        subst hz
        exact ⟨z, i5, k _ _ _ (e1.trans (e2.trans (e3.trans (e4.trans e5)))) r5 q5⟩
      | false =>
        rw [if_neg Bool.false_ne_true]
        exact ⟨false, rfl, k _ _ _ (e1.trans (e2.trans e3)) r3 q3⟩
    | _ => exact q3.elim
theorem dw_and1 {tA : TTD} (ha : PT X a (lowT Θ X.K W tA)) : PW X (.BoolOp .And [a] pos) (lowT Θ X.K W tA) := pw_and1 ha
theorem dw_or1 {tA : TTD} (ha : PT X a (lowT Θ X.K W tA)) : PW X (.BoolOp .Or [a] pos) (lowT Θ X.K W tA) := pw_or1 ha
theorem dw_and {tA tB : TTD} {rest : List Expr} (ha : PT X a (lowT Θ X.K W tA)) (hb : PW X (.BoolOp .And (b :: rest) pos) (lowT Θ X.K W tB)) : PW X (.BoolOp .And (a :: b :: rest) pos) (lowT Θ X.K W (dTAnd tA tB)) :=
  (pw_and ha hb).weak fun σ H R ⟨ρ, G, F, Q, DX, e, rr, h, x, k⟩ => by
    refine lowT_mk e rr x h fun z H1 G1 e1 r1 q1 => ?_
    cases z with
    | true =>
      rw [if_pos rfl]
      exact lowT_mk (e.ext e1) r1 (x.ext e1) (q1.1 rfl) fun z2 H2 G2 e2 r2 q2 => k _ _ _ (e1.trans e2) r2 q2
    | false =>
      rw [if_neg Bool.false_ne_true]
      exact k _ _ _ e1 r1 (q1.2 rfl)
theorem dw_or {tA tB : TTD} {rest : List Expr} (ha : PT X a (lowT Θ X.K W tA)) (hb : PW X (.BoolOp .Or (b :: rest) pos) (lowT Θ X.K W tB)) : PW X (.BoolOp .Or (a :: b :: rest) pos) (lowT Θ X.K W (dTOr tA tB)) :=
  (pw_or ha hb).weak fun σ H R ⟨ρ, G, F, Q, DX, e, rr, h, x, k⟩ => by
    refine lowT_mk e rr x h fun z H1 G1 e1 r1 q1 => ?_
    cases z with
    | true =>
      rw [if_pos rfl]
      exact k _ _ _ e1 r1 (q1.1 rfl)
    | false =>
      rw [if_neg Bool.false_ne_true]
      exact lowT_mk (e.ext e1) r1 (x.ext e1) (q1.2 rfl) fun z2 H2 G2 e2 r2 q2 => k _ _ _ (e1.trans e2) r2 q2
theorem dt_not {tA : TTD} (ha : PT X a (lowT Θ X.K W tA)) : PT X (.UnaryOp .Not a pos) (lowT Θ X.K W (dTNot tA)) :=
  (pt_not ha).weak fun σ H R ⟨ρ, G, F, Q, DX, e, rr, h, x, k⟩ => lowT_mk e rr x h fun z H1 G1 e1 r1 q1 => k _ _ _ e1 r1 q1
theorem de_one {op} (h : PE X a (lowE Θ X.K W ta)) : PE X (.BoolOp op [a] pos) (lowE Θ X.K W ta) := pe_one h
theorem de_and {rest : List Expr} (ha : PE X a (lowE Θ X.K W ta)) (hb : PE X (.BoolOp .And (b :: rest) pos) (lowE Θ X.K W tb)) : PE X (.BoolOp .And (a :: b :: rest) pos) (lowE Θ X.K W (dAnd ta tb)) :=
  (pe_andT ha hb).weak fun σ H R ⟨ρ, G, F, Q, DX, e, rr, h, x, k⟩ => lowE_mk e rr x h fun v H1 d G1 e1 i1 r1 q1 => by
    obtain ⟨z, h1, h2⟩ := tru_low r1 i1 q1
    refine ⟨z, h1, ?_⟩
    cases z with
    | true =>
      rw [if_pos rfl]
      exact lowE_mk (e.ext e1) r1 (x.ext e1) (h2.1 rfl) fun v H2 d2 G2 e2 i2 r2 q2 => k _ _ _ _ (e1.trans e2) i2 r2 q2
    | false =>
      rw [if_neg Bool.false_ne_true]
      exact k _ _ _ _ e1 i1 r1 (h2.2 rfl)
theorem de_or {rest : List Expr} (ha : PE X a (lowE Θ X.K W ta)) (hb : PE X (.BoolOp .Or (b :: rest) pos) (lowE Θ X.K W tb)) : PE X (.BoolOp .Or (a :: b :: rest) pos) (lowE Θ X.K W (dOr ta tb)) :=
  (pe_orT ha hb).weak fun σ H R ⟨ρ, G, F, Q, DX, e, rr, h, x, k⟩ => lowE_mk e rr x h fun v H1 d G1 e1 i1 r1 q1 => by
    obtain ⟨z, h1, h2⟩ := tru_low r1 i1 q1
    refine ⟨z, h1, ?_⟩
    cases z with
    | true =>
      rw [if_pos rfl]
      exact k _ _ _ _ e1 i1 r1 (h2.1 rfl)
    | false =>
      rw [if_neg Bool.false_ne_true]
      exact lowE_mk (e.ext e1) r1 (x.ext e1) (h2.2 rfl) fun v H2 d2 G2 e2 i2 r2 q2 => k _ _ _ _ (e1.trans e2) i2 r2 q2
theorem de_not (ha : PE X a (lowE Θ X.K W ta)) : PE X (.UnaryOp .Not a pos) (lowE Θ X.K W (dNot ta)) :=
  (pe_notT ha).weak fun σ H R ⟨ρ, G, F, Q, DX, e, rr, h, x, k⟩ => lowE_mk e rr x h fun v H1 d G1 e1 i1 r1 q1 => by
    obtain ⟨z, h1, h2⟩ := tru_low r1 i1 q1
    exact ⟨z, h1, k _ _ _ _ e1 .bl r1 h2⟩
theorem de_if {t : TTD} (hc : PT X c (lowT Θ X.K W t)) (ha : PE X a (lowE Θ X.K W ta)) (hb : PE X b (lowE Θ X.K W tb)) : PE X (.IfExp c a b pos) (lowE Θ X.K W (dIf t ta tb)) :=
  (pe_ifExp hc ha hb).weak fun σ H R ⟨ρ, G, F, Q, DX, e, rr, h, x, k⟩ => lowT_mk e rr x h fun z H1 G1 e1 r1 q1 => by
    cases z with
    | true =>
      rw [if_pos rfl]
      exact lowE_mk (e.ext e1) r1 (x.ext e1) (q1.1 rfl) fun v H2 d2 G2 e2 i2 r2 q2 => k _ _ _ _ (e1.trans e2) i2 r2 q2
    | false =>
      rw [if_neg Bool.false_ne_true]
      exact lowE_mk (e.ext e1) r1 (x.ext e1) (q1.2 rfl) fun v H2 d2 G2 e2 i2 r2 q2 => k _ _ _ _ (e1.trans e2) i2 r2 q2
theorem da_nil : PA X [] (lowA Θ X.K W dNil) := pa_nil.weak fun σ H R ⟨ρ, G, F, Q, DX, e, rr, h, x, k⟩ => k _ _ _ _ Ext.refl IsL.nil rr h
theorem da_cons {e : Expr} {es : List Expr} {te : TED} {t : TAD} (ha : PE X e (lowE Θ X.K W te)) (hr : PA X es (lowA Θ X.K W t)) (hs : starEach (e :: es) X.env = (false, eval e X.env) :: starEach es X.env) : PA X (e :: es) (lowA Θ X.K W (dCons te t)) :=
  (pa_cons ha hr hs).weak fun σ H R ⟨ρ, G, F, Q, DX, e, rr, h, x, k⟩ => lowE_mk e rr x h fun v H1 d G1 e1 i1 r1 q1 => lowA_mk (e.ext e1) r1 (x.ext e1) q1 fun vs H2 ds G2 e2 i2 r2 q2 =>
    k _ _ _ _ (e1.trans e2) (.cons (i1.ext e2 d) i2) r2 q2
theorem de_tup {es : List Expr} {t : TAD} {x1} (h : PA X es (lowA Θ X.K W t)) : PE X (.Tuple es x1 pos) (lowE Θ X.K W (dTup t)) :=
  (pe_tup h).weak fun σ H R ⟨ρ, G, F, Q, DX, e, rr, h, x, k⟩ => lowA_mk e rr x h fun vs H1 ds G1 e1 i1 r1 q1 => ⟨by rw [i1.len]; exact q1.1, fun p hp =>
    k _ _ _ _ (e1.trans (ext_upd_new hp)) (.tup (SqT.of upd_same) (IsL.ext (ext_upd_new hp) _ i1)) (r1.newH hp) q1.2⟩
theorem de_lst {es : List Expr} {t : TAD} (h : PA X es (lowA Θ X.K W t)) : PE X (.List es pos) (lowE Θ X.K W (dLst t)) :=
  (pe_lst h).weak fun σ H R ⟨ρ, G, F, Q, DX, e, rr, h, x, k⟩ => lowA_mk e rr x h fun vs H1 ds G1 e1 i1 r1 q1 => ⟨by rw [i1.len]; exact q1.1, fun p hp =>
    k _ _ _ _ (e1.trans (ext_upd_new hp)) .ref (r1.new hp fun own => .lst upd_same (IsL.ext (ext_upd_new hp) _ i1)) (q1.2 p (r1.free hp).1)⟩
theorem low_b {r : RLD} {t : TAD} {tt : TE} (ht : ∀ σ H R, tCB (lowRL Θ X.K r) (lowA Θ X.K W t) σ H R → tt σ H R) (σ : L2.St) (H : Hp) (R : VK) (h : lowE Θ X.K W (dB r t) σ H R) : tt σ H R := by
  obtain ⟨ρ, G, F, Q, DX, e, rr, h, x, k⟩ := h
  exact ht _ _ _ (lowA_mk e rr x h fun vs H1 ds G1 e1 i1 r1 q1 => ⟨G1, F, ds, Q, r1, i1, q1, fun w H3 d3 G3 e3 i3 r3 q3 => k w H3 d3 G3 (e1.trans e3) i3 r3 q3⟩)
end
end Dl

namespace Dl
open PySem PySem.Spec PyProof.Rows L2

/-! ### statements -/
def dNext (E : DEnds) (ρ : Ro) (G : GH) : Prop := E.nx ρ G
def dBreak (E : DEnds) (ρ : Ro) (G : GH) : Prop := E.bk ρ G
def dCont (E : DEnds) (ρ : Ro) (G : GH) : Prop := E.ct ρ G
def dSeq (t u : TSD) (E : DEnds) (ρ : Ro) (G : GH) : Prop := t { E with nx := fun ρ1 G1 => u E ρ1 G1 } ρ G
def dDrop (te : TED) (E : DEnds) (ρ : Ro) (G : GH) : Prop := te E.ex ρ G fun _ G1 => E.nx ρ G1
def dRet (te : TED) (E : DEnds) (ρ : Ro) (G : GH) : Prop := te E.ex ρ G E.rt
def dRetN (E : DEnds) (ρ : Ro) (G : GH) : Prop := E.rt .non G
def dIfS (c : TTD) (t u : TSD) (E : DEnds) (ρ : Ro) (G : GH) : Prop := c E.ex ρ G fun b G1 => dIte b (t E ρ G1) (u E ρ G1)
/-- a target: the value, the exception's way, places, store, what follows -/
abbrev TGD := D → DXK → Ro → GH → (Ro → GH → Prop) → Prop
abbrev TGsD := List D → DXK → Ro → GH → (Ro → GH → Prop) → Prop
def dgName (i : Nat) (d : D) (X : DXK) (ρ : Ro) (G : GH) (Q : Ro → GH → Prop) : Prop := Q (ρ.set i (some d)) G
def dgNil (ds : List D) (X : DXK) (ρ : Ro) (G : GH) (Q : Ro → GH → Prop) : Prop := match ds with
  | [] => Q ρ G
  | _ :: _ => False
def dgCons (t : TGD) (u : TGsD) (ds : List D) (X : DXK) (ρ : Ro) (G : GH) (Q : Ro → GH → Prop) : Prop := match ds with
  | [] => False
  | d :: r => t d X ρ G fun ρ1 G1 => u r X ρ1 G1 Q
def dgTup (n : Nat) (t : TGsD) (d : D) (X : DXK) (ρ : Ro) (G : GH) (Q : Ro → GH → Prop) : Prop := match d with
  | .tup ds => ds.length = n ∧ t ds X ρ G Q
  | _ => False
def dAsg (te : TED) (g : TGD) (E : DEnds) (ρ : Ro) (G : GH) : Prop := te E.ex ρ G fun d G1 => g d E.ex ρ G1 E.nx
def dPar (i j : Nat) (ta : TAD) (E : DEnds) (ρ : Ro) (G : GH) : Prop := ta E.ex ρ G fun ds G1 => arg2 ds fun a b => E.nx ((ρ.set i (some a)).set j (some b)) G1
def dPar3 (i j k : Nat) (ta : TAD) (E : DEnds) (ρ : Ro) (G : GH) : Prop := ta E.ex ρ G fun ds G1 => arg3 ds fun a b c => E.nx (((ρ.set i (some a)).set j (some b)).set k (some c)) G1
def dAug (i : Nat) (r : R2D) (te : TED) (E : DEnds) (ρ : Ro) (G : GH) : Prop := match ρ[i]? with
  | some (some x) => te E.ex ρ G fun y G1 => r x y G1 fun z G2 => E.nx (ρ.set i (some z)) G2
  | _ => False
/-- o[i] = v by values -/
abbrev RSetD := D → D → D → GH → (GH → Prop) → Prop
def dgSub (to ti : TED) (r : RSetD) (d : D) (X : DXK) (ρ : Ro) (G : GH) (Q : Ro → GH → Prop) : Prop := to X ρ G fun o G1 => ti X ρ G1 fun i G2 => r o i d G2 fun G3 => Q ρ G3

section
variable (Θ : AbsI) (K : PySem.W.Frag)
def lowG (W : WX) (vs : List Nat) (tg : TGD) : TG := fun v σ H R => ∃ (ρ : Ro) (G : GH) (F : Hp) (d : D) (Q : Ro → GH → Prop) (DX : DXK), EnvIs K H ρ σ ∧ Rep Θ K H G F ∧ Is K H d v ∧ tg d DX ρ G Q ∧ XTo Θ K W DX H F ∧
  ∀ σ' H' ρ' G', Ext K H H' → EnvIs K H' ρ' σ' → wipe σ' vs = wipe σ vs → Rep Θ K H' G' F → Q ρ' G' → R σ' H'
def lowGs (W : WX) (ns : List Nat) (tg : TGsD) : TGs := fun vs σ H R => ∃ (ρ : Ro) (G : GH) (F : Hp) (ds : List D) (Q : Ro → GH → Prop) (DX : DXK), EnvIs K H ρ σ ∧ Rep Θ K H G F ∧ IsL K H ds vs ∧ tg ds DX ρ G Q ∧ XTo Θ K W DX H F ∧
  ∀ σ' H' ρ' G', Ext K H H' → EnvIs K H' ρ' σ' → wipe σ' ns = wipe σ ns → Rep Θ K H' G' F → Q ρ' G' → R σ' H'
/-- a store to a place of an object -/
def lowSet (r : RSetD) : TSet := fun o i v H R => ∃ (G : GH) (F : Hp) (x y z : D) (Q : GH → Prop), Rep Θ K H G F ∧ Is K H x o ∧ Is K H y i ∧ Is K H z v ∧ r x y z G Q ∧ ∀ H' G', Ext K H H' → Rep Θ K H' G' F → Q G' → R H'
end

/-- the ends of a statement, told -/
structure EndsTo (Θ : AbsI) (K : PySem.W.Frag) (W : WX) (E : DEnds) (D : Ends) (H F : Hp) : Prop where
  ex : XTo Θ K W E.ex H F
  nx : ∀ σ' H' ρ' G', Ext K H H' → EnvIs K H' ρ' σ' → Rep Θ K H' G' F → E.nx ρ' G' → D.nx σ' H'
  rt : ∀ v H' d G', Ext K H H' → Is K H' d v → Rep Θ K H' G' F → E.rt d G' → D.rt v H'
  bk : ∀ σ' H' ρ' G', Ext K H H' → EnvIs K H' ρ' σ' → Rep Θ K H' G' F → E.bk ρ' G' → D.bk σ' H'
  ct : ∀ σ' H' ρ' G', Ext K H H' → EnvIs K H' ρ' σ' → Rep Θ K H' G' F → E.ct ρ' G' → D.ct σ' H'
section
variable {Θ : AbsI} {K : PySem.W.Frag} {W : WX} {σ : L2.St} {H H' : Hp} {ρ : Ro} {G : GH} {F : Hp} {DX : DXK} {E : DEnds} {D : Ends}
theorem EndsTo.ext (t : EndsTo Θ K W E D H F) (e : Ext K H H') : EndsTo Θ K W E D H' F :=
  ⟨t.ex.ext e, fun _ _ _ _ e2 => t.nx _ _ _ _ (e.trans e2), fun _ _ _ _ e2 => t.rt _ _ _ _ (e.trans e2), fun _ _ _ _ e2 => t.bk _ _ _ _ (e.trans e2), fun _ _ _ _ e2 => t.ct _ _ _ _ (e.trans e2)⟩
theorem lowS_mk {td : TSD} (e : EnvIs K H ρ σ) (r : Rep Θ K H G F) (h : td E ρ G) (t : EndsTo Θ K W E D H F) : lowS Θ K W td D σ H := ⟨ρ, G, F, E, e, r, h, t.ex, t.nx, t.rt, t.bk, t.ct⟩
theorem lowS_of {td : TSD} (h : lowS Θ K W td D σ H) : ∃ ρ G F E, EnvIs K H ρ σ ∧ Rep Θ K H G F ∧ td E ρ G ∧ EndsTo Θ K W E D H F :=
  let ⟨ρ, G, F, E, e, r, h, x, n, t, b, c⟩ := h
  ⟨ρ, G, F, E, e, r, h, x, n, t, b, c⟩
theorem lowG_mk {tg : TGD} {ns : List Nat} {d : Dl.D} {v : V} {Q : Ro → GH → Prop} {R : L2.St → Hp → Prop} (e : EnvIs K H ρ σ) (r : Rep Θ K H G F) (i : Is K H d v) (x : XTo Θ K W DX H F) (h : tg d DX ρ G Q)
    (k : ∀ σ' H' ρ' G', Ext K H H' → EnvIs K H' ρ' σ' → wipe σ' ns = wipe σ ns → Rep Θ K H' G' F → Q ρ' G' → R σ' H') : lowG Θ K W ns tg v σ H R := ⟨ρ, G, F, d, Q, DX, e, r, i, h, x, k⟩
end

section
variable {X : Cx} {Θ : AbsI} {W : WX} {a b c e : Expr} {ta tb tc te : TED} {pos : Pos} {st : Stmt} {rest : List Stmt} {t u : TSD}
theorem ds_nil : PSs X [] (lowS Θ X.K W dNext) := pss_nil.weak fun D σ H h => by
  obtain ⟨ρ, G, F, E, e, r, h, t⟩ := lowS_of h
  exact t.nx _ _ _ _ Ext.refl e r h
theorem ds_cons (h1 : PS X st (lowS Θ X.K W t)) (h2 : PSs X rest (lowS Θ X.K W u)) : PSs X (st :: rest) (lowS Θ X.K W (dSeq t u)) := (pss_cons h1 h2).weak fun D σ H h => by
  obtain ⟨ρ, G, F, E, e, r, h, t⟩ := lowS_of h
  exact lowS_mk e r h ⟨t.ex, fun σ' H' ρ' G' e1 i1 r1 q1 => lowS_mk i1 r1 q1 (t.ext e1), t.rt, t.bk, t.ct⟩
theorem ds_one (h1 : PS X st (lowS Θ X.K W t)) : PSs X [st] (lowS Θ X.K W t) := pss_one h1
theorem ds_pass : PS X (.Pass pos) (lowS Θ X.K W dNext) := ps_pass.weak fun D σ H h => by
  obtain ⟨ρ, G, F, E, e, r, h, t⟩ := lowS_of h
  exact t.nx _ _ _ _ Ext.refl e r h
theorem ds_break : PS X (.Break pos) (lowS Θ X.K W dBreak) := ps_break.weak fun D σ H h => by
  obtain ⟨ρ, G, F, E, e, r, h, t⟩ := lowS_of h
  exact t.bk _ _ _ _ Ext.refl e r h
theorem ds_cont : PS X (.Continue pos) (lowS Θ X.K W dCont) := ps_continue.weak fun D σ H h => by
  obtain ⟨ρ, G, F, E, e, r, h, t⟩ := lowS_of h
  exact t.ct _ _ _ _ Ext.refl e r h
theorem ds_expr (he : PE X e (lowE Θ X.K W te)) (hs : swapsWith e none pos.line X.env = pure false) : PS X (.Expr e pos) (lowS Θ X.K W (dDrop te)) := (ps_expr he hs).weak fun D σ H h => by
  obtain ⟨ρ, G, F, E, e, r, h, t⟩ := lowS_of h
  exact lowE_mk e r t.ex h fun v H1 d G1 e1 i1 r1 q1 => t.nx _ _ _ _ e1 (e.ext e1) r1 q1
theorem ds_ret (he : PE X e (lowE Θ X.K W te)) : PS X (.Return (some e) pos) (lowS Θ X.K W (dRet te)) := (ps_ret he).weak fun D σ H h => by
  obtain ⟨ρ, G, F, E, e, r, h, t⟩ := lowS_of h
  exact lowE_mk e r t.ex h fun v H1 d G1 e1 i1 r1 q1 => t.rt _ _ _ _ e1 i1 r1 q1
theorem ds_retN : PS X (.Return none pos) (lowS Θ X.K W dRetN) := ps_retN.weak fun D σ H h => by
  obtain ⟨ρ, G, F, E, e, r, h, t⟩ := lowS_of h
  exact t.rt _ _ _ _ Ext.refl .non r h
theorem ds_if {tt : TTD} {p q : List Stmt} (hc : PT X c (lowT Θ X.K W tt)) (ha : PSs X p (lowS Θ X.K W t)) (hb : PSs X q (lowS Θ X.K W u)) : PS X (.If c p q pos) (lowS Θ X.K W (dIfS tt t u)) := (ps_if hc ha hb).weak fun D σ H h => by
  obtain ⟨ρ, G, F, E, e, r, h, t⟩ := lowS_of h
  refine lowT_mk e r t.ex h fun z H1 G1 e1 r1 q1 => ?_
  cases z with
  | true =>
    rw [if_pos rfl]
    exact lowS_mk (e.ext e1) r1 (q1.1 rfl) (t.ext e1)
  | false =>
    rw [if_neg Bool.false_ne_true]
    exact lowS_mk (e.ext e1) r1 (q1.2 rfl) (t.ext e1)
theorem wipe_set_out {σ : L2.St} {i : Nat} {o : Option V} : ∀ {vs : List Nat}, i ∉ vs → wipe (σ.set i o) vs = (wipe σ vs).set i o
  | [], _ => rfl
  | v :: vs, h => by
    have h1 : v ≠ i := fun z => h (by rw [z]; exact List.mem_cons_self)
    show (wipe (σ.set i o) vs).set v none = ((wipe σ vs).set v none).set i o
    rw [wipe_set_out fun z => h (List.mem_cons_of_mem _ z), List.set_comm _ _ h1.symm]
theorem wipe_set_in {σ : L2.St} {i : Nat} {o : Option V} : ∀ {vs : List Nat}, i ∈ vs → wipe (σ.set i o) vs = wipe σ vs
  | v :: vs, h => by
    show (wipe (σ.set i o) vs).set v none = (wipe σ vs).set v none
    by_cases hi : i ∈ vs
    · rw [wipe_set_in hi]
    · have h1 : i = v := by
        rcases List.mem_cons.mp h with z | z
        · exact z
        · exact absurd z hi
      subst h1
      rw [wipe_set_out hi, List.set_set]
theorem dg_name {i : Nat} {ns : List Nat} {x : Str} (hN : X.N.Nodup) (hi : X.N[i]? = some x) (hx : Loc X.env.scope x) (hf : X.fn x = true ∨ X.env.scope.names.lookup x = some .local) (hm : i ∈ ns) : PG X (.Name x pos) (lowG Θ X.K W ns (dgName i)) :=
  ⟨fun pins s σ H R v u rv I h => by
    obtain ⟨ρ, G, F, d, Q, DX, e, r, iv, h, x, k⟩ := h
    exact (pg_name hN hi hx hf).run pins s σ H _ v u rv I (k _ _ _ _ Ext.refl (e.set i iv) (wipe_set_in hm) r h)⟩
theorem _root_.L2.PG.weak {tg : Expr} {t t' : TG} (h : PG X tg t) (i : ∀ v σ H Q, t' v σ H Q → t v σ H Q) : PG X tg t' := ⟨fun pins s σ H v u Q I r q => h.run pins s σ H v u Q I r (i _ _ _ _ q)⟩
theorem _root_.L2.PGs.weak {tg : List Expr} {t t' : TGs} (h : PGs X tg t) (i : ∀ v σ H Q, t' v σ H Q → t v σ H Q) : PGs X tg t' := ⟨fun pins s σ H v u Q I r q => h.run pins s σ H v u Q I r (i _ _ _ _ q)⟩
theorem dgs_nil {ns : List Nat} : PGs X [] (lowGs Θ X.K W ns dgNil) := pgs_nil.weak fun vs σ H R h => by
  obtain ⟨ρ, G, F, ds, Q, DX, e, r, iv, h, x, k⟩ := h
  cases ds with
  | nil => exact ⟨iv, k _ _ _ _ Ext.refl e rfl r h⟩
  | cons d ds => exact h.elim
theorem dgs_cons {ns : List Nat} {tg : Expr} {tgs : List Expr} {g : TGD} {gs : TGsD} (h1 : PG X tg (lowG Θ X.K W ns g)) (h2 : PGs X tgs (lowGs Θ X.K W ns gs))
    (hq : (assignEach (tg :: tgs) X.env).map (·.2) = assign tg X.env :: (assignEach tgs X.env).map (·.2)) : PGs X (tg :: tgs) (lowGs Θ X.K W ns (dgCons g gs)) := (pgs_cons h1 h2 hq).weak fun vs σ H R h => by
  obtain ⟨ρ, G, F, ds, Q, DX, e, r, iv, h, x, k⟩ := h
  cases ds with
  | nil => exact h.elim
  | cons d ds =>
    obtain ⟨v, vr, e1, i1, i2⟩ := iv
    refine ⟨v, vr, e1, lowG_mk e r i1 x h fun σ1 H1 ρ1 G1 x1 e1 w1 r1 q1 => ?_⟩
    exact ⟨ρ1, G1, F, ds, Q, DX, e1, r1, IsL.ext x1 _ i2, q1, x.ext x1, fun σ2 H2 ρ2 G2 x2 e2 w2 => k σ2 H2 ρ2 G2 (x1.trans x2) e2 (w2.trans w1)⟩
theorem dg_tup {ns : List Nat} {es : List Expr} {k : Nat} {g : TGsD} {n : Nat} (hc : X.calm = true) (h : PGs X es (lowGs Θ X.K W ns g)) (hn : (assignEach es X.env).length = n) (hst : (assignEach es X.env).findIdx? (·.1) = none) : PG X (.Tuple es k pos) (lowG Θ X.K W ns (dgTup n g)) :=
  (pg_tup hc h hn hst).weak fun v σ H R h => by
    obtain ⟨ρ, G, F, d, Q, DX, e, r, iv, h, x, k⟩ := h
    cases d with
    | tup ds =>
      obtain ⟨a, xs, e1, t1, l1⟩ := iv
      exact ⟨a, xs, e1, t1, l1.len.trans h.1, ρ, G, F, ds, Q, DX, e, r, l1, h.2, x, k⟩
    | _ => exact h.elim
/-- no slice, no star -/
def plE : Expr → Bool
  | .Slice .. => false
  | .Starred .. => false
  | _ => true
theorem dg_sub {ns : List Nat} {o i : Expr} {to ti : TED} {r : RSetD} (hpl : plE i = true) (ho : PE X o (lowE Θ X.K W to)) (hi : PE X i (lowE Θ X.K W ti)) (hs : PSet X (lowSet Θ X.K r)) : PG X (.Subscript o i pos) (lowG Θ X.K W ns (dgSub to ti r)) :=
  (pg_sub ho hi hs (by intro v; rw [assign]; cases i <;> first | rfl | cases hpl)).weak fun v σ H R h => by
    obtain ⟨ρ, G, F, d, Q, DX, e, r, iv, h, x, k⟩ := h
    refine lowE_mk e r x h fun ov H1 od G1 e1 i1 r1 q1 => lowE_mk (e.ext e1) r1 (x.ext e1) q1 fun iv' H2 idx G2 e2 i2 r2 q2 => ?_
    exact ⟨G2, F, od, idx, d, _, r2, i1.ext e2 od, i2, (iv.ext e1 d).ext e2 d, q2, fun H3 G3 e3 r3 q3 => k _ _ _ _ (e1.trans (e2.trans e3)) (e.ext (e1.trans (e2.trans e3))) rfl r3 q3⟩
theorem ds_asg {ns : List Nat} {tg : Expr} {g : TGD} (he : PE X e (lowE Θ X.K W te)) (hg : PG X tg (lowG Θ X.K W ns g)) (hs : swapsWithSole [tg] e pos.line X.env = pure false) (hw : swappedStores [tg] e X.env = pure none) (ha : (assignEach [tg] X.env).map (·.2) = [assign tg X.env]) : PS X (.Assign [tg] e pos) (lowS Θ X.K W (dAsg te g)) :=
  (ps_asg he hg hs hw ha).weak fun D σ H h => by
    obtain ⟨ρ, G, F, E, e, r, h, t⟩ := lowS_of h
    exact lowE_mk e r t.ex h fun v H1 d G1 e1 i1 r1 q1 => lowG_mk (e.ext e1) r1 i1 (t.ex.ext e1) q1 fun σ2 H2 ρ2 G2 e2 i2 _ r2 q2 => t.nx _ _ _ _ (e1.trans e2) i2 r2 q2
theorem ds_aug {i : Nat} {x : Str} {op : Operator} {r : R2D} {pos' : Pos} (hN : X.N.Nodup) (hi : X.N[i]? = some x) (hx : Loc X.env.scope x) (he : PE X e (lowE Θ X.K W te)) (ho : PIp X op (lowR2 Θ X.K r)) (hf : X.fn x = true ∨ X.env.scope.names.lookup x = some .local) :
    PS X (.AugAssign (.Name x pos') op e pos) (lowS Θ X.K W (dAug i r te)) :=
  (ps_aug hN hi hx he ho hf).weak fun D σ H h => by
    obtain ⟨ρ, G, F, E, e, r, h, t⟩ := lowS_of h
    unfold dAug at h
    cases q : ρ[i]? with
    | none => rw [q] at h; exact h.elim
    | some o =>
      cases o with
      | none => rw [q] at h; exact h.elim
      | some d =>
        rw [q] at h
        obtain ⟨v, h1, h2⟩ := e.at_ i d q
        refine ⟨v, h1, lowE_mk e r t.ex h fun u H1 d1 G1 e1 i1 r1 q1 => ?_⟩
        exact ⟨G1, F, d, d1, _, r1, h2.ext e1 d, i1, q1, fun w H2 d2 G2 e2 i2 r2 q2 => t.nx _ _ _ _ (e1.trans e2) ((e.ext (e1.trans e2)).set i i2) r2 q2⟩
end
end Dl

namespace Dl
open PySem PySem.Spec PyProof.Rows L2

/-! ### what is walked: its items, what must stand meanwhile -/
abbrev TID := DXK → Ro → GH → (List D → (GH → Prop) → GH → Prop) → Prop
def ItD (Θ : AbsI) (K : PySem.W.Frag) (H0 : Hp) (J : It) (ds : List D) (chk : GH → Prop) : Prop :=
  ∃ Gc : Hp → Prop, (∀ H G F, Ext K H0 H → Rep Θ K H G F → chk G → Gc H) ∧
    Walk J ds.length Gc fun i H x H' => ∃ d, ds[i]? = some d ∧ Is K H' d x ∧ Ext K H H' ∧ ∀ G F, Rep Θ K H G F → Rep Θ K H' G F
def lowI (Θ : AbsI) (K : PySem.W.Frag) (W : WX) (ti : TID) : TI := fun σ H R => ∃ (ρ : Ro) (G : GH) (F : Hp) (Q : List D → (GH → Prop) → GH → Prop) (DX : DXK), EnvIs K H ρ σ ∧ Rep Θ K H G F ∧ ti DX ρ G Q ∧ XTo Θ K W DX H F ∧
  ∀ J H' ds chk G', Ext K H H' → Rep Θ K H' G' F → ItD Θ K H' J ds chk → Q ds chk G' → R J H'

def dLoop (chk : GH → Prop) (tg : TGD) (tb : TSD) (E : DEnds) : List D → Ro → GH → Prop
  | [], ρ, G => chk G ∧ E.nx ρ G
  | d :: r, ρ, G => chk G ∧ tg d E.ex ρ G fun ρ1 G1 => tb { E with nx := dLoop chk tg tb E r, ct := dLoop chk tg tb E r, bk := E.nx } ρ1 G1
def dFor (ti : TID) (tg : TGD) (tb : TSD) (E : DEnds) (ρ : Ro) (G : GH) : Prop := ti E.ex ρ G fun ds chk G1 => dLoop chk tg tb E ds ρ G1
def noX : DXK := fun _ _ _ => False
def wipeD (ρ : Ro) : List Nat → Ro
  | [] => ρ
  | v :: vs => (wipeD ρ vs).set v none
def dLcL (chk : GH → Prop) (tg : TGD) (tt : TTD) (te : TED) (vs : List Nat) (ρ : Ro) : List D → GH → (List D → GH → Prop) → Prop
  | [], G, Q => chk G ∧ Q [] G
  | d :: r, G, Q => chk G ∧ tg d noX (wipeD ρ vs) G fun ρ2 G2 => tt noX ρ2 G2 fun b G3 =>
      dIte b (te noX ρ2 G3 fun y G4 => dLcL chk tg tt te vs ρ r G4 fun ys G5 => Q (y :: ys) G5) (dLcL chk tg tt te vs ρ r G3 Q)
def dLc (ti : TID) (tg : TGD) (tt : TTD) (te : TED) (vs : List Nat) (X : DXK) (ρ : Ro) (G : GH) (Q : DK) : Prop :=
  ti X ρ G fun ds chk G1 => ds.length ≤ sizeLine ∧ dLcL chk tg tt te vs ρ ds G1 fun ys G2 => ∀ p, G2 p = none → Q (.ref p) (gup G2 p (.lst ys))
def dYes (X : DXK) (ρ : Ro) (G : GH) (Q : Bool → GH → Prop) : Prop := Q true G

theorem EnvIs.wipe {K : PySem.W.Frag} {H : Hp} {ρ : Ro} {σ : L2.St} (e : EnvIs K H ρ σ) : ∀ vs : List Nat, EnvIs K H (wipeD ρ vs) (L2.wipe σ vs)
  | [] => e
  | _ :: vs => (EnvIs.wipe e vs).unset _
theorem Rep.at (Θ : AbsI) {K : PySem.W.Frag} {H : Hp} {G : GH} {F : Hp} {p : Addr} {o : HO} (r : Rep Θ K H G (upd F p o)) : H p = some o ∧ G p = none := by
  obtain ⟨own, r⟩ := r
  have h := r.frm p o upd_same
  exact ⟨h.1, h.2.1⟩
section
variable {X : Cx} {Θ : AbsI} {W : WX} {pos : Pos} {tg iter : Expr} {ti : TID} {g : TGD} {t : TSD} {body : List Stmt}
theorem _root_.L2.PI.weak {t t' : TI} (h : PI X tg iter t) (i : ∀ σ H R, t' σ H R → t σ H R) : PI X tg iter t' := ⟨fun pins s σ H R I q => h.run pins s σ H R I (i _ _ _ q)⟩
theorem ds_for {ns : List Nat} (hp : PassesOwn (model X.prog X.w) X.A X.env X.xe) (hc : X.calm = true) (hi : PI X tg iter (lowI Θ X.K W ti)) (hg : PG X tg (lowG Θ X.K W ns g)) (hb : PSs X body (lowS Θ X.K W t)) (hs : ∀ x, foldedSetIterable iter X.env x = pure x) :
    PS X (.For tg iter body [] pos) (lowS Θ X.K W (dFor ti g t)) := (ps_for hp hc hi hg hb hs).weak fun D σ H h => by
  obtain ⟨ρ, G, F, E, e, r, h, t0⟩ := lowS_of h
  refine ⟨ρ, G, F, _, E.ex, e, r, h, t0.ex, fun J H1 ds chk G1 e1 r1 ⟨Gc, hGc, w⟩ q1 => ?_⟩
  refine for_it w (fun i σ H => ∃ ρ G, Ext X.K H1 H ∧ EnvIs X.K H ρ σ ∧ Rep Θ X.K H G F ∧ dLoop chk g t E (ds.drop i) ρ G) ⟨ρ, G1, Ext.refl, e.ext e1, r1, q1⟩ ?_ ?_ ?_
  · rintro i σ H hi ⟨ρ, G, x, e2, r2, q2⟩
    refine hGc H G F x r2 ?_
    cases hd : ds.drop i with
    | nil => rw [hd] at q2; exact q2.1
    | cons d l => rw [hd] at q2; exact q2.1
  · rintro i x σ H H' hi ⟨ρ, G, x2, e2, r2, q2⟩ ⟨d, hd, id, xd, rd⟩
    have hdr : ds.drop i = d :: ds.drop (i + 1) := by
      obtain ⟨hl, he⟩ := List.getElem?_eq_some_iff.mp hd
      rw [List.drop_eq_getElem_cons hl, he]
    rw [hdr] at q2
    have x3 := x2.trans xd
    refine lowG_mk (e2.ext xd) (rd G F r2) id (t0.ex.ext (e1.trans x3)) q2.2 fun σ4 H4 ρ4 G4 x4 e4 _ r4 q4 => ?_
    have x5 := x3.trans x4
    exact lowS_mk e4 r4 q4 ⟨t0.ex.ext (e1.trans x5), fun σ' H' ρ' G' x6 e6 r6 q6 => ⟨ρ', G', x5.trans x6, e6, r6, q6⟩, (t0.ext (e1.trans x5)).rt, (t0.ext (e1.trans x5)).nx, fun σ' H' ρ' G' x6 e6 r6 q6 => ⟨ρ', G', x5.trans x6, e6, r6, q6⟩⟩
  · rintro σ H ⟨ρ, G, x2, e2, r2, q2⟩
    rw [List.drop_length] at q2
    exact t0.nx _ _ _ _ (e1.trans x2) e2 r2 q2.2

/-- the reading of a comprehension -/
theorem lc_low {elt : Expr} {tt : TTD} {te : TED} {vs : List Nat} {W' : WX} (hW : W' = fun _ _ _ _ => False) (σ : L2.St) (H : Hp) (R : VK) (h : lowE Θ X.K W (dLc ti g tt te vs) σ H R) :
    tLc (lowI Θ X.K W ti) (lowG Θ X.K W' vs g) (lowT Θ X.K W' tt) (lowE Θ X.K W' te) vs σ H R := by
  subst hW
  obtain ⟨ρ, G, F, Q, DX, e, r, h, x, k⟩ := h
  refine ⟨ρ, G, F, _, DX, e, r, h, x, fun J H1 ds chk G1 e1 r1 ⟨Gc, hGc, w⟩ q1 Da hD => ?_⟩
  obtain ⟨hlen, q1⟩ := q1
  have hF : F Da = none := (r1.free hD).2
  have nx0 : ∀ H, XTo Θ X.K (fun _ _ _ _ => False) noX H (upd F Da (.lst [])) := fun H cls d σ' H' e ρ' G' _ _ _ _ z => z.elim
  refine lc_it w (fun i H => ∃ G acc ds', Ext X.K H1 H ∧ Rep Θ X.K H G (upd F Da (.lst acc)) ∧ IsL X.K H ds' acc ∧ acc.length ≤ i ∧ dLcL chk g tt te vs ρ (ds.drop i) G fun ys G' => ∀ p, G' p = none → Q (.ref p) (gup G' p (.lst (ds' ++ ys))))
    ⟨G1, [], [], ext_upd_new hD, r1.frame hD (fun _ z => nomatch z), .nil, Nat.le_refl _, q1⟩ ?_ ?_ ?_
  · rintro i H hi ⟨G, acc, ds', x2, r2, l2, hl, q2⟩
    refine hGc H G _ x2 r2 ?_
    cases hd : ds.drop i with
    | nil => rw [hd] at q2; exact q2.1
    | cons d l => rw [hd] at q2; exact q2.1
  · rintro i v H H' hi ⟨G, acc, ds', x2, r2, l2, hl, q2⟩ ⟨d, hd, id, xd, rd⟩
    have hdr : ds.drop i = d :: ds.drop (i + 1) := by
      obtain ⟨hl, he⟩ := List.getElem?_eq_some_iff.mp hd
      rw [List.drop_eq_getElem_cons hl, he]
    rw [hdr] at q2
    have x3 := x2.trans xd
    have env : EnvIs X.K H' (wipeD ρ vs) (L2.wipe σ vs) := (e.wipe vs).ext (e1.trans x3)
    have noX' : ∀ H F', XTo Θ X.K (fun _ _ _ _ => False) noX H F' := fun H F' cls d σ' H' e ρ' G' _ _ _ _ z => z.elim
    refine lowG_mk env (rd G _ r2) id (noX' _ _) q2.2 fun σ4 H4 ρ4 G4 x4 e4 w4 r4 q4 => ⟨?_, ?_⟩
    · rw [w4]
      have : ∀ l : List Nat, L2.wipe (L2.wipe σ l) l = L2.wipe σ l := fun l => by
        have gen : ∀ (l m : List Nat), (∀ i ∈ l, i ∈ m) → ∀ τ : L2.St, L2.wipe (L2.wipe τ l) m = L2.wipe τ m := by
          intro l
          induction l with
          | nil => intro m _ τ; rfl
          | cons i l ih =>
            intro m hm τ
            show L2.wipe ((L2.wipe τ l).set i none) m = _
            rw [wipe_set_in (hm i List.mem_cons_self)]
            exact ih m (fun j hj => hm j (List.mem_cons_of_mem _ hj)) τ
        exact gen l l (fun _ h => h) σ
      exact this vs
    · refine lowT_mk e4 r4 (noX' _ _) q4 fun b H5 G5 x5 r5 q5 => ?_
      have x6 := x3.trans (x4.trans x5)
      have l6 := IsL.ext (xd.trans (x4.trans x5)) _ l2
      cases b with
      | true =>
        rw [if_pos rfl]
        refine lowE_mk (e4.ext x5) r5 (noX' _ _) (q5.1 rfl) fun v H7 y G7 x7 i7 r7 q7 => ?_
        obtain ⟨a7, b7⟩ := r7.at
        refine ⟨acc, a7, Nat.lt_of_le_of_lt hl (Nat.lt_of_lt_of_le hi hlen), G7, acc ++ [v], ds' ++ [y], (x6.trans x7).trans (ext_upd_mut a7 trivial), ?_, ?_, ?_, ?_⟩
        · have := r7.writeF (o := .lst (acc ++ [v])) (p := Da) upd_same trivial (fun _ z => nomatch z)
          rw [upd_upd] at this
          exact this
        · exact IsL.ext (ext_upd_mut a7 trivial) _ ((IsL.ext x7 _ l6).snoc i7)
        · rw [List.length_append]
          exact Nat.succ_le_succ hl
        · simpa using q7
      | false =>
        rw [if_neg Bool.false_ne_true]
        exact ⟨G5, acc, ds', x6, r5, l6, Nat.le_succ_of_le hl, q5.2 rfl⟩
  · rintro H ⟨G, acc, ds', x2, r2, l2, hl, q2⟩
    rw [List.drop_length] at q2
    obtain ⟨_, q2⟩ := q2
    obtain ⟨a2, b2⟩ := r2.at
    rw [List.append_nil] at q2
    exact k _ _ _ _ (e1.trans x2) .ref (r2.unframe hF fun own => .lst a2 l2) (q2 Da b2)
end
end Dl

/-! enumerate(tuple), len(set(ints)): two more rules over the layer. -/
namespace Dl
open PySem PySem.Spec PyProof.Rows L2
set_option maxHeartbeats 1000000 in
theorem meets_enum1 {v : Value} {o : Obj} {H : Heap → Prop} (B : Begins v o H) :
    Meets (Builtin.«enumerate.__new__» ⟨[.type "enumerate", v], []⟩) (fun _ R s => H s.heap ∧
      R (.ok (.ret (.ref (s.heap.push o).objs.size))) { s with heap := (s.heap.push o).push { cls := .type "enumerate", data := .fields #[.none, .bool false, .ref s.heap.objs.size, rawInt 0, .none, .none] } }) :=
  .of_wp fun prog w A R s h => by
    obtain ⟨hp, g, d, tk, os⟩ := s; obtain ⟨h1, h⟩ := h
    have hsub := sub_enumerate
    have q1 : ∀ {A' : Around} {E : Value → Shared → Prop} {Q : Value → Shared → Prop}, Q (.ref hp.objs.size) ⟨hp.push o, g, d, tk, os⟩ → wpAny (model prog w) A' (pyIter v) Q E ⟨hp, g, d, tk, os⟩ :=
      fun q => B.iter prog w _ _ ⟨hp, g, d, tk, os⟩ _ h1 q
    wp_walk using q1
    refine wpAny_stack_any fun st => wpAny_pure ?_
    split
    · rename_i c _ _ _ _ _
      cases (c == Value.type "enumerate")
      · wp_walk using q1
        exact ⟨_, rfl, h⟩
      · wp_walk using q1
        exact ⟨_, rfl, h⟩
    · wp_walk using q1
      exact ⟨_, rfl, h⟩
theorem call_enum1 {prog : Program} {w : World} {A : Around} {E : Value → Shared → Prop} {s : Shared} {v : Value} {o : Obj} {H : Heap → Prop} {Q : Value → Shared → Prop} (B : Begins v o H) (h1 : H s.heap)
    (h : ∀ h', IsEnum h' (s.heap.objs.size + 1) s.heap.objs.size 0 .none → h'.get? s.heap.objs.size = some o → h'.objs.size = s.heap.objs.size + 2 →
      (∀ b o, s.heap.get? b = some o → h'.get? b = some o) → Q (.ref (s.heap.objs.size + 1)) { s with heap := h' }) :
    wpAny (model prog w) A (call (.type "enumerate") [v]) Q E s := by
  refine callType_new F.called_enumerate (by decide) (F.typeCall_enumerate_1 _) (F.newCall_enumerate_1 _) (fun obj => F.args_object_init_2 obj _) F.entry_enumerate_new (meets_enum1 B) ⟨h1, ?_⟩
  have hz : (s.heap.push o).objs.size = s.heap.objs.size + 1 := Heap.size_push ..
  show _ ∧ _
  rw [hz]
  have he : IsEnum ((s.heap.push o).push { cls := .type "enumerate", data := .fields #[.none, .bool false, .ref s.heap.objs.size, rawInt 0, .none, .none] }) (s.heap.objs.size + 1) s.heap.objs.size 0 .none := by
    have := Heap.get?_push_size (s.heap.push o) (o := { cls := .type "enumerate", data := .fields #[.none, .bool false, .ref s.heap.objs.size, rawInt 0, .none, .none] }) rfl
    rw [hz] at this; exact this
  refine ⟨⟨_, he, rfl⟩, h _ he (Heap.get?_push_of_some _ (Heap.get?_push_size _ B.free)) (by rw [Heap.size_push, hz]) fun b o x => Heap.get?_push_of_some _ (Heap.get?_push_of_some _ x)⟩
theorem pyNext_enumT_end {prog : Program} {w : World} {A : Around} {E : Value → Shared → Prop} {s : Shared} {e it l : Addr} {i : Nat} {c : Int} {items : Array Value} {old : Value} {Q : Option Value → Shared → Prop} (hh : A.handled = none)
    (he : IsEnum s.heap e it c old) (hit : s.heap.IsTupleIter it l i) (hl : s.heap.IsTuple l items) (hx : items[i]? = none)
    (hQ : ∀ h', Heap.ExtBut it s.heap h' → Q none { s with heap := h' }) : wpAny (model prog w) A (pyNext (.ref e)) Q E s := by
  have hT : s.TypeIs (.ref e) "enumerate" := ⟨_, he, rfl⟩
  unfold pyNext
  refine wpAny_bind (wpAny_attempt (wpAny_callSpecial?_slot (name := Str.ofString "__next__") hT F.slot_enumerate_next
    (wpAny_call_entry F.slot_enumerate_next hT F.entry_enumerate_next ?_ (F.args_enumerate_next_1 _))))
  show wpAny _ _ (field (.ref e) 2 >>= _) _ _ _
  refine wpAny_bind (wpAny_field he rfl (x := .ref it) rfl ?_)
  refine wpAny_bind (wpAny_nextOf_tuple_end hh hit hl hx fun h' x he' hx' => ?_)
  obtain ⟨o, ho, hc⟩ := hx'
  refine wpAny_bind (wpAny_isInstance (T := "StopIteration") (b := true) ⟨o, ho, hc⟩ isSubtype_stop ?_)
  exact wpAny_pure (hQ _ he')
/-- the tuple at a, each item in a new pair -/
def IteT (K : PySem.W.Frag) (a : Addr) : It :=
  ⟨fun i H => ∃ (xs : List V) (x : V), SqT K H a xs ∧ xs[i]? = some x, fun i H v H' => ∃ T x, v = .ref T ∧ H T = none ∧ H' = upd H T (.tup [.int (i : Nat), x]) ∧ ∀ xs, SqT K H a xs → xs[i]? = some x, fun i H => ∃ xs : List V, SqT K H a xs ∧ xs.length ≤ i⟩
theorem turn_enumT {P : Program} {w : World} {K : PySem.W.Frag} {elts : List Expr} {kk : Nat} {tpos : Pos} (a e it : Addr) :
    Turn P w K (.Tuple elts kk tpos) (IteT K a) [e, it] e (fun i h => (∃ old, IsEnum h e it ((i : Nat) : Int) old) ∧ h.IsTupleIter it a i ∧ e ≠ it ∧ a ≠ it ∧ a ≠ e) where
  mem := by simp
  obj := fun i h st b hb => by
    obtain ⟨⟨old, he⟩, ⟨o, ho, hc, hd⟩, _⟩ := st
    have e' : b = e ∨ b = it := by simpa using hb
    rcases e' with z | z
    · rw [z]; exact ⟨_, he, fun v q => nomatch q⟩
    · rw [z]; exact ⟨o, ho, fun v q => by rw [hd] at q; cases q⟩
  keep := fun i h h' st k => let ⟨⟨old, he⟩, hi, hne⟩ := st; ⟨⟨old, k e (by simp) _ he⟩, hi.at fun o q => k it (by simp) o q, hne⟩
  item := by
    intro X hP hw hK hc i pins s σ H E I hf st hg
    subst hP hw hK
    obtain ⟨⟨old, he⟩, hit, hne, hai, hae⟩ := st
    obtain ⟨xs, x, hq, hx⟩ := hg
    obtain ⟨its, rv, p, hz⟩ := I.tuple hq
    have hlt : i < xs.length := (List.getElem?_eq_some_iff.mp hx).1
    have hlt' : i < its.toArray.size := by rw [List.size_toArray, ← rv.length]; exact hlt
    have hel : e < s.heap.objs.size := Heap.lt_size he
    have hil : it < s.heap.objs.size := by obtain ⟨_, q, _⟩ := hit; exact Heap.lt_size q
    have hT : s.heap.IsTuple a its.toArray := p
    refine wpAny_pyNext_enum_itemD (fp := [it, a]) (Draws.tuple (A := X.A.in1) (show X.A.in1.handled = none from I.ok.hd hc) it a hai its.toArray) he ⟨hit, hT⟩ hlt' hne (by simp; exact ⟨hne, fun z => hae z.symm⟩) fun u h' tk hPu ho hst' hT hsz hk => ?_
    obtain ⟨u', hu, ru⟩ := rv.get hx
    have eu : u = u' := by
      have h1 : its[i]? = some u := by simpa using hPu
      rw [hu] at h1; cases h1; rfl
    subst eu
    refine ⟨_, rfl, wpAny_letOwnedTupleGo_enum (s := { s with heap := h', toks := tk + 1 }) ho fun h'' he' sb => ?_⟩
    have hT2 : h''.get? s.heap.objs.size = some { cls := .type "tuple", data := .seq #[.int i tk, u] } := (sb.2 _ (Nat.ne_of_gt hel)).trans hT
    have new : ObjOk X.prog X.w (upd H s.heap.objs.size (.tup [.int (i : Nat), x])) h'' s.heap.objs.size (.tup [.int (i : Nat), x]) :=
      ⟨by show 2 ≤ sizeLine; decide, [.int i tk, u], .cons ⟨_, rfl⟩ (.cons ru .nil), ⟨_, hT2, rfl, _, rfl⟩⟩
    have I1 : Inv X pins σ (upd H s.heap.objs.size (.tup [.int (i : Nat), x])) { s with heap := h'', toks := tk + 1 } :=
      I.turnedNew (ch := [e, it]) (fun b ob hb q => (sb.2 b (fun z => hb (by simp [z]))).trans (hk b ob (fun z => hb (by simp [z])) (fun z => hb (by simp [z])) q)) hf (Nat.le_refl _) new
    refine ⟨.ref s.heap.objs.size, _, I1, rfl, ⟨_, x, rfl, I.hok.fresh (Nat.le_refl _), rfl, fun ys hy => by rw [I.tuple_inj hy hq]; exact hx⟩, ⟨⟨u, ?_⟩, hst'.1.at fun o q => (sb.2 it (Ne.symm hne)).trans q, hne, hai, hae⟩, fun b hb => ?_⟩
    · have e1 : ((i + 1 : Nat) : Int) = (i : Int) + 1 := by omega
      rw [e1]; exact he'
    · have hb' : b < s.heap.objs.size := by
        have e' : b = e ∨ b = it := by simpa using hb
        rcases e' with z | z
        · rw [z]; exact hel
        · rw [z]; exact hil
      rw [upd_ne (Nat.ne_of_lt hb')]
      exact (hf b hb).1
  done := by
    intro X hP hw hK hc i pins s σ H E I hf st hg
    subst hP hw hK
    obtain ⟨⟨old, he⟩, hit, hne, hai, hae⟩ := st
    obtain ⟨xs, hq, hx⟩ := hg
    obtain ⟨its, rv, p, hz⟩ := I.tuple hq
    obtain ⟨f0, f1, f2, f3, f4, f5⟩ := hf it (by simp)
    have hT : s.heap.IsTuple a its.toArray := p
    have hl := rv.length
    exact pyNext_enumT_end (I.ok.hd hc) he hit hT (by simp; omega) fun h' eb => ⟨rfl, I.turned (t' := s.toks) (fun b o hb q => eb b o hb q) f0 f1 f3 f4 f5⟩
  self := fun A i s Q E st h => let ⟨⟨_, he⟩, _⟩ := st; wpAny_pyIter_enum he h
/-- a list or a tuple counted -/
def iEnumA (K : PySem.W.Frag) (ta : TA) : TI := fun σ H R => ta σ H fun vs H1 => ∃ a xs, vs = [.ref a] ∧ ((SqL K H1 a xs ∧ R (Ite K a) H1) ∨ (SqT K H1 a xs ∧ R (IteT K a) H1))
theorem pi_enumA {X : Cx} {e : Expr} {ta : TA} {p pos tpos : Pos} {elts : List Expr} {kk : Nat} (hg : Gl X "enumerate") (hm : X.mg "enumerate" = none) (ha : PA X [e] ta) (hs : starEach [e] X.env = [(false, eval e X.env)] := by rfl) :
    PI X (.Tuple elts kk tpos) (.Call (.Name "enumerate" p) [e] [] pos) (iEnumA X.K ta) := by
  refine ⟨fun pins s σ H R I h => ?_⟩
  refine Call_ (ld_blt I hg hm boot_enumerate (PyProof.Rows.callWith_type1 (thn (ha.run pos pins s σ H _ I h) fun us s1 ⟨vs, H1, I1, r1, q1⟩ => ?_) hs rfl))
  obtain ⟨a, xs, ex, hq⟩ := q1
  subst ex
  cases r1 with
  | cons r rr =>
    cases rr
    cases r
    have fp : ∀ b, b ∈ [s1.heap.objs.size + 1, s1.heap.objs.size] → s1.heap.objs.size ≤ b := fun b hb => by
      have e' : b = s1.heap.objs.size + 1 ∨ b = s1.heap.objs.size := by simpa using hb
      rcases e' with z | z
      · rw [z]; exact Nat.le_add_right _ _
      · rw [z]; exact Nat.le_refl _
    rcases hq with ⟨hq, q⟩ | ⟨hq, q⟩
    · obtain ⟨its, rv, p', hz⟩ := I1.list hq
      refine call_enumerate_list p'.isList fun h' he hit hsz hk => wpAny_pyIter_enum he ?_
      have I2 : Inv X pins σ H1 { s1 with heap := h' } := I1.kept (t' := s1.toks) hk
      exact ⟨s1.heap.objs.size + 1, [s1.heap.objs.size + 1, s1.heap.objs.size], _, _, H1, rfl, I2, turn_enum a (s1.heap.objs.size + 1) s1.heap.objs.size, ⟨⟨.none, he⟩, hit, Nat.succ_ne_self _⟩, fun b hb => I1.fpOk (fp b hb) (I1.hok.fresh (fp b hb)), q⟩
    · obtain ⟨its, rv, p', hz⟩ := I1.tuple hq
      have hT : s1.heap.IsTuple a its.toArray := p'
      have hal : a < s1.heap.objs.size := by obtain ⟨_, z, _⟩ := hT; exact Heap.lt_size z
      refine call_enum1 (begins_tuple a its.toArray) hT fun h' he hit hsz hk => wpAny_pyIter_enum he ?_
      have I2 : Inv X pins σ H1 { s1 with heap := h' } := I1.kept (t' := s1.toks) hk
      exact ⟨s1.heap.objs.size + 1, [s1.heap.objs.size + 1, s1.heap.objs.size], _, _, H1, rfl, I2, turn_enumT a (s1.heap.objs.size + 1) s1.heap.objs.size, ⟨⟨.none, he⟩, ⟨_, hit, rfl, rfl⟩, Nat.succ_ne_self _, Nat.ne_of_lt hal, Nat.ne_of_lt (Nat.lt_succ_of_lt hal)⟩, fun b hb => I1.fpOk (fp b hb) (I1.hok.fresh (fp b hb)), q⟩
/-- how many unlike ones there are -/
def dist (ns : List Int) : List Int := PyProof.Rows.firstMet (fun i => ns.getD i 0) ns.length
def tLenSetD (K : PySem.W.Frag) (ta : TE) : TE := fun σ H Q => ta σ H fun x H1 => ∃ (l : Addr) (ns : List Int), x = .ref l ∧ SqL K H1 l (ns.map V.int) ∧ ns.length ≤ 1000 ∧ Q (.int ((dist ns).length : Nat)) H1
theorem pe_lenSetD {X : Cx} {a : Expr} {ta : TE} {p p2 q pos : Pos} (hg : Gl X "len") (hm : X.mg "len" = none) (hg2 : Gl X "set") (hm2 : X.mg "set" = none) (ha : PE X a ta) (hc : X.calm = true)
    (na : starEach [a] X.env = (false, eval a X.env) :: starEach [] X.env) : PE X (.Call (.Name "len" p) [.Call (.Name "set" p2) [a] [] q] [] pos) (tLenSetD X.K ta) := by
  refine ⟨fun pins s σ H Q I h => ?_⟩
  refine Call_ (ld_blt I hg hm boot_len ?_)
  refine PyProof.Rows.callWith_builtin1 (PyProof.Rows.args_cons ?_ rfl) rfl rfl
  refine Call_ (ld_blt I hg2 hm2 boot_set ?_)
  refine PyProof.Rows.callWith_type1 (PyProof.Rows.args_cons (thn (ha.run pins s σ H _ I h) fun v s1 ⟨x, H1, I1, r1, q1⟩ => PyProof.Rows.args_nil ?_) na) na rfl
  obtain ⟨l, ns, rfl, hq, hl, q1⟩ := q1
  cases r1
  obtain ⟨its, r, pl, hz⟩ := I1.list hq
  have hlen : its.toArray.size = ns.length := by rw [List.size_toArray, ← r.length, List.length_map]
  refine call_set_list (I1.ok.hd hc) pl.isList (by simpa using RZ.intsAre_vals r) (by rw [hlen]; unfold scanBound; omega) fun h' tk hS hk => ?_
  refine PyProof.Rows.args_nil ?_
  rw [hlen] at hS
  obtain ⟨o, es, ep, t, ho, hex, hd, _, _, _, hf, hn⟩ := hS
  have I2 : Inv X pins σ H1 { s1 with heap := h', toks := tk } := I1.kept fun b o e => hk b o (Heap.lt_size e) e
  have hle : (dist ns).length ≤ ns.length := by
    unfold dist
    exact firstMet_length_le _ _
  have hsz : ((es.size : Nat) : Int) < 2 ^ 63 := by
    rw [hn]
    show ((dist ns).length : Int) < 2 ^ 63
    omega
  exact call_len_set ho hex hd hf hsz ⟨.int (dist ns).length, H1, I2.tok _, ⟨_, by rw [hn]; rfl⟩, q1⟩
end Dl

namespace Dl
open PySem PySem.Spec PyProof.Rows L2

def charsD (x : Str) : List D := x.cps.toList.map fun c => D.str ⟨#[c]⟩
def rangeD (lo : Int) (n : Nat) : List D := (List.range n).map fun i => D.int (lo + (i : Nat))
/-- a list, a tuple, a text walked -/
def dISeq (te : TED) (X : DXK) (ρ : Ro) (G : GH) (Q : List D → (GH → Prop) → GH → Prop) : Prop := te X ρ G fun d G1 => match d with
  | .tup ds => Q ds (fun _ => True) G1
  | .str x => Q (charsD x) (fun _ => True) G1
  | .ref a => match lstOf G1 (.ref a) with
    | some ds => Q ds (fun G' => lstOf G' (.ref a) = some ds) G1
    | none => False
  | _ => False
def dIRng1 (t : TAD) (X : DXK) (ρ : Ro) (G : GH) (Q : List D → (GH → Prop) → GH → Prop) : Prop := t X ρ G fun xs G1 => arg1 xs fun x => match x with
  | .int j => (-(2 ^ 62) ≤ j ∧ j < 2 ^ 62) ∧ Q (rangeD 0 j.toNat) (fun _ => True) G1
  | _ => False
def dIRng2 (t : TAD) (X : DXK) (ρ : Ro) (G : GH) (Q : List D → (GH → Prop) → GH → Prop) : Prop := t X ρ G fun xs G1 => arg2 xs fun x y => match x, y with
  | .int i, .int j => (-(2 ^ 62) ≤ i ∧ i < 2 ^ 62 ∧ -(2 ^ 62) ≤ j ∧ j < 2 ^ 62) ∧ Q (rangeD i (j - i).toNat) (fun _ => True) G1
  | _, _ => False
/-- zip of two lists or of two tuples -/
def zipD (xs ys : List D) : List D := List.zipWith (fun a b => D.tup [a, b]) xs ys
def dIZip (t : TAD) (X : DXK) (ρ : Ro) (G : GH) (Q : List D → (GH → Prop) → GH → Prop) : Prop := t X ρ G fun xs G1 => arg2 xs fun x y => match x, y with
  | .tup as, .tup bs => Q (zipD as bs) (fun _ => True) G1
  | .ref a, .ref b => match lstOf G1 (.ref a), lstOf G1 (.ref b) with
    | some as, some bs => Q (zipD as bs) (fun G' => lstOf G' (.ref a) = some as ∧ lstOf G' (.ref b) = some bs) G1
    | _, _ => False
  | _, _ => False
def enumD (k : Nat) : List D → List D
  | [] => []
  | d :: r => .tup [.int (k : Nat), d] :: enumD (k + 1) r
def dIEnum (t : TAD) (X : DXK) (ρ : Ro) (G : GH) (Q : List D → (GH → Prop) → GH → Prop) : Prop := t X ρ G fun xs G1 => arg1 xs fun x => match lstOf G1 x with
    | some ds => Q (enumD 0 ds) (fun G' => lstOf G' x = some ds) G1
    | none => match x with
      | .tup ds => Q (enumD 0 ds) (fun _ => True) G1
      | _ => False
theorem enumD_len : ∀ (ds : List D) (k : Nat), (enumD k ds).length = ds.length
  | [], _ => rfl
  | d :: r, k => by simp [enumD, enumD_len r]
theorem enumD_get : ∀ (ds : List D) (k i : Nat), (enumD k ds)[i]? = (ds[i]?).map fun d => D.tup [.int ((k + i : Nat)), d]
  | [], _, _ => by simp [enumD]
  | d :: r, k, 0 => by simp [enumD]
  | d :: r, k, i + 1 => by
    simp only [enumD, List.getElem?_cons_succ]
    rw [enumD_get r (k + 1) i, show k + 1 + i = k + (i + 1) by omega]
section
variable {Θ : AbsI} {K : PySem.W.Frag} {H0 : Hp} {chk : GH → Prop}
theorem itd_list {a : Addr} {ds : List D} : ItD Θ K H0 (Itl K a) ds (fun G' => lstOf G' (.ref a) = some ds) := by
  refine ⟨fun H => ∃ xs, SqL K H a xs ∧ IsL K H ds xs, fun H G F _ r c => ?_, ?_, ?_, ?_⟩
  · obtain ⟨a', xs, e1, e2, h1, h2⟩ := r.lstOf c .ref
    cases e2
    exact ⟨xs, h1, h2⟩
  · rintro i H hi ⟨xs, h1, h2⟩
    have : i < xs.length := by rw [h2.len]; exact hi
    exact ⟨xs, xs[i], h1, List.getElem?_eq_getElem this⟩
  · rintro H ⟨xs, h1, h2⟩
    exact ⟨xs, h1, Nat.le_of_eq h2.len⟩
  · rintro i H x H' hi ⟨xs, h1, h2⟩ ⟨rfl, h⟩
    obtain ⟨d, e1, e2⟩ := h2.of_get (h xs h1)
    exact ⟨d, e1, e2, Ext.refl, fun _ _ r => r⟩
theorem itd_tup {a : Addr} {xs : List V} {ds : List D} (h1 : SqT K H0 a xs) (h2 : IsL K H0 ds xs) : ItD Θ K H0 (Itt K a) ds (fun _ => True) := by
  refine ⟨fun H => SqT K H a xs ∧ IsL K H ds xs, fun H G F e r c => ⟨e _ _ h1, IsL.ext e _ h2⟩, ?_, ?_, ?_⟩
  · rintro i H hi ⟨h1, h2⟩
    have : i < xs.length := by rw [h2.len]; exact hi
    exact ⟨xs, xs[i], h1, List.getElem?_eq_getElem this⟩
  · rintro H ⟨h1, h2⟩
    exact ⟨xs, h1, Nat.le_of_eq h2.len⟩
  · rintro i H x H' hi ⟨h1, h2⟩ ⟨rfl, h⟩
    obtain ⟨d, e1, e2⟩ := h2.of_get (h xs h1)
    exact ⟨d, e1, e2, Ext.refl, fun _ _ r => r⟩
theorem itd_range {lo : Int} {n : Nat} : ItD Θ K H0 (Itr lo n) (rangeD lo n) (fun _ => True) := by
  have hl : (rangeD lo n).length = n := by simp [rangeD]
  refine ⟨fun _ => True, fun _ _ _ _ _ _ => trivial, ?_, ?_, ?_⟩
  · intro i H hi _
    show i < n
    rw [hl] at hi; exact hi
  · intro H _
    show n ≤ _
    rw [hl]; exact Nat.le_refl _
  · rintro i H x H' hi _ ⟨rfl, rfl⟩
    rw [hl] at hi
    refine ⟨.int (lo + i), ?_, rfl, Ext.refl, fun _ _ r => r⟩
    simp [rangeD, hi]
theorem itd_str {z : Str} : ItD Θ K H0 (Its z) (charsD z) (fun _ => True) := by
  have hl : (charsD z).length = z.cps.size := by simp [charsD]
  refine ⟨fun _ => True, fun _ _ _ _ _ _ => trivial, ?_, ?_, ?_⟩
  · intro i H hi _
    rw [hl] at hi
    exact walk_str.goes i H hi trivial
  · intro H _
    rw [hl]
    exact walk_str.stops H trivial
  · intro i H x H' hi _ y
    rw [hl] at hi
    obtain ⟨rfl, c, e, rfl⟩ := walk_str.yields i H x H' hi trivial y
    refine ⟨.str ⟨#[c]⟩, ?_, rfl, Ext.refl, fun _ _ r => r⟩
    simp only [charsD, List.getElem?_map, Array.getElem?_toList, e, Option.map_some]
theorem zipD_get {as bs : List D} {i : Nat} {a b : D} (h1 : as[i]? = some a) (h2 : bs[i]? = some b) : (zipD as bs)[i]? = some (.tup [a, b]) := by
  unfold zipD
  rw [List.getElem?_zipWith, h1, h2]
theorem zipD_len (as bs : List D) : (zipD as bs).length = min as.length bs.length := by simp [zipD]
theorem itd_zipL {a b : Addr} {as bs : List D} : ItD Θ K H0 (Itz K a b) (zipD as bs) (fun G' => lstOf G' (.ref a) = some as ∧ lstOf G' (.ref b) = some bs) := by
  refine ⟨fun H => ∃ xs ys, SqL K H a xs ∧ IsL K H as xs ∧ SqL K H b ys ∧ IsL K H bs ys, fun H G F _ r c => ?_, ?_, ?_, ?_⟩
  · obtain ⟨a', xs, e1, e2, h1, h2⟩ := r.lstOf c.1 .ref
    obtain ⟨b', ys, e3, e4, h3, h4⟩ := r.lstOf c.2 .ref
    cases e2; cases e4
    exact ⟨xs, ys, h1, h2, h3, h4⟩
  · rintro i H hi ⟨xs, ys, h1, h2, h3, h4⟩
    rw [zipD_len] at hi
    have i1 : i < xs.length := by rw [h2.len]; omega
    have i2 : i < ys.length := by rw [h4.len]; omega
    exact ⟨xs, ys, _, _, h1, h3, List.getElem?_eq_getElem i1, List.getElem?_eq_getElem i2⟩
  · rintro H ⟨xs, ys, h1, h2, h3, h4⟩
    rw [zipD_len]
    refine ⟨xs, ys, h1, h3, ?_⟩
    rw [h2.len, h4.len]; omega
  · rintro i H v H' hi ⟨xs, ys, h1, h2, h3, h4⟩ ⟨T, x, y, rfl, hT, rfl, q1, q2⟩
    obtain ⟨d, e1, e2⟩ := h2.of_get (q1 xs h1)
    obtain ⟨e, e3, e4⟩ := h4.of_get (q2 ys h3)
    exact ⟨.tup [d, e], zipD_get e1 e3, .tup (SqT.of upd_same) (.cons (e2.ext (ext_upd_new hT) _) (.cons (e4.ext (ext_upd_new hT) _) .nil)), ext_upd_new hT, fun _ _ r => r.newH hT⟩
theorem itd_zipT {a b : Addr} {xs ys : List V} {as bs : List D} (h1 : SqT K H0 a xs) (h2 : IsL K H0 as xs) (h3 : SqT K H0 b ys) (h4 : IsL K H0 bs ys) : ItD Θ K H0 (RZ.ItzT K a b) (zipD as bs) (fun _ => True) := by
  refine ⟨fun H => SqT K H a xs ∧ IsL K H as xs ∧ SqT K H b ys ∧ IsL K H bs ys, fun H G F e r c => ⟨e _ _ h1, IsL.ext e _ h2, e _ _ h3, IsL.ext e _ h4⟩, ?_, ?_, ?_⟩
  · rintro i H hi ⟨h1, h2, h3, h4⟩
    rw [zipD_len] at hi
    have i1 : i < xs.length := by rw [h2.len]; omega
    have i2 : i < ys.length := by rw [h4.len]; omega
    exact ⟨xs, ys, _, _, h1, h3, List.getElem?_eq_getElem i1, List.getElem?_eq_getElem i2⟩
  · rintro H ⟨h1, h2, h3, h4⟩
    rw [zipD_len]
    refine ⟨xs, ys, h1, h3, ?_⟩
    rw [h2.len, h4.len]; omega
  · rintro i H v H' hi ⟨h1, h2, h3, h4⟩ ⟨T, x, y, rfl, hT, rfl, q1, q2⟩
    obtain ⟨d, e1, e2⟩ := h2.of_get (q1 xs h1)
    obtain ⟨e, e3, e4⟩ := h4.of_get (q2 ys h3)
    exact ⟨.tup [d, e], zipD_get e1 e3, .tup (SqT.of upd_same) (.cons (e2.ext (ext_upd_new hT) _) (.cons (e4.ext (ext_upd_new hT) _) .nil)), ext_upd_new hT, fun _ _ r => r.newH hT⟩
theorem itd_enumT {a : Addr} {xs : List V} {ds : List D} (h1 : SqT K H0 a xs) (h2 : IsL K H0 ds xs) : ItD Θ K H0 (IteT K a) (enumD 0 ds) (fun _ => True) := by
  refine ⟨fun H => SqT K H a xs ∧ IsL K H ds xs, fun H G F e r c => ⟨e _ _ h1, IsL.ext e _ h2⟩, ?_, ?_, ?_⟩
  · rintro i H hi ⟨h1, h2⟩
    rw [enumD_len] at hi
    have : i < xs.length := by rw [h2.len]; exact hi
    exact ⟨xs, xs[i], h1, List.getElem?_eq_getElem this⟩
  · rintro H ⟨h1, h2⟩
    exact ⟨xs, h1, by rw [enumD_len, h2.len]; exact Nat.le_refl _⟩
  · rintro i H v H' hi ⟨h1, h2⟩ ⟨T, x, rfl, hT, rfl, q⟩
    obtain ⟨e, e3, e4⟩ := h2.of_get (q xs h1)
    refine ⟨.tup [.int (i : Nat), e], ?_, .tup (SqT.of upd_same) (.cons .int (.cons (e4.ext (ext_upd_new hT) _) .nil)), ext_upd_new hT, fun _ _ r => r.newH hT⟩
    rw [enumD_get, e3]
    simp
theorem itd_enum {a : Addr} {ds : List D} : ItD Θ K H0 (Ite K a) (enumD 0 ds) (fun G' => lstOf G' (.ref a) = some ds) := by
  refine ⟨fun H => ∃ xs, SqL K H a xs ∧ IsL K H ds xs, fun H G F _ r c => ?_, ?_, ?_, ?_⟩
  · obtain ⟨a', xs, e1, e2, h1, h2⟩ := r.lstOf c .ref
    cases e2
    exact ⟨xs, h1, h2⟩
  · rintro i H hi ⟨xs, h1, h2⟩
    rw [enumD_len] at hi
    exact walk_enum.goes i H (by rw [h2.len]; exact hi) h1
  · rintro H ⟨xs, h1, h2⟩
    rw [enumD_len, ← h2.len]
    exact walk_enum.stops H h1
  · rintro i H v H' hi ⟨xs, h1, h2⟩ y
    rw [enumD_len] at hi
    obtain ⟨T, x, y, rfl, hT, rfl, q1, q2⟩ := walk_enum.yields i H v H' (by rw [h2.len]; exact hi) h1 y
    obtain ⟨e, e3, e4⟩ := h2.of_get q2
    cases q1
    refine ⟨.tup [.int (i : Nat), e], ?_, .tup (SqT.of upd_same) (.cons .int (.cons (e4.ext (ext_upd_new hT) _) .nil)), ext_upd_new hT, fun _ _ r => r.newH hT⟩
    rw [enumD_get, e3]
    simp
end
section
variable {X : Cx} {Θ : AbsI} {W : WX} {tg e e2 : Expr} {te : TED} {t : TAD} {p pos : Pos}
theorem di_seq (he : PE X e (lowE Θ X.K W te)) : PI X tg e (lowI Θ X.K W (dISeq te)) := by
  refine ⟨fun pins s σ H R I h => ?_⟩
  obtain ⟨ρ, G, F, Q, DX, e, r, h, x, k⟩ := h
  refine thn (he.run pins s σ H _ I (lowE_mk (R := fun v H1 => ∃ d G1, Ext X.K H H1 ∧ Is X.K H1 d v ∧ Rep Θ X.K H1 G1 F ∧ _) e r x h fun v H1 d G1 e1 i1 r1 q1 => ⟨d, G1, e1, i1, r1, q1⟩)) fun v s1 ⟨x, H1, I1, r1, d, G1, e1, i1, r2, q1⟩ => ?_
  have fp : ∀ b ∈ [s1.heap.objs.size], FpOk X pins H1 b := fun b hb => by
    have e : b = s1.heap.objs.size := by simpa using hb
    subst e
    exact I1.fpOk (Nat.le_refl _) (I1.hok.fresh (Nat.le_refl _))
  cases d with
  | tup ds =>
    obtain ⟨a, xs, rfl, hq, hl⟩ := i1
    cases r1
    obtain ⟨its, rv, p, hz⟩ := I1.tuple hq
    refine wpAny_pyIter_tuple (show s1.heap.IsTuple a its.toArray from p) ?_
    exact ⟨s1.heap.objs.size, [s1.heap.objs.size], _, _, H1, rfl, I1.kept (t' := s1.toks) fun b o e => Heap.get?_push_of_some _ e, turn_tuple a _, ⟨_, Heap.get?_push_size _ rfl, rfl, rfl⟩, fp, k _ _ _ _ _ e1 r2 (itd_tup hq hl) q1⟩
  | str z =>
    cases i1
    obtain ⟨t, rfl⟩ := r1
    have hk := k _ _ _ _ _ e1 r2 (itd_str (z := z)) q1
    cases ha : z.cps.all (· < 128)
    · exact wpAny_pyIter_wide ha (pi_one (tk := s1.toks) I1 _ (turn_str _ z t "str_iterator" (.inr rfl)) ⟨_, Heap.get?_push_size _ rfl, rfl, rfl⟩ hk)
    · exact wpAny_pyIter_ascii ha (pi_one (tk := s1.toks) I1 _ (turn_str _ z t "str_ascii_iterator" (.inl rfl)) ⟨_, Heap.get?_push_size _ rfl, rfl, rfl⟩ hk)
  | ref a =>
    cases c : lstOf G1 (.ref a) with
    | none => simp only [c] at q1
    | some ds =>
      simp only [c] at q1
      obtain ⟨a', xs, e3, e4, hq, hl⟩ := r2.lstOf c i1
      cases e4
      cases i1
      cases r1
      obtain ⟨its, rv, p, hz⟩ := I1.list hq
      refine wpAny_pyIter_list p.isList ?_
      exact ⟨s1.heap.objs.size, [s1.heap.objs.size], _, _, H1, rfl, I1.kept (t' := s1.toks) fun b o e => Heap.get?_push_of_some _ e, turn_list a _, ⟨_, Heap.get?_push_size _ rfl, rfl, rfl⟩, fp, k _ _ _ _ _ e1 r2 itd_list q1⟩
  | _ => exact q1.elim
theorem di_rng1 (hg : Gl X "range") (hm : X.mg "range" = none) (ha : PA X [e] (lowA Θ X.K W t)) (hs : starEach [e] X.env = [(false, eval e X.env)]) : PI X tg (.Call (.Name "range" p) [e] [] pos) (lowI Θ X.K W (dIRng1 t)) :=
  (pi_range1 hg hm ha hs).weak fun σ H R ⟨ρ, G, F, Q, DX, e, r, h, x, k⟩ => lowA_mk e r x h fun vs H1 ds G1 e1 i1 r1 q1 => by
    obtain ⟨d, rfl, q2⟩ := arg1_of q1
    obtain ⟨v, rfl, j1⟩ := i1.one
    cases d with
    | int j =>
      cases j1
      exact ⟨j, rfl, q2.1.1, q2.1.2, k _ _ _ _ _ e1 r1 itd_range q2.2⟩
    | _ => exact q2.elim
theorem di_rng2 (hg : Gl X "range") (hm : X.mg "range" = none) (ha : PA X [e, e2] (lowA Θ X.K W t)) (hs : starEach [e, e2] X.env = [(false, eval e X.env), (false, eval e2 X.env)]) (hs2 : starEach [e2] X.env = [(false, eval e2 X.env)]) :
    PI X tg (.Call (.Name "range" p) [e, e2] [] pos) (lowI Θ X.K W (dIRng2 t)) :=
  (pi_range2 hg hm ha hs hs2).weak fun σ H R ⟨ρ, G, F, Q, DX, e, r, h, x, k⟩ => lowA_mk e r x h fun vs H1 ds G1 e1 i1 r1 q1 => by
    obtain ⟨d, d2, rfl, q2⟩ := arg2_of q1
    obtain ⟨v, v2, rfl, j1, j2⟩ := i1.two
    cases d with
    | int j =>
      cases d2 with
      | int j2 =>
        cases j1; cases j2
        exact ⟨j, j2, rfl, q2.1, k _ _ _ _ _ e1 r1 itd_range q2.2⟩
      | _ => exact q2.elim
    | _ => exact q2.elim
theorem di_zip {elts : List Expr} {kk : Nat} {tpos : Pos} (hg : Gl X "zip") (hm : X.mg "zip" = none) (ha : PA X [e, e2] (lowA Θ X.K W t)) (hs : starEach [e, e2] X.env = (false, eval e X.env) :: starEach [e2] X.env) (hpl : (backTo pos (starEach [e2] X.env)).any (·.1) = false) :
    PI X (.Tuple elts kk tpos) (.Call (.Name "zip" p) [e, e2] [] pos) (lowI Θ X.K W (dIZip t)) :=
  (RZ.pi_zipA hg hm ha hs hpl).weak fun σ H R ⟨ρ, G, F, Q, DX, e, r, h, x, k⟩ => lowA_mk e r x h fun vs H1 ds G1 e1 i1 r1 q1 => by
    obtain ⟨d, d2, rfl, q2⟩ := arg2_of q1
    obtain ⟨v, v2, rfl, j1, j2⟩ := i1.two
    cases d with
    | tup as =>
      cases d2 with
      | tup bs =>
        obtain ⟨a, xs, rfl, t1, s1⟩ := j1
        obtain ⟨b, ys, rfl, t2, s2⟩ := j2
        exact ⟨a, b, xs, ys, rfl, .inr ⟨t1, t2, k _ _ _ _ _ e1 r1 (itd_zipT t1 s1 t2 s2) q2⟩⟩
      | _ => exact q2.elim
    | ref a =>
      cases d2 with
      | ref b =>
        cases j1; cases j2
        cases c1 : lstOf G1 (.ref a) with
        | none =>

          simp only [c1] at q2
        | some as =>
          cases c2 : lstOf G1 (.ref b) with
          | none =>

            simp only [c1, c2] at q2
          | some bs =>

            simp only [c1, c2] at q2
            obtain ⟨a', xs, e3, e4, t1, s1⟩ := r1.lstOf c1 .ref
            obtain ⟨b', ys, e5, e6, t2, s2⟩ := r1.lstOf c2 .ref
            cases e4; cases e6
            exact ⟨a, b, xs, ys, rfl, .inl ⟨t1, t2, k _ _ _ _ _ e1 r1 itd_zipL q2⟩⟩
      | _ => exact q2.elim
    | _ => exact q2.elim
theorem di_enum {elts : List Expr} {kk : Nat} {tpos : Pos} (hg : Gl X "enumerate") (hm : X.mg "enumerate" = none) (ha : PA X [e] (lowA Θ X.K W t)) (hs : starEach [e] X.env = [(false, eval e X.env)]) :
    PI X (.Tuple elts kk tpos) (.Call (.Name "enumerate" p) [e] [] pos) (lowI Θ X.K W (dIEnum t)) :=
  (pi_enumA hg hm ha hs).weak fun σ H R ⟨ρ, G, F, Q, DX, e, r, h, x, k⟩ => lowA_mk e r x h fun vs H1 ds G1 e1 i1 r1 q1 => by
    obtain ⟨d, rfl, q2⟩ := arg1_of q1
    obtain ⟨v, rfl, j1⟩ := i1.one
    cases c1 : lstOf G1 d with
    | none =>
      simp only [c1] at q2
      cases d with
      | tup as =>
        obtain ⟨a, xs, rfl, t1, s1⟩ := j1
        exact ⟨a, xs, rfl, .inr ⟨t1, k _ _ _ _ _ e1 r1 (itd_enumT t1 s1) q2⟩⟩
      | _ => exact q2.elim
    | some as =>
      simp only [c1] at q2
      obtain ⟨a, xs, e3, e4, t1, s1⟩ := r1.lstOf c1 j1
      subst e3
      subst e4
      exact ⟨a, xs, rfl, .inl ⟨t1, k _ _ _ _ _ e1 r1 itd_enum q2⟩⟩
end
end Dl

namespace Dl
open PySem PySem.Spec PyProof.Rows L2
/-! ### comprehensions of two clauses -/
def dLc2L (chk : GH → Prop) (g : TGD) (tt : TTD) (ti1 : TID) (g1 : TGD) (tt1 : TTD) (te : TED) (vs vs1 : List Nat) (ρ : Ro) : List D → GH → (List D → GH → Prop) → Prop
  | [], G, Q => chk G ∧ Q [] G
  | d :: r, G, Q => chk G ∧ g d noX (wipeD ρ vs) G fun ρ2 G2 => tt noX ρ2 G2 fun b G3 =>
      dIte b (ti1 noX ρ2 G3 fun ds1 chk1 G4 => ds1.length ≤ 1000 ∧ dLcL chk1 g1 tt1 te vs1 ρ2 ds1 G4 fun ys G5 => dLc2L chk g tt ti1 g1 tt1 te vs vs1 ρ r G5 fun zs G6 => Q (ys ++ zs) G6) (dLc2L chk g tt ti1 g1 tt1 te vs vs1 ρ r G3 Q)
def dLc2 (ti : TID) (g : TGD) (tt : TTD) (ti1 : TID) (g1 : TGD) (tt1 : TTD) (te : TED) (vs vs1 : List Nat) (X : DXK) (ρ : Ro) (G : GH) (Q : DK) : Prop :=
  ti X ρ G fun ds chk G1 => ds.length ≤ 1000 ∧ dLc2L chk g tt ti1 g1 tt1 te vs vs1 ρ ds G1 fun ys G2 => ∀ p, G2 p = none → Q (.ref p) (gup G2 p (.lst ys))
theorem wipe_idem (σ : L2.St) (l : List Nat) : L2.wipe (L2.wipe σ l) l = L2.wipe σ l := by
  have gen : ∀ (l m : List Nat), (∀ i ∈ l, i ∈ m) → ∀ τ : L2.St, L2.wipe (L2.wipe τ l) m = L2.wipe τ m := by
    intro l
    induction l with
    | nil => intro m _ τ; rfl
    | cons i l ih =>
      intro m hm τ
      show L2.wipe ((L2.wipe τ l).set i none) m = _
      rw [wipe_set_in (hm i List.mem_cons_self)]
      exact ih m (fun j hj => hm j (List.mem_cons_of_mem _ hj)) τ
  exact gen l l (fun _ h => h) σ
/-- one loop that adds to the list at D -/
theorem add_it {J : It} {n : Nat} {Gc : Hp → Prop} {Y : Nat → Hp → V → Hp → Prop} (w : Walk J n Gc Y) {body : V → Hp → (Hp → Prop) → Prop} {H4 : Hp} {Qd : Hp → Prop} (Pv : Nat → Hp → Prop) (h0 : Pv 0 H4) (hG : ∀ i H, i ≤ n → Pv i H → Gc H)
    (hs : ∀ i x H H', i < n → Pv i H → Y i H x H' → body x H' (Pv (i + 1))) (hd : ∀ H, Pv n H → Qd H) :
    ∃ W : Nat → Nat → Hp → Prop, (∃ m, W 0 m H4) ∧ ∀ i m H, W i m H →
      (J.stop i H ∧ Qd H) ∨ (J.go i H ∧ ∃ Nx : Hp → Prop, (∀ H', Nx H' → ∃ m', m' < m ∧ W (i + 1) m' H') ∧ ∀ x H', J.yld i H x H' → body x H' Nx) := by
  refine ⟨fun i m H => m = n - i ∧ i ≤ n ∧ Pv i H, ⟨n, by simp, Nat.zero_le _, h0⟩, ?_⟩
  rintro i m H ⟨rfl, hi, p⟩
  have q := hG i H hi p
  by_cases hlt : i < n
  · exact .inr ⟨w.goes i H hlt q, Pv (i + 1), fun H' p' => ⟨n - (i + 1), by omega, rfl, hlt, p'⟩, fun x H' y => hs i x H H' hlt p (w.yields i H x H' hlt q y)⟩
  · have e : i = n := by omega
    subst e
    exact .inl ⟨w.stops H q, hd H p⟩
section
variable {X : Cx} {Θ : AbsI} {W : WX} {pos : Pos} {tg iter : Expr} {ti ti1 : TID} {g g1 : TGD} {t : TSD}
theorem lc2_low {tt tt1 : TTD} {te : TED} {vs vs1 : List Nat} {W' : WX} (hW : W' = fun _ _ _ _ => False) (σ : L2.St) (H : Hp) (R : VK) (h : lowE Θ X.K W (dLc2 ti g tt ti1 g1 tt1 te vs vs1) σ H R) :
    tLc2 (lowI Θ X.K W ti) (lowG Θ X.K W' vs g) (lowT Θ X.K W' tt) (lowI Θ X.K W' ti1) (lowG Θ X.K W' vs1 g1) (lowT Θ X.K W' tt1) (lowE Θ X.K W' te) vs vs1 σ H R := by
  subst hW
  obtain ⟨ρ, G, F, Q, DX, e, r, h, x, k⟩ := h
  refine ⟨ρ, G, F, _, DX, e, r, h, x, fun J H1 ds chk G1 e1 r1 ⟨Gc, hGc, w⟩ q1 Da hD => ?_⟩
  obtain ⟨hlen, q1⟩ := q1
  have hF : F Da = none := (r1.free hD).2
  have noX' : ∀ H F', XTo Θ X.K (fun _ _ _ _ => False) noX H F' := fun H F' cls d σ' H' e ρ' G' _ _ _ _ z => z.elim
  refine add_it w (body := fun x H' Nx => _) (fun i H => ∃ G acc ds', Ext X.K H1 H ∧ Rep Θ X.K H G (upd F Da (.lst acc)) ∧ IsL X.K H ds' acc ∧ acc.length ≤ i * 1000 ∧ dLc2L chk g tt ti1 g1 tt1 te vs vs1 ρ (ds.drop i) G fun ys G' => ∀ p, G' p = none → Q (.ref p) (gup G' p (.lst (ds' ++ ys))))
    ⟨G1, [], [], ext_upd_new hD, r1.frame hD (fun _ z => nomatch z), .nil, Nat.zero_le _, q1⟩ ?_ ?_ ?_
  · rintro i H hi ⟨G, acc, ds', x2, r2, l2, hl, q2⟩
    refine hGc H G _ x2 r2 ?_
    cases hd : ds.drop i with
    | nil => rw [hd] at q2; exact q2.1
    | cons d l => rw [hd] at q2; exact q2.1
  · rintro i v H H' hi ⟨G, acc, ds', x2, r2, l2, hl, q2⟩ ⟨d, hd, id, xd, rd⟩
    have hdr : ds.drop i = d :: ds.drop (i + 1) := by
      obtain ⟨hl, he⟩ := List.getElem?_eq_some_iff.mp hd
      rw [List.drop_eq_getElem_cons hl, he]
    rw [hdr] at q2
    have x3 := x2.trans xd
    have env : EnvIs X.K H' (wipeD ρ vs) (L2.wipe σ vs) := (e.wipe vs).ext (e1.trans x3)
    refine lowG_mk env (rd G _ r2) id (noX' _ _) q2.2 fun σ4 H4 ρ4 G4 x4 e4 w4 r4 q4 => ⟨?_, ?_⟩
    · rw [w4]
      exact wipe_idem σ vs
    · refine lowT_mk e4 r4 (noX' _ _) q4 fun b H5 G5 x5 r5 q5 => ?_
      have x6 := x3.trans (x4.trans x5)
      have l6 := IsL.ext (xd.trans (x4.trans x5)) _ l2
      cases b with
      | true =>
        rw [if_pos rfl]
        refine ⟨ρ4, G5, upd F Da (.lst acc), _, noX, e4.ext x5, r5, q5.1 rfl, noX' _ _, fun J1 H7 ds1 chk1 G7 e7 r7 ⟨Gc1, hGc1, w1⟩ q7 => ?_⟩
        obtain ⟨hlen1, q7⟩ := q7
        have x8 := x6.trans e7
        have l8 := IsL.ext e7 _ l6
        refine add_it w1 (body := fun x H' Nx => _) (fun j H => ∃ G acc ds', Ext X.K H1 H ∧ Ext X.K H7 H ∧ Rep Θ X.K H G (upd F Da (.lst acc)) ∧ IsL X.K H ds' acc ∧ acc.length ≤ i * 1000 + j ∧ dLcL chk1 g1 tt1 te vs1 ρ4 (ds1.drop j) G fun ys G5 => dLc2L chk g tt ti1 g1 tt1 te vs vs1 ρ (ds.drop (i + 1)) G5 fun zs G6 => ∀ p, G6 p = none → Q (.ref p) (gup G6 p (.lst (ds' ++ (ys ++ zs)))))
          ⟨G7, acc, ds', x8, Ext.refl, r7, l8, hl, q7⟩ ?_ ?_ ?_
        · rintro j H hj ⟨G, acc, ds', x9, x90, r9, l9, hl9, q9⟩
          refine hGc1 H G _ x90 r9 ?_
          cases hd : ds1.drop j with
          | nil => rw [hd] at q9; exact q9.1
          | cons d l => rw [hd] at q9; exact q9.1
        · rintro j v1 H H' hj ⟨G, acc, ds', x9, x90, r9, l9, hl9, q9⟩ ⟨d1, hd1, id1, xd1, rd1⟩
          have hdr1 : ds1.drop j = d1 :: ds1.drop (j + 1) := by
            obtain ⟨hl, he⟩ := List.getElem?_eq_some_iff.mp hd1
            rw [List.drop_eq_getElem_cons hl, he]
          rw [hdr1] at q9
          have env1 : EnvIs X.K H' (wipeD ρ4 vs1) (L2.wipe σ4 vs1) := (e4.wipe vs1).ext ((x5.trans e7).trans (x90.trans xd1))
          refine lowG_mk env1 (rd1 G _ r9) id1 (noX' _ _) q9.2 fun σ10 H10 ρ10 G10 x10 e10 w10 r10 q10 => ⟨?_, ?_⟩
          · rw [w10]
            exact wipe_idem σ4 vs1
          · refine lowT_mk e10 r10 (noX' _ _) q10 fun b H11 G11 x11 r11 q11 => ?_
            have y0 := xd1.trans (x10.trans x11)
            have l11 := IsL.ext y0 _ l9
            cases b with
            | true =>
              rw [if_pos rfl]
              refine lowE_mk (e10.ext x11) r11 (noX' _ _) (q11.1 rfl) fun v H12 y G12 x12 i12 r12 q12 => ?_
              obtain ⟨a12, b12⟩ := r12.at
              have hsz : (i + 1) * 1000 ≤ 1000000 := by
                have : i + 1 ≤ 1000 := Nat.le_trans hi hlen
                omega
              have hj1 : j < 1000 := Nat.lt_of_lt_of_le hj hlen1
              refine ⟨acc, a12, by rw [sizeLine_eq]; omega, G12, acc ++ [v], ds' ++ [y], (x9.trans (y0.trans x12)).trans (ext_upd_mut a12 trivial), (x90.trans (y0.trans x12)).trans (ext_upd_mut a12 trivial), ?_, ?_, ?_, ?_⟩
              · have := r12.writeF (o := .lst (acc ++ [v])) (p := Da) upd_same trivial (fun _ z => nomatch z)
                rw [upd_upd] at this
                exact this
              · exact IsL.ext (ext_upd_mut a12 trivial) _ ((IsL.ext x12 _ l11).snoc i12)
              · rw [List.length_append]
                exact Nat.succ_le_succ hl9
              · simpa using q12
            | false =>
              rw [if_neg Bool.false_ne_true]
              exact ⟨G11, acc, ds', x9.trans y0, x90.trans y0, r11, l11, Nat.le_succ_of_le hl9, q11.2 rfl⟩
        · rintro H ⟨G, acc, ds', x9, x90, r9, l9, hl9, q9⟩
          rw [List.drop_length] at q9
          refine ⟨G, acc, ds', x9, r9, l9, by omega, ?_⟩
          have := q9.2
          simpa using this
      | false =>
        rw [if_neg Bool.false_ne_true]
        exact ⟨G5, acc, ds', x6, r5, l6, by omega, q5.2 rfl⟩
  · rintro H ⟨G, acc, ds', x2, r2, l2, hl, q2⟩
    rw [List.drop_length] at q2
    obtain ⟨_, q2⟩ := q2
    obtain ⟨a2, b2⟩ := r2.at
    rw [List.append_nil] at q2
    exact k _ _ _ _ (e1.trans x2) .ref (r2.unframe hF fun own => .lst a2 l2) (q2 Da b2)
end
end Dl

/-! super().__init__(text) in an own exception's __init__, over the hand layer's invariant. -/
namespace Dl
open PySem PySem.Spec PyProof.Rows L2
/-- what the written part and the def's own frame say -/
structure SupF (X : Cx) (C : Addr) (slf : Str) : Prop where
  hk : X.env.scope.kind = .function
  hks : X.env.kindOf "super" = some .globalImplicit
  hkc : X.env.kindOf "__class__" = some .free
  hka : X.env.kindOf slf = some .local
  fn : ∃ (f : Addr) (oc : Value) (od : Option Addr) (fd : FuncData) (osl : Array (Option Value)) (ar : Arg), X.env.func = some f ∧ X.K.lookup f = some ⟨oc, od, .func fd, osl⟩ ∧ (fd.params.posonlyargs ++ fd.params.args).head? = some ar ∧ ar.arg = slf
  code : ∃ (cda : Addr) (ccl : Value) (cdd : Option Addr) (vs : Array Value) (ccs : Array (Option Value)) (file : Str) (tf : Tok), X.env.code = .ref cda ∧ X.K.lookup cda = some ⟨ccl, cdd, .fields vs, ccs⟩ ∧ vs[2]? = some (.str file tf) ∧ ((X.prog.main.file : Str) == file) = true
  top : (X.prog.main.scope.names.lookup ("super" : Str)).isSome = false
  cell : ∃ (cc : Addr) (cl : Value) (cld : Option Addr) (csl : Array (Option Value)), X.env.cells.lookup ("__class__" : Str) = some cc ∧ X.K.lookup cc = some ⟨cl, cld, .cell (some (.ref C)), csl⟩
  mg : X.mg "super" = none
  opq : PySem.W.nsIn X.K PySem.cStatics "thirdparty.any" = some none
  sub : PySem.W.mroIn X.K C (.ref C) = some true
  ve : PySem.W.subIn X.K (.ref C) (.type "ValueError") = some true
  mro : PySem.W.ks_superIn X.K C C "__init__" = some (some (.builtin "ValueError.__init__"))
section
open PySem.W
variable {prog : Program} {w : World} {A : Around} {E : Value → Shared → Prop} {h : Heap} {g : Array GenState} {d : Drawn} {t : Nat} {os : OsState}
variable {nm q : Str} {C N : Addr} {bs bm : List Value} {hdct : Bool} {sn : List Str} {sub : List Value} {ab : Bool} {col : Option Bool} {dd : Option Addr} {k0 k1 k2 k3 k5 : Option Value}
theorem call_mw {u e t0 : Addr} {rest : List Value} {Q : Value → Shared → Prop} (hbm : HandSPX.refsVE bm = true)
    (hC : h.get? C = some (excClassObj nm q C N bs bm hdct sn sub ab col dd k0 k1 k2 k3 k5 "ValueError.__new__")) (he : h.get? e = some (HandSPX.excO C t0)) (hu : h.get? u = some (kxs_mw "ValueError.__init__" e)) (hrest : rest.length ≤ sizeLine)
    (hq : ∀ h' t1, (∀ b o, b ≠ e → h.get? b = some o → h'.get? b = some o) → h'.get? e = some (HandSPX.excO C t1) → Q .none ⟨h', g, d, t, os⟩) :
    wpAny (model prog w) A (call (.ref u) rest) Q E ⟨h, g, d, t, os⟩ := by
  refine wpAny_call (codeAny_of_tree ?_)
  show wpAny _ A.in1 (callAny (.ref u) ⟨rest, []⟩) _ _ _
  simp only [callAny]
  refine wpAny_bind (wpAny_load hu ?_)
  simp only [kxs_mw, show (Value.type "method-wrapper" == Value.type "method" || Value.type "method-wrapper" == Value.type "builtin_function_or_method" || Value.type "method-wrapper" == Value.type "method-wrapper") = true by decide, if_true]
  refine W.KFB.if_so (by decide) ?_
  refine wpAny_bind (ESX.check_bound F.excBase_ValueError hC he rfl ?_)
  refine wpAny_bind (wpAny_pure (wpAny_pure ?_))
  refine ⟨Code.quiet_builtin _ (by decide +kernel), codeAny_builtin F.excBase_ValueError.initEntry ?_⟩
  rw [Around.under_plainId F.excBase_ValueError.init.plain _]
  wp_walk
  refine hq _ h.objs.size (fun b o hb ho => ?_) ?_
  · rw [Heap.get?_update_other _ _ (Ne.symm hb)]
    exact Heap.get?_push_of_some _ ho
  · rw [Heap.get?_update_self _ (Heap.get?_push_of_some _ he) rfl]
    rfl
end
section
variable {X : Cx} {C a : Addr} {self : Str} {pins : List (Addr × Obj)} {σ : L2.St} {H : Hp} {s : Shared} {body : List Stmt} {p0 p1 p2 p3 pos pos' : Pos} {m : Str} {j : Nat}
/-- the statement super().__init__(text) at the head of an own exception's __init__ -/
theorem sup_stmt (S : SupF X C self) (T : OexC X.K C) (I : Inv X pins σ H s) (ea : H a = some (exo a C none)) {m0 : Str → Option Value} (hns : s.heap.Ns X.env.locals m0) (hself : m0 self = some (.ref a))
    {Q : Flow → Shared → Prop} {E : Value → Shared → Prop} (hi : interactive X.env = false) {pl : Sem Bool}
    (he : eval (.Call (.Attribute (.Call (.Name "super" p0) [] [] p1) "__init__" p2) [.Constant (.str m) j p3] [] pos) X.env = (do
      let ov ← attributeBase (.Call (.Name "super" p0) [] [] p1) "__init__" X.env (eval (.Call (.Name "super" p0) [] [] p1) X.env)
      standAt p2.atName
      let (f, first) ← holding [ov] (getMethod ov "__init__" pl)
      callWith pos f first (backTo pos (starEach [.Constant (.str m) j p3] X.env)) []))
    (hst : starEach [.Constant (.str m) j p3] X.env = (false, eval (.Constant (.str m) j p3) X.env) :: starEach [] X.env) (hpl : (backTo pos (starEach [] X.env)).any (·.1) = false) (hq : ∀ s', Inv X pins σ H s' → Q .next s') :
    PySem.wpAt (model X.prog X.w) X.A (.func body X.env) (exec (.Expr (.Call (.Attribute (.Call (.Name "super" p0) [] [] p1) "__init__" p2) [.Constant (.str m) j p3] [] pos) pos') X.env) Q E s := by
  obtain ⟨f, oc, od, fd, osl, ar, e1, e2, e3, e4⟩ := S.fn
  obtain ⟨cda, ccl, cdd, vs, ccs, file, tf, c1, c2, c3, c4⟩ := S.code
  obtain ⟨cc, cl, cld, csl, d1, d2⟩ := S.cell
  obtain ⟨nm, q, N, bs, bm, sn, sub, ab, col, dd, k0, k1, k2, k3, k5, hC, hbm⟩ := T.cls
  have KX : X.K.In s.heap := I.kIn
  obtain ⟨t1, ho⟩ := exo_at I.hok ea
  subst e4
  refine PySem.ks_wpAt_Expr_any ?_ hi
  refine PySem.ks_wpAt_MethodCall ?_ he
  refine PySem.ks_wpAt_super_base S.hks S.hkc (by decide) e1 (KX _ _ e2) rfl e3 c1 (KX _ _ c2) rfl c3 c4 S.top ?_
  obtain ⟨mb, b1, b2⟩ := I.mod.blt
  refine PySem.W.ks_loadName_global S.hk S.hks (PySem.Calls.loadGlobal_builtin (by rw [I.ok.glob]; exact I.mod.glob.keeps I.bk) S.mg (by rw [I.ok.blt]; exact b1.keeps I.bk) ((b2 _ (by decide)).trans (show bootBuiltins "super" = some (.type "super") by decide +kernel)) ⟨rfl, ?_⟩)
  refine wpAny_loadName_free S.hk S.hkc d1 ⟨_, KX _ _ d2, rfl⟩ ?_
  refine wpAny_loadName_local S.hk S.hka hns hself ?_
  have hCh := KX _ _ hC
  refine PySem.ks_wpAny_isType_cls hCh rfl ⟨rfl, ?_⟩
  obtain ⟨hp, g, d, t, os⟩ := s
  refine PySem.ks_wpAny_call_super hCh rfl ho rfl (fun c e => by cases e) (PySem.W.looks_mroIn KX S.sub) (fun h1 hso k1' => ?_)
  obtain ⟨cd, hcd, hal⟩ : ∃ cd, PySem.W.clsIn X.K C = some cd ∧ PySem.W.alongIn X.K "__init__" ((cd.mro.dropWhile (· != .ref C)).drop 1) = some (some (.builtin "ValueError.__init__")) := by
    have e := S.mro
    unfold PySem.W.ks_superIn at e
    cases z : PySem.W.clsIn X.K C with
    | none => rw [z] at e; cases e
    | some cd => rw [z] at e; exact ⟨cd, rfl, e⟩
  have KX1 : X.K.In h1 := fun b o e => k1' b o (KX b o e)
  have ho1 := k1' _ _ ho
  have hI : PySem.W.InstAt h1 a (HandSPX.excO C t1) C none := ⟨ho1, rfl, rfl, trivial⟩
  refine PySem.W.kxs_getMethod PySem.W.kxs_ValueError hso (PySem.W.looks_opaque KX1 S.opq) (l₀ := cd.mro) (fun A Q E s k q => wpAny_bind ((PySem.W.looks_clsIn KX1 hcd) A _ E s k (wpAny_pure q))) rfl KX1 hal
    (hI.type.andThen (PySem.W.looks_subIn KX1 S.ve)) (PySem.W.ks_ne KX1 hI hcd) (by decide) ?_
  have hu : (h1.push (PySem.W.kxs_mw "ValueError.__init__" a)).get? h1.objs.size = some (PySem.W.kxs_mw "ValueError.__init__" a) := Heap.get?_push_at rfl rfl
  have k2 : ∀ b o, hp.get? b = some o → (h1.push (PySem.W.kxs_mw "ValueError.__init__" a)).get? b = some o := fun b o e => Heap.get?_push_of_some _ (k1' b o e)
  have I2 : Inv X pins σ H ⟨h1.push (PySem.W.kxs_mw "ValueError.__init__" a), g, d, t + 1, os⟩ := I.kept k2
  have hlt : hp.objs.size ≤ h1.objs.size := Nat.le_of_lt (Heap.lt_size hso)
  have fpo := I.fpOk (b := h1.objs.size) hlt (I.hok.fresh hlt)
  have I3 : Inv X ((h1.objs.size, PySem.W.kxs_mw "ValueError.__init__" a) :: pins) σ H ⟨h1.push (PySem.W.kxs_mw "ValueError.__init__" a), g, d, t + 1, os⟩ := I2.pins_of fun p hp => by
    rcases List.mem_cons.mp hp with rfl | hp
    rotate_left
    · exact I2.pin p (List.mem_append_right _ hp)
    refine ⟨hu, fpo.1, ?_, ?_, ?_⟩
    · exact fpo.2.1
    · exact fpo.2.2.1
    · exact fun v e => by cases e
  show wpAny _ _ (callWith pos (.ref h1.objs.size) [] (backTo pos (starEach [.Constant (.str m) j p3] X.env)) []) _ _ _
  rw [hst]
  refine PySem.W.kxs_callWith (i := "ValueError.__init__") (x := a) (by show (false || (backTo pos (starEach [] X.env)).any (·.1)) = false; rw [hpl]; rfl) ?_
  refine PySem.Calls.evalArgs_plain ?_
  have hA := (pa_cons (pe_str (X := X) (x := m) (j := j) (pos := p3)) pa_nil hst).run pos _ _ σ H (fun vs H1 => ∃ v, vs = [v] ∧ H1 = H) I3 ⟨_, rfl, rfl⟩
  rw [hst] at hA
  refine thn hA fun us s3 ⟨vs', H1, J, r1, v, ev, eH⟩ => ?_
  subst ev
  subst eH
  have hpin := J.pin (h1.objs.size, PySem.W.kxs_mw "ValueError.__init__" a) (List.mem_append_right _ List.mem_cons_self)
  refine ⟨hpin.1, ?_⟩
  obtain ⟨t3, ho3⟩ := exo_at J.hok ea
  obtain ⟨hp3, g3, d3, tk3, os3⟩ := s3
  refine call_mw hbm (J.kIn _ _ hC) ho3 hpin.1 (by rw [List.nil_append, ← Paired.length r1, sizeLine_eq]; simp) fun h' t4 k4 hx => ?_
  have J2 := J.write (t' := tk3) (x := a) (e := a) (o := exo a C none) (by rw [ea]; exact True.intro) (.inl rfl) k4 ⟨_, hx⟩ (exo_ok hx)
  have eu : upd H1 a (exo a C none) = H1 := by
    funext b
    by_cases hb : b = a
    · rw [hb, upd_same, ea]
    · rw [upd_ne hb]
  rw [eu] at J2
  exact hq _ (J2.pins_of fun p hp => J2.pin p (List.mem_append_right _ (List.mem_cons_of_mem _ hp)))
end
theorem zip_get {x : Str} {v : Value} : ∀ {P : List Str} {vs : List Value} {i : Nat}, P.Nodup → P[i]? = some x → vs[i]? = some v → (P.zip vs).reverse.lookup x = some v
  | [], _, _, _, h, _ => by simp at h
  | _ :: _, [], _, _, _, h => by simp at h
  | p :: P, w :: vs, 0, nd, h1, h2 => by
    simp at h1 h2; subst h1; subst h2
    rw [List.zip_cons_cons, List.reverse_cons, List.lookup_append]
    have : (P.zip vs).reverse.lookup p = none := by
      cases e : (P.zip vs).reverse.lookup p with
      | none => rfl
      | some u =>
        have := PySem.mem_of_lookup e
        exact absurd (List.of_mem_zip (List.mem_reverse.mp this)).1 (List.nodup_cons.mp nd).1
    rw [this]
    simp
  | p :: P, w :: vs, i + 1, nd, h1, h2 => by
    rw [List.zip_cons_cons, List.reverse_cons, List.lookup_append, zip_get (i := i) (List.nodup_cons.mp nd).2 (by simpa using h1) (by simpa using h2)]
    rfl
/-- the context of a def with the cell __class__ -/
def cxX (CX : CXT) (P : Program) (w : World) (K : PySem.W.Frag) (mg : Str → Option Value) (base : Heap) (N : List Str) (qual : Str) (scope : Scope) (f : Addr) (cd : Value) (cc : Addr) (A : Around) (outer : List Env) (s : Shared) (H : Hp) (E : XK) : Cx where
  prog := P
  w := w
  K := K
  mg := mg
  base := base
  A := A.deeper (PySem.W.envX qual scope s.heap.objs.size f cd [("__class__", cc)])
  N := N
  s_0 := s
  H_0 := H
  env := PySem.W.envX qual scope s.heap.objs.size f cd [("__class__", cc)]
  outer := outer
  stack := PySem.W.envX qual scope s.heap.objs.size f cd [("__class__", cc)] :: outer
  ex := []
  calm := true
  fn := fun y => y != ("__class__" : Str)
  pn := []
  xe := fun e s' => wpAny (model P w) (A.deeper (PySem.W.envX qual scope s.heap.objs.size f cd [("__class__", cc)])) (leaving (PySem.W.envX qual scope s.heap.objs.size f cd [("__class__", cc)]) e) (fun _ s'' => CX outer H s E e s'') (fun e' s'' => CX outer H s E e' s'') s'
structure ScX (N ps : List Str) (sc : Scope) : Prop where
  kind : sc.kind = .function
  co : sc.isCoroutine = false
  gen : sc.isGenerator = false
  nd : N.Nodup
  pre : N.take ps.length = ps
  par : ∀ x ∈ ps, sc.names.lookup x = some .local
  nocell : ∀ y ∈ sc.names, y.2 ≠ .cell
  free : ∀ y ∈ sc.names, y.2 = .free → y.1 = ("__class__" : Str)
theorem cl_look {cc c : Addr} {y : Str} (h : ([(("__class__" : Str), cc)] : List (Str × Addr)).lookup y = some c) : y = ("__class__" : Str) ∧ c = cc := by
  simp only [List.lookup_cons, List.lookup_nil] at h
  split at h
  · rename_i e
    exact ⟨by simpa using e, (Option.some.inj h).symm⟩
  · cases h
theorem inv_startX {CX : CXT} {P : Program} {w : World} {K : PySem.W.Frag} {mg : Str → Option Value} {base : Heap} {N ps : List Str} {qual : Str} {scope : Scope} {f cc : Addr} {cd : Value} {A : Around} {outer : List Env} {s : Shared} {H : Hp} {E : XK} {us : List Value} {vs : List V} {h1 : Heap} {t : Nat}
    (S : ScX N ps scope) (hd : A.handled = none) (e0 : Env0 P w K mg base A outer s H) (hl : vs.length = ps.length) (r : Vals vs us) {oC : Obj} {vC : Option Value} (lc : K.lookup cc = some oC) (lcd : oC.data = .cell vC)
    (hns : h1.Ns s.heap.objs.size (fun x => (ps.zip us).reverse.lookup x)) (hk : ∀ b o, s.heap.get? b = some o → h1.get? b = some o) :
    Inv (cxX CX P w K mg base N qual scope f cd cc A outer s H E) [] (L2.start N vs) H { s with heap := h1, toks := t } := by
  have hpl : ps.length ≤ N.length := by have := congrArg List.length S.pre; rw [List.length_take] at this; omega
  have noA : ∀ b : Addr, b ∉ (cxX CX P w K mg base N qual scope f cd cc A outer s H E).ex := fun b z => absurd (show b ∈ ([] : List Addr) from z) (by simp)
  have bC := e0.mod.kin _ _ lc
  refine ⟨⟨e0.mod, S.kind, rfl, rfl, Nat.le_refl _, fun y z c h1 h2 => (cl_look h1).1.trans (cl_look h2).1.symm, fun y hy => ?_, fun y c hf h => ?_, fun _ => hd, Around.frames_deeper e0.frames, .inr ⟨rfl, rfl⟩, fun b z => absurd z (noA b), e0.bs, e0.bsz, fun b _ _ => noA b, fun b z => absurd z (noA b), e0.funs, e0.frf⟩,
    rfl, e0.bare, Un.kept hk, ⟨_, hns, fun i y v h1 h2 h3 => ?_⟩, fun y c h => ?_, e0.hok.fresh (Nat.le_refl _), fun y c h => ?_, fun p hp => absurd (show p ∈ ([] : List (Addr × Obj)) from hp) (by simp), e0.hok.kept hk, ?_⟩
  · have hy : scope.names.lookup y = some .cell ∨ scope.names.lookup y = some .free := hy
    rcases hy with hy | hy
    · exact absurd rfl (S.nocell _ (PySem.mem_of_lookup hy))
    · have : y = ("__class__" : Str) := S.free _ (PySem.mem_of_lookup hy) rfl
      exact ⟨cc, by subst this; show List.lookup _ [_] = _; simp⟩
  · have := (cl_look h).1
    subst this
    cases hf
  · have hi : i < vs.length := by
      unfold L2.start at h2
      by_cases hi : i < vs.length
      · exact hi
      · rw [List.getElem?_append_right (by simpa using hi)] at h2
        rw [List.getElem?_replicate] at h2
        split at h2 <;> cases h2
    have ha : vs[i]? = some v := by
      unfold L2.start at h2
      rw [List.getElem?_append_left (by simpa using hi), List.getElem?_map] at h2
      cases e : vs[i]? with
      | none => rw [e] at h2; cases h2
      | some a => rw [e] at h2; cases h2; rfl
    obtain ⟨u, hu, rv⟩ := r.get ha
    have hp : ps[i]? = some y := by
      rw [← S.pre, List.getElem?_take_of_lt (by omega)]; exact h1
    have ndP : ps.Nodup := by rw [← S.pre]; exact S.nd.sublist (List.take_sublist _ _)
    exact ⟨u, rv, .inl ⟨S.par y (List.mem_of_getElem? hp), zip_get ndP hp hu⟩⟩
  · obtain ⟨_, rfl⟩ := cl_look h
    refine ⟨vC, ?_⟩
    exact ⟨oC, hk _ _ (e0.bs _ _ bC).1, lcd⟩
  · obtain ⟨_, rfl⟩ := cl_look h
    exact (e0.bs _ _ bC).2
  · unfold L2.start
    show _ = N.length
    rw [List.length_append, List.length_map, List.length_replicate]
    omega
/-- THE RULE: an own exception's __init__ that begins with super().__init__(text) -/
theorem fn_sup {CX : CXT} {P : Program} {w : World} {K : PySem.W.Frag} {mg : Str → Option Value} {base : Heap} {k : Nat} {f cc : Addr} {name qual : Str} {params : Arguments} {rest : List Stmt} {scope : Scope} {dV kV doc pm cdv ct oc : Value} {an od : Option Addr}
    {osl : Array (Option Value)} {N ps : List Str} {slf : Str} {C : Addr} {sp : Sp} {p0 p1 p2 p3 pos pos' : Pos} {m : Str} {j : Nat} {oC : Obj} {vC : Option Value}
    (lk : K.lookup f = some ⟨oc, od, .func (PySem.W.fnX name qual params (.Expr (.Call (.Attribute (.Call (.Name "super" p0) [] [] p1) "__init__" p2) [.Constant (.str m) j p3] [] pos) pos' :: rest) scope [("__class__", cc)] dV kV doc pm an cdv ct), osl⟩)
    (hcd : PySem.W.codeIn K cdv qual = true) (S : ScX N ps scope) (hps : ps.head? = some slf) (lc : K.lookup cc = some oC) (lcd : oC.data = .cell vC) (T : OexC K C)
    (SF : ∀ (A : Around) (outer : List Env) (s : Shared) (H : Hp) (E : XK), SupF (cxX CX P w K mg base N qual scope f cdv cc A outer s H E) C slf)
    (hi : ∀ L, interactive (PySem.W.envX qual scope L f cdv [("__class__", cc)]) = false)
    {pl : Sem Bool} (he : ∀ L, eval (.Call (.Attribute (.Call (.Name "super" p0) [] [] p1) "__init__" p2) [.Constant (.str m) j p3] [] pos) (PySem.W.envX qual scope L f cdv [("__class__", cc)]) = (do
      let ov ← attributeBase (.Call (.Name "super" p0) [] [] p1) "__init__" (PySem.W.envX qual scope L f cdv [("__class__", cc)]) (eval (.Call (.Name "super" p0) [] [] p1) (PySem.W.envX qual scope L f cdv [("__class__", cc)]))
      standAt p2.atName
      let (fv, first) ← holding [ov] (getMethod ov "__init__" pl)
      callWith pos fv first (backTo pos (starEach [.Constant (.str m) j p3] (PySem.W.envX qual scope L f cdv [("__class__", cc)]))) []))
    (hst : ∀ L, starEach [.Constant (.str m) j p3] (PySem.W.envX qual scope L f cdv [("__class__", cc)]) = (false, eval (.Constant (.str m) j p3) (PySem.W.envX qual scope L f cdv [("__class__", cc)])) :: starEach [] (PySem.W.envX qual scope L f cdv [("__class__", cc)]))
    (hpl : ∀ L, (backTo pos (starEach [] (PySem.W.envX qual scope L f cdv [("__class__", cc)]))).any (·.1) = false)
    (len : ∀ vs H Q E, sp vs H Q E → vs.length = ps.length)
    (hbody : ∀ (A : Around) (outer : List Env) (s : Shared) (H : Hp) (vs : List V) (Q : VK) (E : XK), sp vs H Q E →
      ∃ a args, vs = .ref a :: args ∧ H a = some (exo a C none) ∧ ∃ t, PSs (cxX CX P w K mg base N qual scope f cdv cc A outer s H E) rest t ∧ t { nx := fun _ H' => Q .non H', rt := Q } (L2.start N vs) H) :
    FnOk P w K mg base CX (k + 1) f (PySem.W.fnX name qual params (.Expr (.Call (.Attribute (.Call (.Name "super" p0) [] [] p1) "__init__" p2) [.Constant (.str m) j p3] [] pos) pos' :: rest) scope [("__class__", cc)] dV kV doc pm an cdv ct) ps sp := by
  refine ⟨len, fun A outer s H args us vs Q E hr e0 hb r hsp => ?_⟩
  have hl := len _ _ _ _ hsp
  have KX : K.In s.heap := e0.mod.kin.keeps fun b o e => (e0.bs b o e).1
  have lim : s.heap.NoLimit := e0.mod.nolimit.keeps fun b o e => (e0.bs b o e).1
  obtain ⟨a, args', rfl, ea, t, ht, hq⟩ := hbody A outer s H vs Q E hsp
  refine PySem.ks_codeAny_call_defAt hr.depth (KX _ _ lk) rfl lim (PySem.W.codeRec_of KX hcd) rfl hb S.nocell (fun y hy => S.par _ (List.of_mem_zip (a := y.1) (b := y.2) hy).1) (fun h1 hns hk => ?_) S.co S.gen S.kind
  have I := inv_startX (CX := CX) (E := E) (qual := qual) (f := f) (cd := cdv) (t := s.toks + (ps.zip us).length) S hr.hd e0 hl r lc lcd hns hk
  have hself : (ps.zip us).reverse.lookup slf = some (.ref a) := by
    cases r with
    | cons r0 rr =>
      cases r0
      cases ps with
      | nil => cases hps
      | cons p ps =>
        cases hps
        exact zip_get (i := 0) (by rw [← S.pre]; exact S.nd.sublist (List.take_sublist _ _)) rfl rfl
  refine PySem.ks_wpAt_execs_cons (sup_stmt (SF A outer s H E) T I ea hns hself (hi _) (he _) (hst _) (hpl _) fun s' J => ?_)
  refine wpAt_of_wpAny (wpAny_mono (ht.run [] s' (L2.start N _) H _ J hq) (fun fl s2 hs => ?_) fun e s2 hs => hs)
  have fin : ∀ {σ' : L2.St} {H' : Hp} {v : V} {u : Value}, Inv (cxX CX P w K mg base N qual scope f cdv cc A outer s H E) [] σ' H' s2 → RelV v u → Q v H' → CE outer P w H s Q u s2 :=
    fun {σ' H' v u} J rv q => ⟨v, H', J.os, J.bare, J.base, J.hok, rv, q⟩
  cases fl with
  | ret u =>
    obtain ⟨v, σ', H', J, rv, q⟩ := hs
    exact fin J rv q
  | next =>
    obtain ⟨σ', H', J, q⟩ := hs
    exact fin (v := V.non) (u := Value.none) J rfl q
  | brk =>
    obtain ⟨_, _, _, q⟩ := hs
    exact False.elim q
  | cont =>
    obtain ⟨_, _, _, q⟩ := hs
    exact False.elim q
end Dl

/-! The fields that an own exception's __init__ stores, and the raise of it. -/
namespace Dl
open PySem PySem.Spec PyProof.Rows L2
def tAs (K : PySem.W.Frag) : List (Str × Nat) → TS
  | [] => tNext
  | (f, i) :: l => tSeq (tOst K f (tVar 0) (tVar i)) (tAs K l)
inductive AsgOk (X : Cx) : List Stmt → List (Str × Nat) → Prop where
  | nil : AsgOk X [] []
  | cons {o e : Expr} {f : Str} {p' pos : Pos} {i : Nat} {st : List Stmt} {l : List (Str × Nat)} (ho : PE X o (tVar 0)) (he : PE X e (tVar i)) (hs : swapsWith e (some (.Attribute o f p')) pos.line X.env = pure false) (h : AsgOk X st l) :
    AsgOk X (.Assign [.Attribute o f p'] e pos :: st) ((f, i) :: l)
theorem AsgOk.pss {X : Cx} {st : List Stmt} {l : List (Str × Nat)} (h : AsgOk X st l) : PSs X st (tAs X.K l) := by
  induction h with
  | nil => exact pss_nil
  | cons ho he hs _ ih => exact pss_cons (ps_ost ho he hs) ih
/-- the fields by the arguments, the last one first -/
def flds (l : List (Str × Nat)) (σ : L2.St) : List (Str × V) := (l.map fun p => (p.1, (σ[p.2]?.join).getD .non)).reverse
theorem upd_upd {H : Hp} {a : Addr} {o u : HO} : upd (upd H a o) a u = upd H a u := by
  funext b
  by_cases e : b = a
  · subst e; rw [upd_same, upd_same]
  · rw [upd_ne e, upd_ne e, upd_ne e]
theorem upd_id {H : Hp} {a : Addr} {o : HO} (h : H a = some o) : upd H a o = H := by
  funext b
  by_cases e : b = a
  · subst e; rw [upd_same, h]
  · rw [upd_ne e]
section
variable {K : PySem.W.Frag} {D : Ends} {σ : L2.St} {a C : Addr}
theorem as_tail (T : OexC K C) (h0 : σ[0]? = some (some (.ref a))) : ∀ (l : List (Str × Nat)) (fs : List (Str × V)) (H : Hp) (dx : Addr), (∀ p ∈ l, ∃ v, σ[p.2]? = some (some v)) → (∀ p ∈ l, PySem.W.findIn K (.ref C) p.1 = some none) →
    dx ≠ a → H a = some (exo a C (some dx)) → H dx = some (exd dx fs) → fs.length + l.length ≤ 900 → D.nx σ (upd H dx (exd dx (flds l σ ++ fs))) → tAs K l D σ H
  | [], fs, H, dx, _, _, _, _, ed, _, q => by
    have : upd H dx (exd dx (flds [] σ ++ fs)) = H := upd_id ed
    rw [this] at q
    exact q
  | (f, i) :: l, fs, H, dx, hv, hf, ne, ea, ed, hl, q => by
    obtain ⟨v, e⟩ := hv _ List.mem_cons_self
    have hl' : fs.length + (l.length + 1) ≤ 900 := hl
    have nax : a ≠ dx := fun z => ne z.symm
    refine ⟨v, e, .ref a, h0, a, C, rfl, T, hf _ List.mem_cons_self, .inr ⟨dx, fs, ea, ed, by omega, ?_⟩⟩
    refine as_tail T h0 l ((f, v) :: fs) _ dx (fun p hp => hv p (List.mem_cons_of_mem _ hp)) (fun p hp => hf p (List.mem_cons_of_mem _ hp)) ne (by rw [upd_ne nax]; exact ea) upd_same (by rw [List.length_cons]; omega) ?_
    rw [upd_upd]
    have : flds ((f, i) :: l) σ ++ fs = flds l σ ++ (f, v) :: fs := by
      unfold flds
      rw [List.map_cons, List.reverse_cons, List.append_assoc, e]
      rfl
    rw [this] at q
    exact q
theorem as_all (T : OexC K C) (h0 : σ[0]? = some (some (.ref a))) {f : Str} {i : Nat} {l : List (Str × Nat)} {H : Hp} (hv : ∀ p ∈ (f, i) :: l, ∃ v, σ[p.2]? = some (some v)) (hf : ∀ p ∈ (f, i) :: l, PySem.W.findIn K (.ref C) p.1 = some none)
    (ea : H a = some (exo a C none)) (hl : l.length ≤ 800) (q : ∀ dx, H dx = none → dx ≠ a → D.nx σ (upd (upd H a (exo a C (some dx))) dx (exd dx (flds ((f, i) :: l) σ)))) : tAs K ((f, i) :: l) D σ H := by
  obtain ⟨v, e⟩ := hv _ List.mem_cons_self
  refine ⟨v, e, .ref a, h0, a, C, rfl, T, hf _ List.mem_cons_self, .inl ⟨ea, fun dx hn ne => ?_⟩⟩
  refine as_tail T h0 l [(f, v)] _ dx (fun p hp => hv p (List.mem_cons_of_mem _ hp)) (fun p hp => hf p (List.mem_cons_of_mem _ hp)) ne upd_same (by rw [upd_ne ne, upd_same]) (by simp; omega) ?_
  have e1 : upd (upd (upd H dx (exd dx [(f, v)])) a (exo a C (some dx))) dx (exd dx (flds l σ ++ [(f, v)])) = upd (upd H a (exo a C (some dx))) dx (exd dx (flds ((f, i) :: l) σ)) := by
    have : flds ((f, i) :: l) σ = flds l σ ++ [(f, v)] := by
      unfold flds
      rw [List.map_cons, List.reverse_cons, e]
      rfl
    rw [this]
    funext b
    by_cases e1 : b = dx
    · subst e1; rw [upd_same, upd_same]
    · rw [upd_ne e1, upd_ne e1]
      by_cases e2 : b = a
      · subst e2; rw [upd_same, upd_same]
      · rw [upd_ne e2, upd_ne e2, upd_ne e1]
  rw [e1]
  exact q dx hn ne
end
/-- the promise of such an __init__ of n parameters: the fields asg -/
def spX (C : Addr) (n : Nat) (l : List (Str × Nat)) : Sp := fun vs H Q _ => ∃ (a : Addr) (args : List V), vs = .ref a :: args ∧ args.length = n ∧ H a = some (exo a C none) ∧
  ∀ dx, H dx = none → dx ≠ a → Q .non (upd (upd H a (exo a C (some dx))) dx (exd dx (flds l (vs.map some))))
section
variable {X : Cx} {CX : CXT} {C fI : Addr} {k n : Nat} {fd : FuncData} {ps : List Str} {l : List (Str × Nat)} {x : Str} {e : Expr} {es : List Expr} {ta : TA} {p pos : Pos}
/-- C(e, ..): the fields stand in the exception's dict -/
def tMkF (C : Addr) (n : Nat) (l : List (Str × Nat)) (ta : TA) : L2.St → Hp → XK → Prop := fun σ H Q => ta σ H fun vs H1 => vs.length = n ∧ ∀ d, H1 d = none → Q (.ref C) (some d) (upd H1 d (.xd (flds (l.map fun p => (p.1, p.2 - 1)) (vs.map some))))
theorem pmk_flds (T : OexC X.K C) (iC : PySem.W.findIn X.K (.ref C) "__init__" = some (some (.ref fI))) (tI : PySem.W.typeIn X.K (.ref fI) = some (.type "function")) (hl1 : ∀ p ∈ l, 1 ≤ p.2) (hn : n ≤ 1000)
    (F1 : FnOk X.prog X.w X.K X.mg X.base CX k fI fd ps (spX C n l)) (hr : Room (k + 1) X.A) (hb : Binds X.K fd ps []) (hx : Passes CX X (fun _ _ _ => False)) (hg : Gl X x) (hm : X.mg x = some (.ref C)) (ha : PA X (e :: es) ta)
    (hdb : (x == ("__debug__" : Str)) = false) (he : starEach (e :: es) X.env = (false, eval e X.env) :: starEach es X.env) (hpl : (backTo pos (starEach es X.env)).any (·.1) = false) :
    PMk X (.Call (.Name x p) (e :: es) [] pos) (tMkF C n l ta) := by
  intro pins s σ H Q I h
  have ha2 : PA X (e :: es) (fun σ H Q => ∃ Q0 : List V → Hp → Prop, ta σ H Q0 ∧ ∀ vs H1, Q0 vs H1 → Q vs H1) :=
    ⟨fun pos pins s σ H Q I ⟨Q0, h, m⟩ => thn (ha.run pos pins s σ H Q0 I h) fun us s1 ⟨vs, H1, I1, r1, q⟩ => ⟨vs, H1, I1, r1, m _ _ q⟩⟩
  refine pmk_oex (dvs := []) T iC tI F1 hr hb .nil hx hg hm ha2 hdb he hpl pins s σ H Q I ⟨_, h, fun vs H1 ⟨hv, q⟩ => ⟨by omega, fun a hn1 => ?_⟩⟩
  rw [List.append_nil]
  refine ⟨a, vs, rfl, hv, upd_same, fun dx hdx ne => ⟨rfl, dx, _, ?_, upd_same, ?_, ?_⟩⟩
  · rw [upd_ne ne.symm, upd_same]
  · rw [upd_ne ne] at hdx
    exact hdx
  · rw [upd_ne ne] at hdx
    have q := q dx hdx
    have ef : flds (l.map fun p => (p.1, p.2 - 1)) (vs.map some) = flds l ((V.ref a :: vs).map some) := by
      unfold flds
      rw [List.map_map]
      congr 1
      refine List.map_congr_left fun p hp => ?_
      obtain ⟨j, hj⟩ : ∃ j, p.2 = j + 1 := ⟨p.2 - 1, by have := hl1 p hp; omega⟩
      show (p.1, (((vs.map some)[p.2 - 1]?).join).getD V.non) = (p.1, ((((V.ref a :: vs).map some)[p.2]?).join).getD V.non)
      simp only [hj, Nat.add_sub_cancel, List.map_cons, List.getElem?_cons_succ]
    rw [ef] at q
    have eh : upd (del (upd (upd (upd H1 a (exo a C none)) a (exo a C (some dx))) dx (exd dx (flds l ((V.ref a :: vs).map some)))) a) dx (.xd (flds l ((V.ref a :: vs).map some))) = upd H1 dx (.xd (flds l ((V.ref a :: vs).map some))) := by
      funext b
      by_cases e1 : b = dx
      · subst e1; rw [upd_same, upd_same]
      · rw [upd_ne e1, upd_ne e1]
        by_cases e2 : b = a
        · subst e2; rw [del_same, hn1]
        · rw [del_ne e2, upd_ne e1, upd_ne e2, upd_ne e2]
    rw [eh]
    exact q
end
/-- THE RULE: such an __init__ keeps its promise -/
theorem fn_exi {CX : CXT} {P : Program} {w : World} {K : PySem.W.Frag} {mg : Str → Option Value} {base : Heap} {k : Nat} {f cc : Addr} {name qual : Str} {params : Arguments} {rest : List Stmt} {scope : Scope} {dV kV doc pm cdv ct oc : Value} {an od : Option Addr}
    {osl : Array (Option Value)} {N ps : List Str} {slf : Str} {C : Addr} {p0 p1 p2 p3 pos pos' : Pos} {m : Str} {j n : Nat} {l : List (Str × Nat)} {oC : Obj} {vC : Option Value}
    (lk : K.lookup f = some ⟨oc, od, .func (PySem.W.fnX name qual params (.Expr (.Call (.Attribute (.Call (.Name "super" p0) [] [] p1) "__init__" p2) [.Constant (.str m) j p3] [] pos) pos' :: rest) scope [("__class__", cc)] dV kV doc pm an cdv ct), osl⟩)
    (hcd : PySem.W.codeIn K cdv qual = true) (S : ScX N ps scope) (hps : ps.head? = some slf) (lc : K.lookup cc = some oC) (lcd : oC.data = .cell vC) (T : OexC K C)
    (SF : ∀ (A : Around) (outer : List Env) (s : Shared) (H : Hp) (E : XK), SupF (cxX CX P w K mg base N qual scope f cdv cc A outer s H E) C slf)
    (hi : ∀ L, interactive (PySem.W.envX qual scope L f cdv [("__class__", cc)]) = false)
    {pl : Sem Bool} (he : ∀ L, eval (.Call (.Attribute (.Call (.Name "super" p0) [] [] p1) "__init__" p2) [.Constant (.str m) j p3] [] pos) (PySem.W.envX qual scope L f cdv [("__class__", cc)]) = (do
      let ov ← attributeBase (.Call (.Name "super" p0) [] [] p1) "__init__" (PySem.W.envX qual scope L f cdv [("__class__", cc)]) (eval (.Call (.Name "super" p0) [] [] p1) (PySem.W.envX qual scope L f cdv [("__class__", cc)]))
      standAt p2.atName
      let (fv, first) ← holding [ov] (getMethod ov "__init__" pl)
      callWith pos fv first (backTo pos (starEach [.Constant (.str m) j p3] (PySem.W.envX qual scope L f cdv [("__class__", cc)]))) []))
    (hst : ∀ L, starEach [.Constant (.str m) j p3] (PySem.W.envX qual scope L f cdv [("__class__", cc)]) = (false, eval (.Constant (.str m) j p3) (PySem.W.envX qual scope L f cdv [("__class__", cc)])) :: starEach [] (PySem.W.envX qual scope L f cdv [("__class__", cc)]))
    (hpl : ∀ L, (backTo pos (starEach [] (PySem.W.envX qual scope L f cdv [("__class__", cc)]))).any (·.1) = false)
    (hn : ps.length = n + 1) (hl0 : l ≠ []) (hl : l.length ≤ 800) (hli : ∀ p ∈ l, p.2 ≤ n) (hno : ∀ p ∈ l, PySem.W.findIn K (.ref C) p.1 = some none)
    (hasg : ∀ (A : Around) (outer : List Env) (s : Shared) (H : Hp) (E : XK), AsgOk (cxX CX P w K mg base N qual scope f cdv cc A outer s H E) rest l) :
    FnOk P w K mg base CX (k + 1) f (PySem.W.fnX name qual params (.Expr (.Call (.Attribute (.Call (.Name "super" p0) [] [] p1) "__init__" p2) [.Constant (.str m) j p3] [] pos) pos' :: rest) scope [("__class__", cc)] dV kV doc pm an cdv ct) ps (spX C n l) := by
  refine fn_sup lk hcd S hps lc lcd T SF hi he hst hpl (fun vs H Q E ⟨a, args, e, ha, _⟩ => by rw [e, hn, List.length_cons, ha]) fun A outer s H vs Q E ⟨a, args, e, ha, ea, q⟩ => ⟨a, args, e, ea, _, (hasg A outer s H E).pss, ?_⟩
  subst e
  have get : ∀ i, i ≤ n → (L2.start N (V.ref a :: args))[i]? = ((V.ref a :: args).map some)[i]? := fun i hi => by
    unfold L2.start
    exact List.getElem?_append_left (by rw [List.length_map, List.length_cons, ha]; omega)
  have ef : flds l (L2.start N (V.ref a :: args)) = flds l ((V.ref a :: args).map some) := by
    unfold flds
    congr 1
    refine List.map_congr_left fun p hp => ?_
    rw [get _ (hli p hp)]
  cases l with
  | nil => exact absurd rfl hl0
  | cons p l =>
    obtain ⟨f1, i1⟩ := p
    refine as_all (K := K) T (get 0 (Nat.zero_le _)) (fun p hp => ?_) hno ea (by rw [List.length_cons] at hl; omega) fun dx hdx ne => ?_
    · have := hli p hp
      refine ⟨(V.ref a :: args)[p.2]'(by rw [List.length_cons, ha]; omega), ?_⟩
      rw [get _ this, List.getElem?_map, List.getElem?_eq_getElem]
      rfl
    · rw [ef]
      exact q dx hdx ne
end Dl

namespace Dl
open PySem PySem.Spec PyProof.Rows L2

/-! ### what a module's name holds -/
inductive GV where
  /-- a built-in's name that the module does not bind -/
  | blt
  | con (d : D)
  /-- a def: its address, its parameters, its promise, the forms of calls by keyword (how many by place, which names) -/
  | fn (a : Addr) (ps : List Str) (sp : DSp) (kws : List (Nat × List Str))
  /-- a class of one's own: its __init__'s parameters (self first) and promise -/
  | cls (C : Addr) (ps : List Str) (sp : DSp) (kws : List (Nat × List Str))
  /-- an exception class of one's own without __init__ -/
  | exc (C : Addr)
  /-- an exception class of one's own whose __init__ calls super().__init__(text) and then keeps arguments in fields: how many arguments; the fields and their arguments' places -/
  | exi (C : Addr) (n : Nat) (l : List (Str × Nat))
  | none
structure GEnv where
  /-- the module's names -/
  g : Str → GV
  /-- the classes' methods -/
  m : Addr → Str → GV
/-- the arguments by place and by name, in the def's order -/
def kwArr {α : Type} (ps : List Str) (n : Nat) (ks : List Str) (us ws : List α) : List α :=
  us ++ (ps.drop n).filterMap fun p => (ks.zip ws).lookup p
def KOk (K : PySem.W.Frag) (fd : FuncData) (ps : List Str) (n : Nat) (ks : List Str) : Prop :=
  ∀ (s : Shared) (us ws : List Value), K.In s.heap → us.length = n → ws.length = ks.length → (kwArr ps n ks us ws).length = ps.length ∧ BindsTo s fd ⟨us, ks.zip ws⟩ (ps.zip (kwArr ps n ks us ws))
structure FnI (Θ : AbsI) (P : Program) (w : World) (K : PySem.W.Frag) (mg : Str → Option Value) (base : Heap) (k : Nat) (f : Addr) (ps : List Str) (sp : DSp) (kws : List (Nat × List Str)) (off : Nat) : Prop where
  kp : PySem.W.keepIn K (.ref f) = true
  ex : ∃ fd, FnOk P w K mg base (L2.CX P w) k f fd ps (lowSp Θ K ps.length sp) ∧ Binds K fd ps [] ∧ ∀ q ∈ kws, KOk K fd ps (q.1 + off) q.2
theorem FnI.mono {Θ : AbsI} {P : Program} {w : World} {K : PySem.W.Frag} {mg : Str → Option Value} {base : Heap} {k j : Nat} {f : Addr} {ps : List Str} {sp : DSp} {kws : List (Nat × List Str)} {off : Nat} (h : FnI Θ P w K mg base k f ps sp kws off) (hk : k ≤ j) :
    FnI Θ P w K mg base j f ps sp kws off := ⟨h.kp, let ⟨fd, a, b, c⟩ := h.ex; ⟨fd, a.mono hk, b, c⟩⟩
def GVOk (Θ : AbsI) (P : Program) (w : World) (K : PySem.W.Frag) (mg : Str → Option Value) (base : Heap) (k : Nat) (x : Str) : GV → Prop
  | .blt => mg x = none
  | .con d => ∃ v u, mg x = some u ∧ RelV v u ∧ ∀ H, Is K H d v
  | .fn a ps sp kws => mg x = some (.ref a) ∧ FnI Θ P w K mg base k a ps sp kws 0
  | .cls C ps sp kws => mg x = some (.ref C) ∧ 0 < k ∧ ∃ f, Mk K C f ∧ FnI Θ P w K mg base (k - 1) f ps sp kws 1
  | .exc C => mg x = some (.ref C) ∧ PySem.W.excIn K C [.type "ValueError", .type "Exception", .type "BaseException", .type "object"] "ValueError.__new__" = true ∧ PySem.W.keepIn K (.ref C) = true ∧
      PySem.W.subIn K (.ref C) (.type "BaseException") = some true ∧ PySem.W.typeIn K (.ref C) = some (.type "type")
  | .exi C n l => mg x = some (.ref C) ∧ OexC K C ∧ (∀ p ∈ l, 1 ≤ p.2) ∧ l ≠ [] ∧ n ≤ 1000 ∧ 0 < k ∧ ∃ (fI : Addr) (fd : FuncData) (ps : List Str), PySem.W.findIn K (.ref C) "__init__" = some (some (.ref fI)) ∧ PySem.W.typeIn K (.ref fI) = some (.type "function") ∧
      Binds K fd ps [] ∧ FnOk P w K mg base (L2.CX P w) (k - 1) fI fd ps (spX C n l)
  | .none => True
/-- a value called: what becomes of it, told by data -/
abbrev CD := List D → DXK → Ro → GH → DK → Prop
def CalD (X : Cx) (Θ : AbsI) (W : WX) (f : Value) (cd : CD) : Prop :=
  ∀ (pins : List (Addr × Obj)) (s : Shared) (σ : L2.St) (H : Hp) (vs : List V) (us : List Value) (R : VK) (ρ : Ro) (G : GH) (F : Hp) (ds : List D) (Q : DK) (DX : DXK),
    Inv X pins σ H s → Vals vs us → EnvIs X.K H ρ σ → Rep Θ X.K H G F → IsL X.K H ds vs → XTo Θ X.K W DX H F → cd ds DX ρ G Q → (∀ v H' d G', Ext X.K H H' → Is X.K H' d v → Rep Θ X.K H' G' F → Q d G' → R v H') →
    wpAny (model X.prog X.w) X.A (call f us) (EP X pins σ R) X.xe s
def CalK (X : Cx) (Θ : AbsI) (W : WX) (f : Value) (ks : List Str) (cd : List D → CD) : Prop :=
  ∀ (pins : List (Addr × Obj)) (s : Shared) (σ : L2.St) (H : Hp) (vs zs : List V) (us ws : List Value) (R : VK) (ρ : Ro) (G : GH) (F : Hp) (ds es : List D) (Q : DK) (DX : DXK),
    Inv X pins σ H s → Vals vs us → Vals zs ws → EnvIs X.K H ρ σ → Rep Θ X.K H G F → IsL X.K H ds vs → IsL X.K H es zs → XTo Θ X.K W DX H F → cd ds es DX ρ G Q → (∀ v H' d G', Ext X.K H H' → Is X.K H' d v → Rep Θ X.K H' G' F → Q d G' → R v H') →
    wpAny (model X.prog X.w) X.A (call f us (ks.zip ws)) (EP X pins σ R) X.xe s
def cFn (n : Nat) (sp : DSp) : CD := fun ds X ρ G Q => ds.length = n ∧ sp ds G Q fun e G' => X e ρ G'
def cCls (C : Addr) (n : Nat) (sp : DSp) : CD := fun ds X ρ G Q => ds.length + 1 = n ∧ ∀ a, G a = none → sp (.ref a :: ds) (gup G a (.ins C [])) (fun d G' => d = .non ∧ Q (.ref a) G') fun e G' => X e ρ G'
/-- a call of a module's name -/
def gCall : GV → CD
  | .fn _ ps sp _ => cFn ps.length sp
  | .cls C ps sp _ => cCls C ps.length sp
  | _ => fun _ _ _ _ _ => False
def gCallK (n : Nat) (ks : List Str) : GV → List D → CD
  | .fn _ ps sp kws => fun ds es X ρ G Q => ds.length = n ∧ es.length = ks.length ∧ (n, ks) ∈ kws ∧ cFn ps.length sp (kwArr ps n ks ds es) X ρ G Q
  | .cls C ps sp kws => fun ds es X ρ G Q => ds.length = n ∧ es.length = ks.length ∧ (n, ks) ∈ kws ∧ cCls C ps.length sp (kwArr (ps.drop 1) n ks ds es) X ρ G Q
  | _ => fun _ _ _ _ _ _ => False
def isCal : GV → Bool
  | .fn .. => true
  | .cls .. => true
  | _ => false
def dCall (g : GV) (t : TAD) (X : DXK) (ρ : Ro) (G : GH) (Q : DK) : Prop := isCal g = true ∧ t X ρ G fun ds G1 => gCall g ds X ρ G1 Q
def dCallK (g : GV) (n : Nat) (ks : List Str) (t tk : TAD) (X : DXK) (ρ : Ro) (G : GH) (Q : DK) : Prop := isCal g = true ∧ t X ρ G fun ds G1 => tk X ρ G1 fun es G2 => gCallK n ks g ds es X ρ G2 Q

theorem kw_look {K : PySem.W.Frag} {H : Hp} : ∀ (ks : List Str) {zs : List V} {ws : List Value} {es : List D} (p : Str), Vals zs ws → IsL K H es zs →
        ((ks.zip zs).lookup p = none ∧ (ks.zip ws).lookup p = none ∧ (ks.zip es).lookup p = none) ∨ ∃ v u d, (ks.zip zs).lookup p = some v ∧ (ks.zip ws).lookup p = some u ∧ (ks.zip es).lookup p = some d ∧ RelV v u ∧ Is K H d v := by
  intro ks
  induction ks with
  | nil => intro zs ws es p _ _; exact .inl ⟨rfl, rfl, rfl⟩
  | cons k0 ks ih =>
    intro zs ws es p rz iz
    cases rz with
    | nil =>
      cases es with
      | nil => exact .inl ⟨rfl, rfl, rfl⟩
      | cons d es => obtain ⟨_, _, z, _⟩ := iz; cases z
    | cons r0 rz =>
      cases es with
      | nil => cases iz
      | cons d es =>
        obtain ⟨i0, iz⟩ := iz.uncons
        simp only [List.zip_cons_cons, List.lookup_cons]
        cases p == k0 with
        | true => exact .inr ⟨_, _, _, rfl, rfl, rfl, r0, i0⟩
        | false => exact ih p rz iz
theorem kw_rel {K : PySem.W.Frag} {H : Hp} {ks : List Str} (l : List Str) {vs zs : List V} {us ws : List Value} {ds es : List D} (r : Vals vs us) (rz : Vals zs ws) (i : IsL K H ds vs) (iz : IsL K H es zs) :
      Vals (vs ++ l.filterMap fun p => (ks.zip zs).lookup p) (us ++ l.filterMap fun p => (ks.zip ws).lookup p) ∧ IsL K H (ds ++ l.filterMap fun p => (ks.zip es).lookup p) (vs ++ l.filterMap fun p => (ks.zip zs).lookup p) := by
  have fm : ∀ (l : List Str), Vals (l.filterMap fun p => (ks.zip zs).lookup p) (l.filterMap fun p => (ks.zip ws).lookup p) ∧ IsL K H (l.filterMap fun p => (ks.zip es).lookup p) (l.filterMap fun p => (ks.zip zs).lookup p) := by
    intro l
    induction l with
    | nil => exact ⟨.nil, .nil⟩
    | cons p l ih =>
      rcases kw_look ks p rz iz with ⟨e1, e2, e3⟩ | ⟨v, u, d, e1, e2, e3, r0, i0⟩
      · simp only [List.filterMap_cons, e1, e2, e3]
        exact ih
      · simp only [List.filterMap_cons, e1, e2, e3]
        exact ⟨.cons r0 ih.1, .cons i0 ih.2⟩
  exact ⟨r.append (fm l).1, i.app (fm l).2⟩

section
variable {X : Cx} {Θ : AbsI} {W : WX} {k : Nat}
theorem spTo {H F : Hp} {σ : L2.St} {ρ : Ro} {G : GH} {ds : List D} {vs : List V} {n : Nat} {sp : DSp} {Q : DK} {DX : DXK} {R : VK} (hv : vs.length = n) (e : EnvIs X.K H ρ σ) (r : Rep Θ X.K H G F) (i : IsL X.K H ds vs) (x : XTo Θ X.K W DX H F) (h : sp ds G Q fun e G' => DX e ρ G')
    (kk : ∀ v H' d G', Ext X.K H H' → Is X.K H' d v → Rep Θ X.K H' G' F → Q d G' → R v H') : lowSp Θ X.K n sp vs H R (WE W σ) :=
  ⟨hv, ds, G, F, Q, _, i, r, h, kk, fun cls d H' ee G' e1 ex r1 q1 => x cls d σ H' ee ρ G' e1 ex (e.ext e1) r1 q1⟩
theorem cal_fn {f : Addr} {ps : List Str} {sp : DSp} {kws : List (Nat × List Str)} {off : Nat} (h : FnI Θ X.prog X.w X.K X.mg X.base k f ps sp kws off) (hr : Room k X.A) (tk : Takes X W) : CalD X Θ W (.ref f) (cFn ps.length sp) := by
  intro pins s σ H vs us R ρ G F ds Q DX I r e rp i x hc kk
  obtain ⟨fd, F1, hb, _⟩ := h.ex
  exact run_fnS F1 hr hb (passAt tk σ) I r (spTo (by rw [i.len]; exact hc.1) e rp i x hc.2 kk)
theorem run_fnKD {f : Addr} {ps : List Str} {sp : DSp} {fd : FuncData} {n : Nat} {ks : List Str} (F1 : FnOk X.prog X.w X.K X.mg X.base (L2.CX X.prog X.w) k f fd ps (lowSp Θ X.K ps.length sp)) (hk : KOk X.K fd ps n ks) (hr : Room k X.A) (tk : Takes X W)
    {pins : List (Addr × Obj)} {s : Shared} {σ : L2.St} {H : Hp} {vs zs : List V} {us ws : List Value} {R : VK} {ρ : Ro} {G : GH} {F : Hp} {ds es : List D} {Q : DK} {DX : DXK} (I : Inv X pins σ H s) (r : Vals vs us) (rz : Vals zs ws) (e : EnvIs X.K H ρ σ) (rp : Rep Θ X.K H G F) (i : IsL X.K H ds vs) (iz : IsL X.K H es zs) (x : XTo Θ X.K W DX H F)
    (h1 : ds.length = n) (h2 : es.length = ks.length) (hc : cFn ps.length sp (kwArr ps n ks ds es) DX ρ G Q) (kk : ∀ v H' d G', Ext X.K H H' → Is X.K H' d v → Rep Θ X.K H' G' F → Q d G' → R v H') :
    wpAny (model X.prog X.w) X.A (call (.ref f) us (ks.zip ws)) (EP X pins σ R) X.xe s := by
  obtain ⟨b1, b2⟩ := hk s us ws I.kIn (by rw [← r.length, i.len, h1]) (by rw [← rz.length, iz.len, h2])
  obtain ⟨rv, iv⟩ := kw_rel (ks := ks) (ps.drop n) r rz i iz
  have hv : (vs ++ (ps.drop n).filterMap fun p => (ks.zip zs).lookup p).length = ps.length := by rw [rv.length]; exact b1
  have sp' := spTo (W := W) hv e rp iv x hc.2 kk
  refine wpAny_call (codeAny_mono (F1.run X.A X.stack s H ⟨us, ks.zip ws⟩ (kwArr ps n ks us ws) _ R (WE W σ) hr I.env0 b2 rv sp') fun r s' hq => ?_)
  cases r with
  | error ee => exact passAt tk σ pins H s ee s' I hq
  | ok fl =>
    cases fl with
    | ret u => exact I.after hq
    | next => exact False.elim hq
    | brk => exact False.elim hq
    | cont => exact False.elim hq
theorem cal_fnK {f : Addr} {ps : List Str} {sp : DSp} {kws : List (Nat × List Str)} {n : Nat} {ks : List Str} (h : FnI Θ X.prog X.w X.K X.mg X.base k f ps sp kws 0) (hr : Room k X.A) (tk : Takes X W) :
    CalK X Θ W (.ref f) ks (gCallK n ks (.fn f ps sp kws)) := by
  intro pins s σ H vs zs us ws R ρ G F ds es Q DX I r rz e rp i iz x hc kk
  obtain ⟨fd, F1, hb, hk⟩ := h.ex
  obtain ⟨h1, h2, h3, h4⟩ := hc
  exact run_fnKD F1 (hk _ h3) hr tk I r rz e rp i iz x h1 h2 h4 kk
theorem run_makeD {f C : Addr} {ps : List Str} {sp : DSp} {fd : FuncData} {pins : List (Addr × Obj)} {s : Shared} {σ : L2.St} {H : Hp} {vs : List V} {us us0 : List Value} {kw : List (Str × Value)} {R : VK} {ρ : Ro} {G : GH} {F : Hp} {ds : List D} {Q : DK} {DX : DXK}
    (M : Mk X.K C f) (F1 : FnOk X.prog X.w X.K X.mg X.base (L2.CX X.prog X.w) k f fd ps (lowSp Θ X.K ps.length sp)) (hr : Room (k + 1) X.A) (tk : Takes X W) (I : Inv X pins σ H s) (r : Vals vs us) (e : EnvIs X.K H ρ σ) (rp : Rep Θ X.K H G F) (i : IsL X.K H ds vs) (x : XTo Θ X.K W DX H F)
    (hb : ∀ (s : Shared) (a : Addr), X.K.In s.heap → BindsTo s fd ⟨Value.ref a :: us0, kw⟩ (ps.zip (Value.ref a :: us)))
    (hc : cCls C ps.length sp ds DX ρ G Q) (kk : ∀ v H' d G', Ext X.K H H' → Is X.K H' d v → Rep Θ X.K H' G' F → Q d G' → R v H') : wpAny (model X.prog X.w) X.A (call (.ref C) us0 kw) (EP X pins σ R) X.xe s := by
  obtain ⟨h1, h2⟩ := hc
  have hx : H (s.heap.objs.size + 1) = none := I.hok.fresh (Nat.le_succ _)
  have hd : H s.heap.objs.size = none := I.hok.fresh (Nat.le_refl _)
  have ne : s.heap.objs.size + 1 ≠ s.heap.objs.size := Nat.succ_ne_self _
  have I2 := Inv.made (C := C) I
  have x1 : Ext X.K H (upd H s.heap.objs.size (.own (s.heap.objs.size + 1))) := ext_upd_new hd
  have hx' : (upd H s.heap.objs.size (.own (s.heap.objs.size + 1))) (s.heap.objs.size + 1) = none := by rw [upd_ne ne]; exact hx
  have x2 := x1.trans (ext_upd_new (o := .ins C s.heap.objs.size []) (K := X.K) hx')
  have r2 : Rep Θ X.K (upd (upd H s.heap.objs.size (.own (s.heap.objs.size + 1))) (s.heap.objs.size + 1) (.ins C s.heap.objs.size [])) (gup G (s.heap.objs.size + 1) (.ins C [])) F :=
    (rp.newH hd).new hx' fun own => .ins upd_same rfl
  have q := h2 (s.heap.objs.size + 1) (rp.free hx).1
  have sp' := spTo (W := W) (R := fun v H2 => v = .non ∧ R (.ref (s.heap.objs.size + 1)) H2) (vs := V.ref (s.heap.objs.size + 1) :: vs) (n := ps.length) (by rw [List.length_cons, i.len]; exact h1) (e.ext x2) r2 (.cons .ref (IsL.ext x2 _ i)) (x.ext x2) q
    fun v H' d G' e' i' r' q' => by
      obtain ⟨rfl, q'⟩ := q'
      exact ⟨i', kk _ _ _ _ (x2.trans e') .ref r' q'⟩
  refine wpAny_call (make_map (f := f) I.kIn M.makes M.init (beq_iff_eq.mp M.fn) (codeAny_mono (F1.run _ X.stack _ _ ⟨Value.ref (s.heap.objs.size + 1) :: us0, kw⟩ (Value.ref (s.heap.objs.size + 1) :: us) _ _ (WE W σ) (hr.make C us0 kw)
    (I2.env0.make C us0 kw) (hb _ _ I2.kIn) (.cons (show RelV (V.ref (s.heap.objs.size + 1)) (Value.ref (s.heap.objs.size + 1)) from rfl) r) sp') fun r s' hq' => ?_))
  cases r with
  | error e => exact passAt tk σ pins _ _ e s' I2 hq'
  | ok fl =>
    cases fl with
    | ret u =>
      obtain ⟨v, H', I3, rv, ev, q3⟩ := I2.after hq'
      subst ev
      exact ⟨rv, ⟨V.ref (s.heap.objs.size + 1), H', I3, rfl, q3⟩⟩
    | next => exact False.elim hq'
    | brk => exact False.elim hq'
    | cont => exact False.elim hq'
theorem cal_cls {f C : Addr} {ps : List Str} {sp : DSp} {kws : List (Nat × List Str)} (M : Mk X.K C f) (h : FnI Θ X.prog X.w X.K X.mg X.base k f ps sp kws 1) (hr : Room (k + 1) X.A) (tk : Takes X W) : CalD X Θ W (.ref C) (cCls C ps.length sp) := by
  intro pins s σ H vs us R ρ G F ds Q DX I r e rp i x hc kk
  obtain ⟨fd, F1, hb, _⟩ := h.ex
  exact run_makeD (kw := []) M F1 hr tk I r e rp i x (fun s a hk => by
    have := hb s (Value.ref a :: us) hk (by rw [List.append_nil, List.length_cons, ← r.length, i.len]; exact hc.1)
    rw [List.append_nil] at this
    exact this) hc kk
theorem cal_clsK {f C : Addr} {ps : List Str} {sp : DSp} {kws : List (Nat × List Str)} {n : Nat} {ks : List Str} (M : Mk X.K C f) (h : FnI Θ X.prog X.w X.K X.mg X.base k f ps sp kws 1) (hr : Room (k + 1) X.A) (tk : Takes X W) :
    CalK X Θ W (.ref C) ks (gCallK n ks (.cls C ps sp kws)) := by
  intro pins s σ H vs zs us ws R ρ G F ds es Q DX I r rz e rp i iz x hc kk
  obtain ⟨fd, F1, hb, hk⟩ := h.ex
  obtain ⟨h1, h2, h3, h4⟩ := hc
  have hb' := hk _ h3
  obtain ⟨rv, iv⟩ := kw_rel (ks := ks) ((ps.drop 1).drop n) r rz i iz
  refine run_makeD (us := kwArr (ps.drop 1) n ks us ws) M F1 hr tk I rv e rp iv x (fun s a hk => ?_) h4 kk
  have := (hb' s (Value.ref a :: us) ws hk (by rw [List.length_cons, ← r.length, i.len, h1]) (by rw [← rz.length, iz.len, h2])).2
  have e2 : kwArr ps (n + 1) ks (Value.ref a :: us) ws = Value.ref a :: kwArr (ps.drop 1) n ks us ws := by
    unfold kwArr
    rw [List.drop_drop, Nat.add_comm 1 n]
    rfl
  rw [e2] at this
  exact this
/-- not starred -/
def plS : Expr → Bool
  | .Starred .. => false
  | _ => true
theorem star_cons {e : Expr} {es : List Expr} {env : Env} (h : plS e = true) : starEach (e :: es) env = (false, eval e env) :: starEach es env := by
  cases e <;> first | rfl | cases h
theorem star_plain {env : Env} {pos : Pos} : ∀ {es : List Expr}, es.all plS = true → (backTo pos (starEach es env)).any (·.1) = false
  | [], _ => rfl
  | e :: es, h => by
    rw [List.all_cons, Bool.and_eq_true] at h
    rw [star_cons h.1]
    show ((false || (backTo pos (starEach es env)).any (·.1))) = false
    rw [star_plain h.2]
    rfl
theorem kw_names {env : Env} {pos : Pos} : ∀ {kws : List Keyword} {ks : List Str}, kws.map (·.arg) = ks.map some →
    (backToKw pos (keywordEach kws env)).all (·.1.isSome) = true ∧ (backToKw pos (keywordEach kws env)).filterMap (·.1) = ks ∧ (backToKw pos (keywordEach kws env)).any (·.1.isNone) = false
  | [], [], _ => ⟨rfl, rfl, rfl⟩
  | [], _ :: _, h => nomatch h
  | _ :: _, [], h => nomatch h
  | ⟨a, e, p⟩ :: kws, k :: ks, h => by
    simp only [List.map_cons, List.cons.injEq] at h
    obtain ⟨h1, h2⟩ := h
    cases h1
    obtain ⟨a1, a2, a3⟩ := kw_names (env := env) (pos := pos) h2
    refine ⟨?_, ?_, ?_⟩
    · show ((some k).isSome && (backToKw pos (keywordEach kws env)).all (·.1.isSome)) = true
      rw [a1]; rfl
    · show (k :: (backToKw pos (keywordEach kws env)).filterMap (·.1)) = k :: ks
      rw [a2]
    · show ((some k).isNone || (backToKw pos (keywordEach kws env)).any (·.1.isNone)) = false
      rw [a3]; rfl
/-- keyword arguments -/
theorem dk_nil : PK X [] (lowA Θ X.K W dNil) := ⟨fun p pins s σ H R I ⟨ρ, G, F, Q, DX, e, rr, h, x, k⟩ => pk_nil.run p pins s σ H R I (k _ _ _ _ Ext.refl IsL.nil rr h)⟩
theorem dk_cons {e : Expr} {kws : List Keyword} {nm : Option Str} {kpos : Pos} {te : TED} {t : TAD} (ha : PE X e (lowE Θ X.K W te)) (hr : PK X kws (lowA Θ X.K W t)) : PK X (⟨nm, e, kpos⟩ :: kws) (lowA Θ X.K W (dCons te t)) :=
  ⟨fun p pins s σ H R I ⟨ρ, G, F, Q, DX, e, rr, h, x, k⟩ => (pk_cons ha hr).run p pins s σ H R I (lowE_mk e rr x h fun v H1 d G1 e1 i1 r1 q1 => lowA_mk (e.ext e1) r1 (x.ext e1) q1 fun vs H2 ds G2 e2 i2 r2 q2 =>
    k _ _ _ _ (e1.trans e2) (.cons (i1.ext e2 d) i2) r2 q2)⟩

/-! ### calls of a module's name -/
structure GOk (Θ : AbsI) (X : Cx) (k : Nat) (Γ : GEnv) : Prop where
  g : ∀ x, GVOk Θ X.prog X.w X.K X.mg X.base k x (Γ.g x)
  m : ∀ C x, match Γ.m C x with
    | .fn f ps sp kws => Cls X.K C ∧ Meth X.K C x f ∧ FnI Θ X.prog X.w X.K X.mg X.base k f ps sp kws 1
    | _ => True
/-- what a call of the name needs -/
theorem gcal {Γ : GEnv} (ok : GOk Θ X k Γ) (hr : Room k X.A) (tk : Takes X W) (x : Str) (hc : isCal (Γ.g x) = true) : ∃ f : Addr, X.mg x = some (.ref f) ∧ PySem.W.keepIn X.K (.ref f) = true ∧ CalD X Θ W (.ref f) (gCall (Γ.g x)) ∧ ∀ n ks, CalK X Θ W (.ref f) ks (gCallK n ks (Γ.g x)) := by
  have h := ok.g x
  cases e : Γ.g x with
  | fn a ps sp kws =>
    rw [e] at h
    obtain ⟨h1, h2⟩ := h
    exact ⟨a, h1, h2.kp, cal_fn h2 hr tk, fun n ks => cal_fnK h2 hr tk⟩
  | cls C ps sp kws =>
    rw [e] at h
    obtain ⟨h1, h0, f, M, h2⟩ := h
    obtain ⟨j, rfl⟩ : ∃ j, k = j + 1 := ⟨k - 1, by omega⟩
    exact ⟨C, h1, M.kp, cal_cls M h2 hr tk, fun n ks => cal_clsK M h2 hr tk⟩
  | _ => rw [e] at hc; cases hc
theorem runA {es : List Expr} {t : TAD} {pos : Pos} {pins : List (Addr × Obj)} {s : Shared} {σ : L2.St} {H : Hp} {ρ : Ro} {G : GH} {F : Hp} {Q : List D → GH → Prop} {DX : DXK} (ha : PA X es (lowA Θ X.K W t)) (I : Inv X pins σ H s) (e : EnvIs X.K H ρ σ) (r : Rep Θ X.K H G F) (x : XTo Θ X.K W DX H F) (h : t DX ρ G Q) :
    wpAny (model X.prog X.w) X.A (spliced (backTo pos (starEach es X.env))) (AP X pins σ fun vs H1 => ∃ ds G1, Ext X.K H H1 ∧ IsL X.K H1 ds vs ∧ Rep Θ X.K H1 G1 F ∧ Q ds G1) X.xe s :=
  ha.run pos pins s σ H _ I (lowA_mk e r x h fun vs H1 ds G1 e1 i1 r1 q1 => ⟨ds, G1, e1, i1, r1, q1⟩)
theorem runE {a : Expr} {t : TED} {pins : List (Addr × Obj)} {s : Shared} {σ : L2.St} {H : Hp} {ρ : Ro} {G : GH} {F : Hp} {Q : DK} {DX : DXK} (ha : PE X a (lowE Θ X.K W t)) (I : Inv X pins σ H s) (e : EnvIs X.K H ρ σ) (r : Rep Θ X.K H G F) (x : XTo Θ X.K W DX H F) (h : t DX ρ G Q) :
    wpAny (model X.prog X.w) X.A (eval a X.env) (EP X pins σ fun v H1 => ∃ d G1, Ext X.K H H1 ∧ Is X.K H1 d v ∧ Rep Θ X.K H1 G1 F ∧ Q d G1) X.xe s :=
  ha.run pins s σ H _ I (lowE_mk e r x h fun v H1 d G1 e1 i1 r1 q1 => ⟨d, G1, e1, i1, r1, q1⟩)
theorem de_call {Γ : GEnv} {x : Str} {p pos : Pos} {e0 : Expr} {es : List Expr} {t : TAD} (ok : GOk Θ X k Γ) (hr : Room k X.A) (tk : Takes X W) (hg : Gl X x) (hdb : (x == ("__debug__" : Str)) = false) (hs : (e0 :: es).all plS = true) (ha : PA X (e0 :: es) (lowA Θ X.K W t)) :
    PE X (.Call (.Name x p) (e0 :: es) [] pos) (lowE Θ X.K W (dCall (Γ.g x) t)) := by
  refine ⟨fun pins s σ H R I h => ?_⟩
  obtain ⟨ρ, G, F, Q, DX, e, rr, ⟨hcal, h⟩, x, kk⟩ := h
  obtain ⟨f, hm, hk, hc, _⟩ := gcal ok hr tk _ hcal
  refine wpAny_Call_Name_kw (ld_glob I hg hm ?_ hdb)
  rw [List.all_cons, Bool.and_eq_true] at hs
  refine PySem.W.callWith_K (h₀ := X.base) I.ok.mod.kin hk (thn (runA ha I e rr x h) fun us s1 ⟨vs, H1, I1, r, ds, G1, e1, i1, r1, q1⟩ => ⟨I1.kIn, ?_⟩) (star_cons hs.1) (star_plain hs.2)
  exact hc pins s1 σ H1 vs us R ρ G1 F ds Q DX I1 r (e.ext e1) r1 i1 (x.ext e1) q1 fun v H' d G' e2 => kk v H' d G' (e1.trans e2)
theorem de_call0 {Γ : GEnv} {x : Str} {p pos : Pos} (ok : GOk Θ X k Γ) (hr : Room k X.A) (tk : Takes X W) (hg : Gl X x) (hdb : (x == ("__debug__" : Str)) = false) : PE X (.Call (.Name x p) [] [] pos) (lowE Θ X.K W (dCall (Γ.g x) dNil)) := by
  refine ⟨fun pins s σ H R I h => ?_⟩
  obtain ⟨ρ, G, F, Q, DX, e, rr, ⟨hcal, h⟩, x, kk⟩ := h
  obtain ⟨f, hm, hk, hc, _⟩ := gcal ok hr tk _ hcal
  refine wpAny_Call_Name_kw (ld_glob I hg hm ?_ hdb)
  exact PySem.W.callWith_K0 I.kIn hk (hc pins s σ H [] [] R ρ G F [] Q DX I .nil e rr .nil x h kk)
theorem de_callK {Γ : GEnv} {x : Str} {p pos : Pos} {e0 : Expr} {es : List Expr} {kws : List Keyword} {ks : List Str} {t u : TAD} (ok : GOk Θ X k Γ) (hr : Room k X.A) (tk : Takes X W) (hg : Gl X x) (hdb : (x == ("__debug__" : Str)) = false) (hs : (e0 :: es).all plS = true) (hks : kws.map (·.arg) = ks.map some)
    (ha : PA X (e0 :: es) (lowA Θ X.K W t)) (hkw : PK X kws (lowA Θ X.K W u)) : PE X (.Call (.Name x p) (e0 :: es) kws pos) (lowE Θ X.K W (dCallK (Γ.g x) (e0 :: es).length ks t u)) := by
  refine ⟨fun pins s σ H R I h => ?_⟩
  obtain ⟨ρ, G, F, Q, DX, e, rr, ⟨hcal, h⟩, x, kk⟩ := h
  obtain ⟨f, hm, hk, _, hc⟩ := gcal ok hr tk _ hcal
  obtain ⟨n1, n2, n3⟩ := kw_names (env := X.env) (pos := pos) hks
  refine wpAny_Call_Name_kw (ld_glob I hg hm ?_ hdb)
  have hs' := hs
  rw [List.all_cons, Bool.and_eq_true] at hs
  refine PySem.W.callWith_KW (h₀ := X.base) I.ok.mod.kin hk n1 (thn (runA ha I e rr x h) fun us s1 ⟨vs, H1, I1, r, ds, G1, e1, i1, r1, q1⟩ => ?_) (by rw [star_plain hs', n3]; rfl) (star_cons hs.1)
  refine thn (hkw.run pos pins s1 σ H1 (fun zs H2 => ∃ es G2, Ext X.K H1 H2 ∧ IsL X.K H2 es zs ∧ Rep Θ X.K H2 G2 F ∧ _) I1 (lowA_mk (e.ext e1) r1 (x.ext e1) q1 fun zs H2 es G2 e2 i2 r2 q2 => ⟨es, G2, e2, i2, r2, q2⟩)) fun ws s2 ⟨zs, H2, I2, rz, es, G2, e2, i2, r2, q2⟩ => ⟨I2.kIn, ?_⟩
  rw [n2]
  exact hc _ ks pins s2 σ H2 vs zs us ws R ρ G2 F ds es Q DX I2 r rz (e.ext (e1.trans e2)) r2 (IsL.ext e2 _ i1) i2 (x.ext (e1.trans e2)) q2 fun v H' d G' e3 => kk v H' d G' (e1.trans (e2.trans e3))
theorem de_callK0 {Γ : GEnv} {x : Str} {p pos : Pos} {kws : List Keyword} {ks : List Str} {u : TAD} (ok : GOk Θ X k Γ) (hr : Room k X.A) (tk : Takes X W) (hg : Gl X x) (hdb : (x == ("__debug__" : Str)) = false) (hks : kws.map (·.arg) = ks.map some)
    (hkw : PK X kws (lowA Θ X.K W u)) : PE X (.Call (.Name x p) [] kws pos) (lowE Θ X.K W (dCallK (Γ.g x) 0 ks dNil u)) := by
  refine ⟨fun pins s σ H R I h => ?_⟩
  obtain ⟨ρ, G, F, Q, DX, e, rr, ⟨hcal, h⟩, x, kk⟩ := h
  obtain ⟨f, hm, hk, _, hc⟩ := gcal ok hr tk _ hcal
  obtain ⟨n1, n2, n3⟩ := kw_names (env := X.env) (pos := pos) hks
  refine wpAny_Call_Name_kw (ld_glob I hg hm ?_ hdb)
  refine PySem.W.callWith_KW0 (h₀ := X.base) I.ok.mod.kin hk n1 ?_ (by rw [n3]; rfl)
  refine thn (hkw.run pos pins s σ H (fun zs H2 => ∃ es G2, Ext X.K H H2 ∧ IsL X.K H2 es zs ∧ Rep Θ X.K H2 G2 F ∧ _) I (lowA_mk e rr x h fun zs H2 es G2 e2 i2 r2 q2 => ⟨es, G2, e2, i2, r2, q2⟩)) fun ws s2 ⟨zs, H2, I2, rz, es, G2, e2, i2, r2, q2⟩ => ⟨I2.kIn, ?_⟩
  rw [n2]
  exact hc _ ks pins s2 σ H2 [] zs [] ws R ρ G2 F [] es Q DX I2 .nil rz (e.ext e2) r2 .nil i2 (x.ext e2) q2 fun v H' d G' e3 => kk v H' d G' (e2.trans e3)
/-- a module's name as a value -/
def gVal : GV → Option D
  | .con d => some d
  | .fn a _ _ _ => some (.ref a)
  | .cls C _ _ _ => some (.ref C)
  | .exc C => some (.ref C)
  | .exi C _ _ => some (.ref C)
  | _ => none
def dGlob (g : GV) (X : DXK) (ρ : Ro) (G : GH) (Q : DK) : Prop := match gVal g with
  | some d => Q d G
  | none => False
theorem de_glob {Γ : GEnv} {x : Str} {pos : Pos} (ok : GOk Θ X k Γ) (hg : Gl X x) (hdb : (x == ("__debug__" : Str)) = false) : PE X (.Name x pos) (lowE Θ X.K W (dGlob (Γ.g x))) := by
  have h := ok.g x
  cases e : Γ.g x with
  | con d =>
    rw [e] at h
    obtain ⟨v, u, h1, h2, h3⟩ := h
    exact de_c (pe_glob hg h1 h2 hdb) h3
  | fn a ps sp kws =>
    rw [e] at h
    exact de_c (d := .ref a) (pe_glob (v := .ref a) hg h.1 rfl hdb) fun _ => rfl
  | cls C ps sp kws =>
    rw [e] at h
    exact de_c (d := .ref C) (pe_glob (v := .ref C) hg h.1 rfl hdb) fun _ => rfl
  | exc C =>
    rw [e] at h
    exact de_c (d := .ref C) (pe_glob (v := .ref C) hg h.1 rfl hdb) fun _ => rfl
  | exi C n l =>
    rw [e] at h
    exact de_c (d := .ref C) (pe_glob (v := .ref C) hg h.1 rfl hdb) fun _ => rfl
  | _ => exact ⟨fun pins s σ H R I ⟨ρ, G, F, Q, DX, e, rr, h, x, kk⟩ => h.elim⟩
/-! ### raise -/
def dRaise (g : GV) (E : DEnds) (ρ : Ro) (G : GH) : Prop := match g with
  | .exc C => E.ex ⟨C, []⟩ ρ G
  | _ => False
theorem ds_raise {Γ : GEnv} {x m : Str} {j : Nat} {p p2 pos pos' : Pos} (ok : GOk Θ X k Γ) (tk : Takes X W) (hc : X.calm = true) (hg : Gl X x) (hdb : (x == ("__debug__" : Str)) = false) :
    PS X (.Raise (some (.Call (.Name x p) [.Constant (.str m) j p2] [] pos)) none pos') (lowS Θ X.K W (dRaise (Γ.g x))) := by
  have h := ok.g x
  cases e : Γ.g x with
  | exc C =>
    rw [e] at h
    obtain ⟨h1, h2, h3, h4, h5⟩ := h
    exact (ps_raise hc tk (pmk_own PySem.F.excBase_ValueError h2 h1 h3 (raises_own h4 h5) hg hdb)).weak fun D σ H h => by
      obtain ⟨ρ, G, F, E, e, r, h, t⟩ := lowS_of h
      exact t.ex (.ref C) none σ H ⟨C, []⟩ ρ G Ext.refl ⟨rfl, rfl⟩ e r h
  | _ => exact ⟨fun pins s σ H D I h => by
      obtain ⟨ρ, G, F, E, e, r, h, t⟩ := lowS_of h
      exact h.elim⟩
end
end Dl

/-! raise C(a, ..), C an own exception that keeps its arguments. -/
namespace Dl
open PySem PySem.Spec PyProof.Rows L2
def fldsD (l : List (Str × Nat)) (ds : List D) : List (Str × D) := (l.map fun p => (p.1, (ds[p.2]?).getD .non)).reverse
theorem fldsD_is {K : PySem.W.Frag} {H : Hp} {ds : List D} {vs : List V} (i : IsL K H ds vs) : ∀ (l : List (Str × Nat)), IsK K H (fldsD l ds) (flds l (vs.map some)) := by
  have app : ∀ {as bs : List (Str × D)} {us ws : List (Str × V)}, IsK K H as us → IsK K H bs ws → IsK K H (as ++ bs) (us ++ ws) := by
    intro as
    induction as with
    | nil => intro bs us ws h h'; rw [show _ = [] from h]; exact h'
    | cons p as ih =>
      intro bs us ws h h'
      obtain ⟨x, q, rfl, h2, h3⟩ := h
      exact ⟨x, _, rfl, h2, ih h3 h'⟩
  intro l
  induction l with
  | nil => exact rfl
  | cons p l ih =>
    unfold fldsD flds at ih ⊢
    rw [List.map_cons, List.map_cons, List.reverse_cons, List.reverse_cons]
    refine app ih ⟨_, [], rfl, ?_, rfl⟩
    rw [List.getElem?_map]
    cases e : ds[p.2]? with
    | none =>
      have : vs[p.2]? = none := by
        rw [List.getElem?_eq_none_iff] at e ⊢
        rw [i.len]; exact e
      rw [this]
      exact rfl
    | some d =>
      obtain ⟨x, e1, e2⟩ := i.get e
      rw [e1]
      exact e2
/-- the formula of raise C(..) -/
def dRaiseF (C : Addr) (n : Nat) (l : List (Str × Nat)) (t : TAD) (E : DEnds) (ρ : Ro) (G : GH) : Prop := t E.ex ρ G fun ds G1 => ds.length = n ∧ E.ex ⟨C, fldsD l ds⟩ ρ G1
section
variable {X : Cx} {Θ : AbsI} {W : WX} {k n : Nat} {C fI : Addr} {fd : FuncData} {ps : List Str} {l : List (Str × Nat)} {x : Str} {e : Expr} {es : List Expr} {t : TAD} {p pos pos' : Pos}
theorem ds_raiseF (T : OexC X.K C) (iC : PySem.W.findIn X.K (.ref C) "__init__" = some (some (.ref fI))) (tI : PySem.W.typeIn X.K (.ref fI) = some (.type "function")) (hl1 : ∀ p ∈ l, 1 ≤ p.2) (hl0 : l ≠ []) (hn : n ≤ 1000)
    (F1 : FnOk X.prog X.w X.K X.mg X.base (L2.CX X.prog X.w) k fI fd ps (spX C n l)) (hr : Room (k + 1) X.A) (hb : Binds X.K fd ps []) (tk : Takes X W) (hc : X.calm = true) (hg : Gl X x) (hm : X.mg x = some (.ref C)) (ha : PA X (e :: es) (lowA Θ X.K W t))
    (hdb : (x == ("__debug__" : Str)) = false) (he : starEach (e :: es) X.env = (false, eval e X.env) :: starEach es X.env) (hpl : (backTo pos (starEach es X.env)).any (·.1) = false) :
    PS X (.Raise (some (.Call (.Name x p) (e :: es) [] pos)) none pos') (lowS Θ X.K W (dRaiseF C n (l.map fun p => (p.1, p.2 - 1)) t)) :=
  (ps_raise hc tk (pmk_flds T iC tI hl1 hn F1 hr hb (fun _ _ _ _ _ _ _ ⟨_, _, _, _, _, _, _, _, _, _, _, _, z⟩ => z.elim) hg hm ha hdb he hpl)).weak fun D σ H h => by
    have nonil : ∀ {ds : List Dl.D}, fldsD (l.map fun p => (p.1, p.2 - 1)) ds ≠ [] := fun {ds} z => by
      unfold fldsD at z
      have := congrArg List.length z
      simp at this
      exact hl0 this
    obtain ⟨ρ, G, F, E, e, r, h, tt⟩ := lowS_of h
    refine lowA_mk e r tt.ex h fun vs H1 ds G1 e1 i1 r1 q1 => ⟨by rw [i1.len]; exact q1.1, fun d hd => ?_⟩
    exact tt.ex (.ref C) (some d) σ _ ⟨C, fldsD (l.map fun p => (p.1, p.2 - 1)) ds⟩ ρ G1 (e1.trans (ext_upd_new hd)) ⟨rfl, nonil, _, upd_same, (fldsD_is i1 _).ext (ext_upd_new hd)⟩ (e.ext (e1.trans (ext_upd_new hd))) (r1.newH hd) q1.2
/-- raise x(..), x a module's name -/
def dRaiseA (g : GV) (t : TAD) (E : DEnds) (ρ : Ro) (G : GH) : Prop := match g with
  | .exi C n l => dRaiseF C n (l.map fun p => (p.1, p.2 - 1)) t E ρ G
  | _ => False
theorem ds_raiseA {Γ : GEnv} {t : TAD} (ok : GOk Θ X k Γ) (hr : Room k X.A) (tk : Takes X W) (hc : X.calm = true) (hg : Gl X x) (hdb : (x == ("__debug__" : Str)) = false) (hs : (e :: es).all plS = true) (ha : PA X (e :: es) (lowA Θ X.K W t)) :
    PS X (.Raise (some (.Call (.Name x p) (e :: es) [] pos)) none pos') (lowS Θ X.K W (dRaiseA (Γ.g x) t)) := by
  have h := ok.g x
  have hs' := hs
  rw [List.all_cons, Bool.and_eq_true] at hs'
  cases q : Γ.g x with
  | exi C n l =>
    rw [q] at h
    obtain ⟨hm, T, hl1, hl0, hn, h0, fI, fd, ps, iC, tI, hb, F⟩ := h
    obtain ⟨k', rfl⟩ : ∃ k', k = k' + 1 := ⟨k - 1, by omega⟩
    exact ds_raiseF T iC tI hl1 hl0 hn F hr hb tk hc hg hm ha hdb (star_cons hs'.1) (star_plain hs'.2)
  | _ => exact ⟨fun pins s σ H D I h => by
      obtain ⟨ρ, G, F, E, e, r, h, t⟩ := lowS_of h
      exact h.elim⟩
end
end Dl

namespace Dl
open PySem PySem.Spec PyProof.Rows L2

section
variable {K : PySem.W.Frag} {H : Hp}
theorem IsK.look {fs : List (Str × D)} {ws : List (Str × V)} (h : IsK K H fs ws) (f : Str) : (fs.lookup f = none ∧ ws.lookup f = none) ∨ ∃ d v, fs.lookup f = some d ∧ ws.lookup f = some v ∧ Is K H d v := by
  induction fs generalizing ws with
  | nil => rw [show ws = [] from h]; exact .inl ⟨rfl, rfl⟩
  | cons p fs ih =>
    obtain ⟨k, d⟩ := p
    obtain ⟨x, q, rfl, h2, h3⟩ := h
    simp only [List.lookup_cons]
    cases f == k with
    | true => exact .inr ⟨d, x, rfl, rfl, h2⟩
    | false => exact ih h3
def putFD (f : Str) (v : D) : List (Str × D) → List (Str × D)
  | [] => [(f, v)]
  | (g, x) :: r => if g = f then (g, v) :: r else (g, x) :: putFD f v r
theorem IsK.put {f : Str} {d : D} {v : V} (i : Is K H d v) : ∀ {fs : List (Str × D)} {ws : List (Str × V)}, IsK K H fs ws → IsK K H (putFD f d fs) (putF f v ws)
  | [], _, h => by rw [show _ = [] from h]; exact ⟨v, [], rfl, i, rfl⟩
  | (g, x) :: r, _, h => by
    obtain ⟨y, q, rfl, h2, h3⟩ := h
    unfold putFD putF
    by_cases e : g = f
    · rw [if_pos e, if_pos e]
      exact ⟨v, q, rfl, i, h3⟩
    · rw [if_neg e, if_neg e]
      exact ⟨y, _, rfl, h2, IsK.put i h3⟩
end
/-- o.f -/
def dFld (K : PySem.W.Frag) (f : Str) (ta : TED) (X : DXK) (ρ : Ro) (G : GH) (Q : DK) : Prop := ta X ρ G fun x G1 => match x with
  | .ref a => ∃ C fs d, G1 a = some (.ins C fs) ∧ Cls K C ∧ NoAttr K C f ∧ fs.lookup f = some d ∧ Q d G1
  | _ => False
/-- o.f = e -/
def dFldSet (K : PySem.W.Frag) (f : Str) (to te : TED) (E : DEnds) (ρ : Ro) (G : GH) : Prop := te E.ex ρ G fun v G1 => to E.ex ρ G1 fun x G2 => match x with
  | .ref a => ∃ C fs, G2 a = some (.ins C fs) ∧ Cls K C ∧ NoAttr K C f ∧ fs.length < 1000 ∧ E.nx ρ (gup G2 a (.ins C (putFD f v fs)))
  | _ => False
/-- o.m(..) of a class of one's own -/
def dMeth (Γ : GEnv) (m : Str) (to : TED) (t : TAD) (X : DXK) (ρ : Ro) (G : GH) (Q : DK) : Prop := to X ρ G fun x G1 => match x with
  | .ref a => ∃ C fs f ps sp kws, G1 a = some (.ins C fs) ∧ fs.lookup m = none ∧ Γ.m C m = .fn f ps sp kws ∧ t X ρ G1 fun ds G2 => cFn ps.length sp (.ref a :: ds) X ρ G2 Q
  | _ => False
def dMethK (Γ : GEnv) (m : Str) (n : Nat) (ks : List Str) (to : TED) (t tk : TAD) (X : DXK) (ρ : Ro) (G : GH) (Q : DK) : Prop := to X ρ G fun x G1 => match x with
  | .ref a => ∃ C fs f ps sp kws, G1 a = some (.ins C fs) ∧ fs.lookup m = none ∧ Γ.m C m = .fn f ps sp kws ∧ (n, ks) ∈ kws ∧ t X ρ G1 fun ds G2 => tk X ρ G2 fun es G3 => ds.length = n ∧ es.length = ks.length ∧
      cFn ps.length sp (kwArr ps (n + 1) ks (.ref a :: ds) es) X ρ G3 Q
  | _ => False
section
variable {X : Cx} {Θ : AbsI} {W : WX} {k : Nat} {ta to te : TED}
theorem de_fld {e : Expr} {f : Str} {pos : Pos} (he : PE X e (lowE Θ X.K W ta)) (hb : attributeBase e f X.env (eval e X.env) = eval e X.env) : PE X (.Attribute e f pos) (lowE Θ X.K W (dFld X.K f ta)) :=
  (pe_fld he hb).weak fun σ H R ⟨ρ, G, F, Q, DX, e, rr, h, x, k⟩ => lowE_mk e rr x h fun v H1 d G1 e1 i1 r1 q1 => by
    cases d with
    | ref a =>
      obtain ⟨C, fs, d, h1, h2, h3, h4, h5⟩ := q1
      obtain ⟨dx, ws, w1, w2⟩ := r1.ins h1
      rcases w2.look f with ⟨z, _⟩ | ⟨d', v', z1, z2, z3⟩
      · rw [h4] at z; cases z
      · rw [h4] at z1; cases z1
        exact ⟨a, C, dx, ws, v', i1, w1, h2, h3, z2, k _ _ _ _ e1 z3 r1 h5⟩
    | _ => exact q1.elim
theorem ds_fld {o value : Expr} {f : Str} {pos pos' : Pos} (ha : PE X o (lowE Θ X.K W to)) (hv : PE X value (lowE Θ X.K W te)) (hs : swapsWith value (some (.Attribute o f pos')) pos.line X.env = pure false) :
    PS X (.Assign [.Attribute o f pos'] value pos) (lowS Θ X.K W (dFldSet X.K f to te)) := (ps_fld ha hv hs).weak fun D σ H h => by
  obtain ⟨ρ, G, F, E, e, r, h, t⟩ := lowS_of h
  refine lowE_mk e r t.ex h fun v H1 d G1 e1 i1 r1 q1 => lowE_mk (e.ext e1) r1 (t.ex.ext e1) q1 fun o H2 x G2 e2 i2 r2 q2 => ?_
  cases x with
  | ref a =>
    obtain ⟨C, fs, h1, h2, h3, h4, h5⟩ := q2
    obtain ⟨dx, ws, w1, w2⟩ := r2.ins h1
    have x3 : Ext X.K H2 (upd H2 a (.ins C dx (putF f v ws))) := ext_upd_mut w1 trivial
    refine ⟨a, C, dx, ws, i2, w1, h2, h3, by rw [w2.len]; exact h4, t.nx _ _ _ _ (e1.trans (e2.trans x3)) (e.ext (e1.trans (e2.trans x3))) (r2.write h1 w1 trivial fun own _ => .ins upd_same ?_) h5⟩
    exact IsK.ext x3 (IsK.put (i1.ext e2 d) w2)
  | _ => exact q2.elim
theorem de_meth {Γ : GEnv} {o e0 : Expr} {es : List Expr} {m : Str} {apos pos : Pos} {t : TAD} {pl : Sem Bool} (ok : GOk Θ X k Γ) (hr : Room k X.A) (tk : Takes X W) (ho : PE X o (lowE Θ X.K W to)) (hs : (e0 :: es).all plS = true) (ha : PA X (e0 :: es) (lowA Θ X.K W t))
    (ht : eval (.Call (.Attribute o m apos) (e0 :: es) [] pos) X.env = (do
      let ov ← eval o X.env
      standAt apos.atName
      let (f, first) ← holding [ov] (getMethod ov m pl)
      callWith pos f first (backTo pos (starEach (e0 :: es) X.env)) (backToKw pos (keywordEach [] X.env)))) :
    PE X (.Call (.Attribute o m apos) (e0 :: es) [] pos) (lowE Θ X.K W (dMeth Γ m to t)) := by
  refine ⟨fun pins s σ H R I h => ?_⟩
  obtain ⟨ρ, G, F, Q, DX, e, rr, h, x, kk⟩ := h
  refine PySem.W.methodCall_KW (pl := pl) (thn (runE ho I e rr x h) fun u s1 ⟨v, H1, I1, rv, d, G1, e1, i1, r1, q1⟩ => ?_) ht
  cases d with
  | ref a =>
    obtain ⟨C, fs, f, ps, sp, kws, h1, h2, h3, q2⟩ := q1
    obtain rfl : v = V.ref a := i1
    obtain rfl : u = Value.ref a := rv
    obtain ⟨dx, ws, w1, w2⟩ := r1.ins h1
    have hm := ok.m C m
    rw [h3] at hm
    obtain ⟨c, hM, hF⟩ := hm
    have hl : ws.lookup m = none := by
      rcases w2.look m with ⟨_, z⟩ | ⟨d', v', z1, _⟩
      · exact z
      · rw [h2] at z1; cases z1
    refine getmeth_ok I1 w1 c hM hl ?_
    rw [List.all_cons, Bool.and_eq_true] at hs
    refine PySem.W.callWith_K (first := [.ref a]) (h₀ := X.base) I.ok.mod.kin hM.kp (thn (runA ha I1 (e.ext e1) r1 (x.ext e1) q2) fun us s2 ⟨vs, H2, I2, r, ds, G2, e2, i2, r2, q3⟩ => ⟨I2.kIn, ?_⟩) (star_cons hs.1) (star_plain hs.2)
    exact cal_fn hF hr tk pins s2 σ H2 (.ref a :: vs) (.ref a :: us) R ρ G2 F (.ref a :: ds) Q DX I2 (.cons (show RelV (V.ref a) (Value.ref a) from rfl) r) (e.ext (e1.trans e2)) r2 (.cons .ref i2) (x.ext (e1.trans e2)) q3 fun v H' d G' e3 => kk v H' d G' (e1.trans (e2.trans e3))
  | _ => exact q1.elim
theorem de_meth0 {Γ : GEnv} {o : Expr} {m : Str} {apos pos : Pos} {pl : Sem Bool} (ok : GOk Θ X k Γ) (hr : Room k X.A) (tk : Takes X W) (ho : PE X o (lowE Θ X.K W to))
    (ht : eval (.Call (.Attribute o m apos) [] [] pos) X.env = (do
      let ov ← eval o X.env
      standAt apos.atName
      let (f, first) ← holding [ov] (getMethod ov m pl)
      callWith pos f first (backTo pos (starEach [] X.env)) (backToKw pos (keywordEach [] X.env)))) :
    PE X (.Call (.Attribute o m apos) [] [] pos) (lowE Θ X.K W (dMeth Γ m to dNil)) := by
  refine ⟨fun pins s σ H R I h => ?_⟩
  obtain ⟨ρ, G, F, Q, DX, e, rr, h, x, kk⟩ := h
  refine PySem.W.methodCall_KW (pl := pl) (thn (runE ho I e rr x h) fun u s1 ⟨v, H1, I1, rv, d, G1, e1, i1, r1, q1⟩ => ?_) ht
  cases d with
  | ref a =>
    obtain ⟨C, fs, f, ps, sp, kws, h1, h2, h3, q2⟩ := q1
    obtain rfl : v = V.ref a := i1
    obtain rfl : u = Value.ref a := rv
    obtain ⟨dx, ws, w1, w2⟩ := r1.ins h1
    have hm := ok.m C m
    rw [h3] at hm
    obtain ⟨c, hM, hF⟩ := hm
    have hl : ws.lookup m = none := by
      rcases w2.look m with ⟨_, z⟩ | ⟨d', v', z1, _⟩
      · exact z
      · rw [h2] at z1; cases z1
    refine getmeth_ok I1 w1 c hM hl ?_
    refine PySem.W.callWith_K0 I1.kIn hM.kp ?_
    exact cal_fn hF hr tk pins s1 σ H1 [.ref a] [.ref a] R ρ G1 F [.ref a] Q DX I1 (.cons (show RelV (V.ref a) (Value.ref a) from rfl) .nil) (e.ext e1) r1 (.cons .ref .nil) (x.ext e1) q2 fun v H' d G' e3 => kk v H' d G' (e1.trans e3)
  | _ => exact q1.elim
theorem de_methK {Γ : GEnv} {o e0 : Expr} {es : List Expr} {kws0 : List Keyword} {ks : List Str} {m : Str} {apos pos : Pos} {t u : TAD} {pl : Sem Bool} (ok : GOk Θ X k Γ) (hr : Room k X.A) (tk : Takes X W) (ho : PE X o (lowE Θ X.K W to)) (hs : (e0 :: es).all plS = true) (hks : kws0.map (·.arg) = ks.map some)
    (ha : PA X (e0 :: es) (lowA Θ X.K W t)) (hkw : PK X kws0 (lowA Θ X.K W u))
    (ht : eval (.Call (.Attribute o m apos) (e0 :: es) kws0 pos) X.env = (do
      let ov ← eval o X.env
      standAt apos.atName
      let (f, first) ← holding [ov] (getMethod ov m pl)
      callWith pos f first (backTo pos (starEach (e0 :: es) X.env)) (backToKw pos (keywordEach kws0 X.env)))) :
    PE X (.Call (.Attribute o m apos) (e0 :: es) kws0 pos) (lowE Θ X.K W (dMethK Γ m (e0 :: es).length ks to t u)) := by
  refine ⟨fun pins s σ H R I h => ?_⟩
  obtain ⟨ρ, G, F, Q, DX, e, rr, h, x, kk⟩ := h
  refine PySem.W.methodCall_KW (pl := pl) (thn (runE ho I e rr x h) fun u0 s1 ⟨v, H1, I1, rv, d, G1, e1, i1, r1, q1⟩ => ?_) ht
  cases d with
  | ref a =>
    obtain ⟨C, fs, f, ps, sp, kws, h1, h2, h3, h4, q2⟩ := q1
    obtain rfl : v = V.ref a := i1
    obtain rfl : u0 = Value.ref a := rv
    obtain ⟨dx, ws0, w1, w2⟩ := r1.ins h1
    have hm := ok.m C m
    rw [h3] at hm
    obtain ⟨c, hM, hF⟩ := hm
    have hl : ws0.lookup m = none := by
      rcases w2.look m with ⟨_, z⟩ | ⟨d', v', z1, _⟩
      · exact z
      · rw [h2] at z1; cases z1
    refine getmeth_ok I1 w1 c hM hl ?_
    obtain ⟨n1, n2, n3⟩ := kw_names (env := X.env) (pos := pos) hks
    have hs' := hs
    rw [List.all_cons, Bool.and_eq_true] at hs
    refine PySem.W.callWith_KW (first := [.ref a]) (h₀ := X.base) I.ok.mod.kin hM.kp n1 (thn (runA ha I1 (e.ext e1) r1 (x.ext e1) q2) fun us s2 ⟨vs, H2, I2, r, ds, G2, e2, i2, r2, q3⟩ => ?_) (by rw [star_plain hs', n3]; rfl) (star_cons hs.1)
    have e12 := e1.trans e2
    refine thn (hkw.run pos pins s2 σ H2 (fun zs H3 => ∃ es G3, Ext X.K H2 H3 ∧ IsL X.K H3 es zs ∧ Rep Θ X.K H3 G3 F ∧ _) I2 (lowA_mk (e.ext e12) r2 (x.ext e12) q3 fun zs H3 es G3 e3 i3 r3 q4 => ⟨es, G3, e3, i3, r3, q4⟩)) fun ws s3 ⟨zs, H3, I3, rz, es, G3, e3, i3, r3, q4⟩ => ⟨I3.kIn, ?_⟩
    rw [n2]
    obtain ⟨fd, F1, hb, hk⟩ := hF.ex
    have e13 := e12.trans e3
    exact run_fnKD F1 (hk _ h4) hr tk (ds := .ref a :: ds) (vs := .ref a :: vs) (us := .ref a :: us) I3 (.cons (show RelV (V.ref a) (Value.ref a) from rfl) r) rz (e.ext e13) r3 (.cons .ref (IsL.ext e3 _ i2)) i3 (x.ext e13) (by rw [List.length_cons, q4.1]) q4.2.1 q4.2.2 fun v H' d G' e4 => kk v H' d G' (e13.trans e4)
  | _ => exact q1.elim
theorem de_methK0 {Γ : GEnv} {o : Expr} {kws0 : List Keyword} {ks : List Str} {m : Str} {apos pos : Pos} {u : TAD} {pl : Sem Bool} (ok : GOk Θ X k Γ) (hr : Room k X.A) (tk : Takes X W) (ho : PE X o (lowE Θ X.K W to)) (hks : kws0.map (·.arg) = ks.map some)
    (hkw : PK X kws0 (lowA Θ X.K W u))
    (ht : eval (.Call (.Attribute o m apos) [] kws0 pos) X.env = (do
      let ov ← eval o X.env
      standAt apos.atName
      let (f, first) ← holding [ov] (getMethod ov m pl)
      callWith pos f first (backTo pos (starEach [] X.env)) (backToKw pos (keywordEach kws0 X.env)))) :
    PE X (.Call (.Attribute o m apos) [] kws0 pos) (lowE Θ X.K W (dMethK Γ m 0 ks to dNil u)) := by
  refine ⟨fun pins s σ H R I h => ?_⟩
  obtain ⟨ρ, G, F, Q, DX, e, rr, h, x, kk⟩ := h
  refine PySem.W.methodCall_KW (pl := pl) (thn (runE ho I e rr x h) fun u0 s1 ⟨v, H1, I1, rv, d, G1, e1, i1, r1, q1⟩ => ?_) ht
  cases d with
  | ref a =>
    obtain ⟨C, fs, f, ps, sp, kws, h1, h2, h3, h4, q2⟩ := q1
    obtain rfl : v = V.ref a := i1
    obtain rfl : u0 = Value.ref a := rv
    obtain ⟨dx, ws0, w1, w2⟩ := r1.ins h1
    have hm := ok.m C m
    rw [h3] at hm
    obtain ⟨c, hM, hF⟩ := hm
    have hl : ws0.lookup m = none := by
      rcases w2.look m with ⟨_, z⟩ | ⟨d', v', z1, _⟩
      · exact z
      · rw [h2] at z1; cases z1
    refine getmeth_ok I1 w1 c hM hl ?_
    obtain ⟨n1, n2, n3⟩ := kw_names (env := X.env) (pos := pos) hks
    refine PySem.W.callWith_KW0 (first := [.ref a]) (h₀ := X.base) I.ok.mod.kin hM.kp n1 ?_ (by rw [n3]; rfl)
    refine thn (hkw.run pos pins s1 σ H1 (fun zs H3 => ∃ es G3, Ext X.K H1 H3 ∧ IsL X.K H3 es zs ∧ Rep Θ X.K H3 G3 F ∧ _) I1 (lowA_mk (e.ext e1) r1 (x.ext e1) q2 fun zs H3 es G3 e3 i3 r3 q4 => ⟨es, G3, e3, i3, r3, q4⟩)) fun ws s3 ⟨zs, H3, I3, rz, es, G3, e3, i3, r3, q4⟩ => ⟨I3.kIn, ?_⟩
    rw [n2]
    obtain ⟨fd, F1, hb, hk⟩ := hF.ex
    have e13 := e1.trans e3
    exact run_fnKD F1 (hk _ h4) hr tk (ds := [.ref a]) (vs := [.ref a]) (us := [.ref a]) I3 (.cons (show RelV (V.ref a) (Value.ref a) from rfl) .nil) rz (e.ext e13) r3 (.cons .ref .nil) i3 (x.ext e13) rfl q4.2.1 q4.2.2 fun v H' d G' e4 => kk v H' d G' (e13.trans e4)
  | _ => exact q1.elim
end
end Dl

namespace Dl
open PySem PySem.Spec PyProof.Rows L2

/-! ### comparisons -/
def rLt : R2D
  | .int i, .int j, G, Q => Q (.bl (decide (i < j))) G
  | _, _, _, _ => False
def rLe : R2D
  | .int i, .int j, G, Q => Q (.bl (decide (i ≤ j))) G
  | _, _, _, _ => False
def rGt : R2D
  | .int i, .int j, G, Q => Q (.bl (decide (j < i))) G
  | _, _, _, _ => False
def rGe : R2D
  | .int i, .int j, G, Q => Q (.bl (decide (j ≤ i))) G
  | _, _, _, _ => False
/-- data at any depth, with its lists -/
def toP (G : GH) : Nat → D → Option PyData
  | 0, _ => none
  | n + 1, d => match d with
    | .non => some .none
    | .bl b => some (.bool b)
    | .int i => some (.int i)
    | .str x => some (.str x)
    | .tup ds => (ds.mapM (toP G n)).map .tuple
    | .ref a => match lstOf G (.ref a) with
      | some ds => (ds.mapM (toP G n)).map .list
      | none => none
    | .ty _ => none
/-- what kind of thing -/
def kdOf (G : GH) : D → Option Kd
  | .non => some .non
  | .bl _ => some .num
  | .int _ => some .num
  | .str _ => some .str
  | .tup _ => some .tup
  | .ref a => match G a with
    | some (.lst _) => some .lst
    | some (.fro _) => some .lst
    | some (.dct _) => some .dct
    | _ => none
  | .ty _ => none
/-- equal: told deep, or of unlike kinds -/
def gEq (G : GH) (x y : D) (Q : Bool → Prop) : Prop := (∃ p q, toP G 60 x = some p ∧ toP G 60 y = some q ∧ SeqAt.shaped p = true ∧ SeqAt.shaped q = true ∧ Q (PyData.eqv p q)) ∨ (∃ k l, kdOf G x = some k ∧ kdOf G y = some l ∧ k ≠ l ∧ Q false) ∨ ∃ ds, x = .tup ds ∧ y = .tup [] ∧ Q ds.isEmpty
def rEq : R2D
  | .int i, .int j, G, Q => Q (.bl (decide (i = j))) G
  | .str i, .str j, G, Q => Q (.bl (decide (i = j))) G
  | .bl i, .bl j, G, Q => Q (.bl (decide (i = j))) G
  | x, y, G, Q => gEq G x y fun b => Q (.bl b) G
def rNe : R2D
  | .int i, .int j, G, Q => Q (.bl (!decide (i = j))) G
  | .str i, .str j, G, Q => Q (.bl (!decide (i = j))) G
  | .bl i, .bl j, G, Q => Q (.bl (!decide (i = j))) G
  | x, y, G, Q => gEq G x y fun b => Q (.bl (!b)) G
/-- x is None, x is True -/
def isNone : D → Bool
  | .non => true
  | _ => false
def rIs (neg : Bool) : R2D
  | x, .non, G, Q => Q (.bl (if neg then !isNone x else isNone x)) G
  | .bl a, .bl b, G, Q => Q (.bl (if neg then !decide (a = b) else decide (a = b))) G
  | _, _, _, _ => False
/-- flat things -/
def flatD : D → Bool
  | .non => true
  | .bl _ => true
  | .int _ => true
  | .str _ => true
  | _ => false
def eqD : D → D → Bool
  | .non, .non => true
  | .bl a, .bl b => a == b
  | .bl a, .int b => (if a then 1 else 0) == b
  | .int a, .bl b => a == (if b then 1 else 0)
  | .int a, .int b => a == b
  | .str a, .str b => a == b
  | _, _ => false
def inD (x : D) (ds : List D) : Bool := ds.any fun y => eqD y x
/-- x in a list or a tuple of flat things -/
def rIn (neg : Bool) (x y : D) (G : GH) (Q : DK) : Prop := match seqOf G y with
  | some ds => (flatD x = true ∧ ds.all flatD = true ∧ Q (.bl (if neg then !inD x ds else inD x ds)) G) ∨
      (flatD x = false ∧ ∃ p qs, toP G 60 x = some p ∧ toP G 60 y = some (.list qs) ∧ SeqAt.shaped p = true ∧ SeqAt.shaped (.list qs) = true ∧ Q (.bl (if neg then !(qs.any fun z => PyData.eqv z p) else qs.any fun z => PyData.eqv z p)) G)
  | none => False

section
variable {Θ : AbsI} {K : PySem.W.Frag} {H : Hp} {G : GH} {F : Hp}
theorem toP_ok (r : Rep Θ K H G F) : ∀ (n : Nat) (d : D) (v : V) (p : PyData), toP G n d = some p → Is K H d v → Dp K H v p := by
  intro n
  induction n with
  | zero => intro d v p h; cases h
  | succ n ih =>
    have all : ∀ (ds : List D) (vs : List V) (ps : List PyData), ds.mapM (toP G n) = some ps → IsL K H ds vs → DpAll K H vs ps := by
      intro ds
      induction ds with
      | nil =>
        intro vs ps h i
        rw [show vs = [] from i]
        simp at h
        subst h
        exact .nil
      | cons d ds ihd =>
        intro vs ps h i
        obtain ⟨x, q, rfl, i1, i2⟩ := i
        rw [List.mapM_cons] at h
        cases e : toP G n d with
        | none => rw [e] at h; cases h
        | some p0 =>
          rw [e] at h
          cases e2 : ds.mapM (toP G n) with
          | none => rw [e2] at h; cases h
          | some ps0 =>
            rw [e2] at h
            cases h
            exact .cons (ih d x p0 e i1) (ihd q ps0 e2 i2)
    intro d v p h i
    cases d with
    | non => cases h; cases i; exact .non
    | bl b => cases h; cases i; exact .bl b
    | int b => cases h; cases i; exact .int b
    | str b => cases h; cases i; exact .str b
    | ty n => cases h
    | tup ds =>
      obtain ⟨a, xs, rfl, t, l⟩ := i
      simp only [toP] at h
      cases e : ds.mapM (toP G n) with
      | none => rw [e] at h; cases h
      | some ps =>
        rw [e] at h
        cases h
        exact .tup t (all ds xs ps e l)
    | ref a =>
      simp only [toP] at h
      cases c : lstOf G (.ref a) with
      | none => rw [c] at h; cases h
      | some ds =>
        rw [c] at h
        obtain ⟨a', xs, rfl, e2, hs, l⟩ := r.lstOf c i
        cases e2
        dsimp only at h
        cases e : ds.mapM (toP G n) with
        | none => rw [e] at h; cases h
        | some ps =>
          rw [e] at h
          cases h
          exact .lst hs (all ds xs ps e l)
end
section
variable {X : Cx} {Θ : AbsI}
theorem od_lt : OpR X (compareOp .Lt) (lowR2 Θ X.K rLt) := by
  intro pins s σ H x y v u R I rx ry ⟨G, F, d, e, Q, rep, hd, he, h, k⟩
  cases d <;> cases e <;> first
    | exact h.elim
    | exact op_lt pins s σ H x y v u R I rx ry ⟨_, _, hd, he, k _ _ _ _ Ext.refl .bl rep h⟩
theorem od_le : OpR X (compareOp .LtE) (lowR2 Θ X.K rLe) := by
  intro pins s σ H x y v u R I rx ry ⟨G, F, d, e, Q, rep, hd, he, h, k⟩
  cases d <;> cases e <;> first
    | exact h.elim
    | exact op_le pins s σ H x y v u R I rx ry ⟨_, _, hd, he, k _ _ _ _ Ext.refl .bl rep h⟩
theorem od_gt : OpR X (compareOp .Gt) (lowR2 Θ X.K rGt) := by
  intro pins s σ H x y v u R I rx ry ⟨G, F, d, e, Q, rep, hd, he, h, k⟩
  cases d <;> cases e <;> first
    | exact h.elim
    | exact op_gt pins s σ H x y v u R I rx ry ⟨_, _, hd, he, k _ _ _ _ Ext.refl .bl rep h⟩
theorem od_ge : OpR X (compareOp .GtE) (lowR2 Θ X.K rGe) := by
  intro pins s σ H x y v u R I rx ry ⟨G, F, d, e, Q, rep, hd, he, h, k⟩
  cases d <;> cases e <;> first
    | exact h.elim
    | exact op_ge pins s σ H x y v u R I rx ry ⟨_, _, hd, he, k _ _ _ _ Ext.refl .bl rep h⟩
theorem kd_at {pins : List (Addr × Obj)} {σ : L2.St} {H : Hp} {s : Shared} {G : GH} {F : Hp} {d : D} {v : V} {u : Value} {k : Kd} (I : Inv X pins σ H s) (rep : Rep Θ X.K H G F) (hd : Is X.K H d v) (rx : RelV v u) (e : kdOf G d = some k) : KdAt s.heap u k := by
  cases d with
  | non => cases hd; cases e; exact rx
  | bl b => cases hd; cases e; exact .inl ⟨b, rx⟩
  | int i => cases hd; cases e; obtain ⟨t, rfl⟩ := rx; exact .inr ⟨i, t, rfl⟩
  | str x => cases hd; cases e; obtain ⟨t, rfl⟩ := rx; exact ⟨x, t, rfl⟩
  | ty n => cases e
  | tup ds =>
    cases e
    obtain ⟨a, xs, rfl, t, l⟩ := hd
    obtain ⟨its, r, p, _⟩ := I.tuple t
    exact ⟨a, _, rx, p⟩
  | ref a =>
    cases hd
    have lst : ∀ xs : List V, SqL X.K H a xs → KdAt s.heap u .lst := fun xs hs => by
      obtain ⟨its, rv, ⟨o, n, ho, hc, _, hdt⟩, _⟩ := I.list hs
      exact ⟨a, _, rx, o, ho, hc, n, hdt⟩
    simp only [kdOf] at e
    cases q : G a with
    | none => rw [q] at e; cases e
    | some mo =>
      rw [q] at e
      cases mo with
      | lst ds => cases e; obtain ⟨xs, h1, _⟩ := rep.lst q; exact lst xs (SqL.of h1)
      | fro ds => cases e; obtain ⟨o, xs, h1, _⟩ := rep.fro q; exact lst xs (.inl (.inr ⟨o, h1⟩))
      | dct kvs =>
        cases e
        obtain ⟨ws, h1, _⟩ := rep.dct q
        obtain ⟨_, _, vs, _, ⟨od, es, ep, ho, ⟨c1, c2, c3⟩, hdt, _⟩⟩ := I.hok a _ h1
        obtain ⟨oc, dd, dt, sl⟩ := od
        simp only at c1 hdt
        subst c1 hdt
        exact ⟨a, rx, dd, es, ep, sl, ho⟩
      | _ => cases e
theorem tup_nil {pins : List (Addr × Obj)} {σ : L2.St} {H : Hp} {s : Shared} {ds : List D} {v w : V} {u z : Value} (I : Inv X pins σ H s) (hd : Is X.K H (.tup ds) v) (he : Is X.K H (.tup []) w) (rx : RelV v u) (ry : RelV w z) (hu : X.A.units < cLine) :
    SeqAt.RcAt X.A s u z ds.isEmpty ∧ SeqAt.RcNeAt X.A s u z (!ds.isEmpty) := by
  obtain ⟨a, xs, rfl, t, l⟩ := hd
  obtain ⟨b, ys, rfl, t2, l2⟩ := he
  cases rx
  cases ry
  obtain ⟨its, r, p, _⟩ := I.tuple t
  obtain ⟨its2, r2, p2, _⟩ := I.tuple t2
  have e2 : its2 = [] := by
    have := r2.length
    rw [l2.len] at this
    exact List.length_eq_zero_iff.mp this.symm
  subst e2
  have e1 : ((List.range (min its.toArray.size (#[] : Array Value).size)).all (fun _ => true) && its.toArray.size == (#[] : Array Value).size) = ds.isEmpty := by
    have := r.length
    rw [l.len] at this
    cases ds with
    | nil => rw [List.length_eq_zero_iff.mp this.symm]; rfl
    | cons d ds => cases its with
      | nil => simp at this
      | cons u us => simp
  rw [← e1]
  exact ⟨SeqAt.RcAt.tuples p p2 hu fun j h1 h2 => absurd h2 (by simp), SeqAt.RcNeAt.tuples p p2 hu fun j h1 h2 => absurd h2 (by simp)⟩
theorem od_eq (hu : X.A.units + 64 < cLine) : OpR X (compareOp .Eq) (lowR2 Θ X.K rEq) := by
  intro pins s σ H x y v u R I rx ry ⟨G, F, d, e, Q, rep, hd, he, h, k⟩
  have gen : (gEq G d e fun b => Q (.bl (b)) G) → wpAny (model X.prog X.w) X.A (compareOp .Eq v u) (EP X pins σ R) X.xe s := by
    rintro (⟨p, q, e1, e2, s1, s2, h⟩ | ⟨k1, k2, e1, e2, hn, h⟩ | ⟨ds, rfl, rfl, hq⟩)
    rotate_left
    rotate_left
    · exact (tup_nil I hd he rx ry (by omega)).1 _ _ _ _ ⟨.bl _, H, I, rfl, k _ _ _ _ Ext.refl .bl rep hq⟩
    rotate_left
    · exact (rcb_of (kd_at I rep hd rx e1) (kd_at I rep he ry e2) hn (by omega)).1 _ _ _ _ ⟨.bl false, H, I, rfl, k _ _ _ _ Ext.refl .bl rep h⟩
    exact op_eqD hu pins s σ H x y v u R I rx ry ⟨p, q, toP_ok rep _ _ _ _ e1 hd, toP_ok rep _ _ _ _ e2 he, s1, s2, k _ _ _ _ Ext.refl .bl rep h⟩
  cases d <;> cases e <;> first
    | exact gen h
    | (cases hd; cases he
       refine op_eq pins s σ H _ _ v u R I rx ry ⟨rfl, ?_⟩
       refine k _ _ _ _ Ext.refl ?_ rep h
       show V.bl _ = V.bl _
       congr 1
       simp)
theorem od_ne (hu : X.A.units + 64 < cLine) : OpR X (compareOp .NotEq) (lowR2 Θ X.K rNe) := by
  intro pins s σ H x y v u R I rx ry ⟨G, F, d, e, Q, rep, hd, he, h, k⟩
  have gen : (gEq G d e fun b => Q (.bl (!b)) G) → wpAny (model X.prog X.w) X.A (compareOp .NotEq v u) (EP X pins σ R) X.xe s := by
    rintro (⟨p, q, e1, e2, s1, s2, h⟩ | ⟨k1, k2, e1, e2, hn, h⟩ | ⟨ds, rfl, rfl, hq⟩)
    rotate_left
    rotate_left
    · exact (tup_nil I hd he rx ry (by omega)).2 _ _ _ _ ⟨.bl _, H, I, rfl, k _ _ _ _ Ext.refl .bl rep hq⟩
    rotate_left
    · exact (rcb_of (kd_at I rep hd rx e1) (kd_at I rep he ry e2) hn (by omega)).2 _ _ _ _ ⟨.bl true, H, I, rfl, k _ _ _ _ Ext.refl .bl rep h⟩
    exact op_neD hu pins s σ H x y v u R I rx ry ⟨p, q, toP_ok rep _ _ _ _ e1 hd, toP_ok rep _ _ _ _ e2 he, s1, s2, k _ _ _ _ Ext.refl .bl rep h⟩
  cases d <;> cases e <;> first
    | exact gen h
    | (cases hd; cases he
       refine op_ne pins s σ H _ _ v u R I rx ry ⟨rfl, ?_⟩
       refine k _ _ _ _ Ext.refl ?_ rep h
       show V.bl _ = V.bl _
       congr 2
       simp)
theorem is_non {K : PySem.W.Frag} {H : Hp} {d : D} {v : V} (h : Is K H d v) : decide (v = .non) = isNone d := by
  cases d <;> first
    | (cases h; rfl)
    | (obtain ⟨a, xs, rfl, _⟩ := h; rfl)
theorem od_is : OpR X (compareOp .Is) (lowR2 Θ X.K (rIs false)) := by
  intro pins s σ H x y v u R I rx ry ⟨G, F, d, e, Q, rep, hd, he, h, k⟩
  cases e with
  | non =>
    have h : Q (.bl (isNone d)) G := by cases d <;> exact h
    exact op_isN pins s σ H x y v u R I rx ry ⟨he, k _ _ (.bl (isNone d)) _ Ext.refl (by rw [is_non hd]; exact .bl) rep h⟩
  | bl b =>
    cases d with
    | bl a => exact op_isBl pins s σ H x y v u R I rx ry ⟨a, b, hd, he, k _ _ _ _ Ext.refl .bl rep h⟩
    | _ => exact h.elim
  | _ => cases d <;> exact h.elim
theorem od_isnot : OpR X (compareOp .IsNot) (lowR2 Θ X.K (rIs true)) := by
  intro pins s σ H x y v u R I rx ry ⟨G, F, d, e, Q, rep, hd, he, h, k⟩
  cases e with
  | non =>
    have h : Q (.bl (!isNone d)) G := by cases d <;> exact h
    exact op_notN pins s σ H x y v u R I rx ry ⟨he, k _ _ (.bl (!isNone d)) _ Ext.refl (by rw [is_non hd]; exact .bl) rep h⟩
  | bl b =>
    cases d with
    | bl a => exact op_notBl pins s σ H x y v u R I rx ry ⟨a, b, hd, he, k _ _ _ _ Ext.refl .bl rep h⟩
    | _ => exact h.elim
  | _ => cases d <;> exact h.elim
theorem flat_of {K : PySem.W.Frag} {H : Hp} {d : D} {v : V} (h : Is K H d v) (f : flatD d = true) : flatV v = true := by
  cases d <;> first
    | (cases h; rfl)
    | exact absurd f Bool.false_ne_true
theorem eqV_of {K : PySem.W.Frag} {H : Hp} {d e : D} {v w : V} (h : Is K H d v) (h' : Is K H e w) (f : flatD d = true) (f' : flatD e = true) : eqV v w = eqD d e := by
  cases d <;> cases e <;> first
    | (cases h; cases h'; rfl)
    | exact absurd f Bool.false_ne_true
    | exact absurd f' Bool.false_ne_true
theorem inV_of {K : PySem.W.Frag} {H : Hp} {d : D} {v : V} (h : Is K H d v) (f : flatD d = true) : ∀ {ds : List D} {vs : List V}, IsL K H ds vs → ds.all flatD = true → vs.all flatV = true ∧ inV v vs = inD d ds
  | [], _, i, _ => by rw [show _ = [] from i]; exact ⟨rfl, rfl⟩
  | e :: ds, _, i, g => by
    obtain ⟨w, r, rfl, i1, i2⟩ := i
    rw [List.all_cons, Bool.and_eq_true] at g
    obtain ⟨a, b⟩ := inV_of h f i2 g.2
    refine ⟨by rw [List.all_cons, flat_of i1 g.1, a]; rfl, ?_⟩
    show (eqV w v || inV v r) = (eqD e d || inD d ds)
    rw [eqV_of i1 h g.1 f, b]
theorem od_in (hu : X.A.units + 65 < cLine) : OpR X (compareOp .In) (lowR2 Θ X.K (rIn false)) := by
  intro pins s σ H x y v u R I rx ry ⟨G, F, d, e, Q, rep, hd, he, h, k⟩
  unfold rIn at h
  cases c : seqOf G e with
  | none => rw [c] at h; exact h.elim
  | some ds =>
    rw [c] at h
    rcases h with ⟨h1, h2, h3⟩ | ⟨_, p, qs, e1, e2, s1, s2, h3⟩
    rotate_left
    · exact op_inD hu pins s σ H x _ v u R I rx ry ⟨p, qs, toP_ok rep _ _ _ _ e1 hd, toP_ok rep _ _ _ _ e2 he, s1, s2, k _ _ _ _ Ext.refl .bl rep h3⟩
    obtain ⟨a, xs, rfl, hs, l⟩ := rep.seqOf c he
    obtain ⟨f1, f2⟩ := inV_of hd h1 l h2
    exact op_in_seq pins s σ H x _ v u R I rx ry ⟨a, xs, rfl, hs, flat_of hd h1, f1, k _ _ (.bl (inD d ds)) _ Ext.refl (by rw [← f2]; exact .bl) rep h3⟩
theorem od_notin (hu : X.A.units + 65 < cLine) : OpR X (compareOp .NotIn) (lowR2 Θ X.K (rIn true)) := by
  intro pins s σ H x y v u R I rx ry ⟨G, F, d, e, Q, rep, hd, he, h, k⟩
  unfold rIn at h
  cases c : seqOf G e with
  | none => rw [c] at h; exact h.elim
  | some ds =>
    rw [c] at h
    rcases h with ⟨h1, h2, h3⟩ | ⟨_, p, qs, e1, e2, s1, s2, h3⟩
    rotate_left
    · exact op_notInD hu pins s σ H x _ v u R I rx ry ⟨p, qs, toP_ok rep _ _ _ _ e1 hd, toP_ok rep _ _ _ _ e2 he, s1, s2, k _ _ _ _ Ext.refl .bl rep h3⟩
    obtain ⟨a, xs, rfl, hs, l⟩ := rep.seqOf c he
    obtain ⟨f1, f2⟩ := inV_of hd h1 l h2
    exact op_notIn_seq pins s σ H x _ v u R I rx ry ⟨a, xs, rfl, hs, flat_of hd h1, f1, k _ _ (.bl (!inD d ds)) _ Ext.refl (by rw [← f2]; exact .bl) rep h3⟩
end
end Dl

namespace Dl
open PySem PySem.Spec PyProof.Rows L2

/-! ### built-ins -/
def rLen (xs : List D) (G : GH) (Q : DK) : Prop := arg1 xs fun x => match x with
  | .str z => z.length ≤ sizeLine ∧ Q (.int z.length) G
  | .tup ds => Q (.int ds.length) G
  | .ref a => match G a with
    | some (.lst ds) => Q (.int ds.length) G
    | some (.fro ds) => Q (.int ds.length) G
    | some (.dct kvs) => Q (.int kvs.length) G
    | _ => False
  | _ => False
def boolsOf : List D → Option (List Bool)
  | [] => some []
  | .bl b :: r => (boolsOf r).map (b :: ·)
  | _ :: _ => none
def intsOf : List D → Option (List Int)
  | [] => some []
  | .int b :: r => (intsOf r).map (b :: ·)
  | _ :: _ => none
def rAll (xs : List D) (G : GH) (Q : DK) : Prop := arg1 xs fun x => ∃ ds bs, lstOf G x = some ds ∧ boolsOf ds = some bs ∧ Q (.bl (bs.all id)) G
def rAny (xs : List D) (G : GH) (Q : DK) : Prop := arg1 xs fun x => ∃ ds bs, lstOf G x = some ds ∧ boolsOf ds = some bs ∧ Q (.bl (bs.any id)) G
def rSum (xs : List D) (G : GH) (Q : DK) : Prop := arg1 xs fun x => ∃ ds bs, lstOf G x = some ds ∧ intsOf ds = some bs ∧ Q (.int bs.sum) G
def rMax1 (x : D) (G : GH) (Q : DK) : Prop := ∃ ds ns, lstOf G x = some ds ∧ intsOf ds = some ns ∧ 0 < ns.length ∧ ∀ m, m ∈ ns → (∀ y, y ∈ ns → y ≤ m) → Q (.int m) G
def rMin1 (x : D) (G : GH) (Q : DK) : Prop := ∃ ds ns, lstOf G x = some ds ∧ intsOf ds = some ns ∧ 0 < ns.length ∧ ∀ m, m ∈ ns → (∀ y, y ∈ ns → m ≤ y) → Q (.int m) G
def rMax2 (x y : D) (G : GH) (Q : DK) : Prop := match x, y with
  | .int i, .int j => Q (.int (if j > i then j else i)) G
  | _, _ => False
def rMin2 (x y : D) (G : GH) (Q : DK) : Prop := match x, y with
  | .int i, .int j => Q (.int (if j < i then j else i)) G
  | _, _ => False
def rMax (xs : List D) (G : GH) (Q : DK) : Prop := match xs with
  | [] => False
  | x :: r => match r with
    | [] => rMax1 x G Q
    | y :: r2 => arg0 r2 (rMax2 x y G Q)
def rMin (xs : List D) (G : GH) (Q : DK) : Prop := match xs with
  | [] => False
  | x :: r => match r with
    | [] => rMin1 x G Q
    | y :: r2 => arg0 r2 (rMin2 x y G Q)
def rAbs (xs : List D) (G : GH) (Q : DK) : Prop := arg1 xs fun x => match x with
  | .int i => Q (.int (if i < 0 then -i else i)) G
  | _ => False
def rInt (xs : List D) (G : GH) (Q : DK) : Prop := arg1 xs fun x => match x with
  | .int i => Q (.int i) G
  | .bl k => Q (.int (if k then 1 else 0)) G
  | _ => False
def rList (xs : List D) (G : GH) (Q : DK) : Prop := arg1 xs fun x => ∃ ds, seqOf G x = some ds ∧ ∀ p, G p = none → Q (.ref p) (gup G p (.lst ds))
def rTuple (xs : List D) (G : GH) (Q : DK) : Prop := arg1 xs fun x => ∃ ds, seqOf G x = some ds ∧ Q (.tup ds) G
theorem boolsOf_map : ∀ {ds : List D} {bs : List Bool}, boolsOf ds = some bs → ds = bs.map D.bl
  | [], _, h => by cases h; rfl
  | d :: r, bs, h => by
    cases d <;> simp only [boolsOf] at h <;> first
      | (cases h; done)
      | skip
    cases e : boolsOf r with
    | none => rw [e] at h; cases h
    | some cs =>
      rw [e] at h
      cases h
      rw [List.map_cons, ← boolsOf_map e]
theorem intsOf_map : ∀ {ds : List D} {bs : List Int}, intsOf ds = some bs → ds = bs.map D.int
  | [], _, h => by cases h; rfl
  | d :: r, bs, h => by
    cases d <;> simp only [intsOf] at h <;> first
      | (cases h; done)
      | skip
    cases e : intsOf r with
    | none => rw [e] at h; cases h
    | some cs =>
      rw [e] at h
      cases h
      rw [List.map_cons, ← intsOf_map e]
theorem boolsOf_bl : ∀ bs : List Bool, boolsOf (bs.map D.bl) = some bs
  | [] => rfl
  | b :: bs => by simp [boolsOf, boolsOf_bl bs]
theorem intsOf_int : ∀ bs : List Int, intsOf (bs.map D.int) = some bs
  | [] => rfl
  | b :: bs => by simp [intsOf, intsOf_int bs]
/-- what isinstance asks of the own classes -/
structure InsC (K : PySem.W.Frag) (C : Addr) : Prop where
  cl : Cls K C
  ha : PySem.W.findIn K (.ref C) "__class__" = some (some (.builtin "object.__class__"))
  hn : PySem.W.specialIn K (.builtin "object.__class__") "__get__" = some (some (.builtin "getset_descriptor.__get__"))
  ht : PySem.W.takesIn K (.builtin "object.__class__") = some true
  hm : PySem.W.mroIn K C (.type "object") = some true
def TyD (K : PySem.W.Frag) (G : GH) (x : D) (t : Value) : Prop := match x with
  | .non => t = .type "NoneType"
  | .bl _ => t = .type "bool"
  | .int _ => t = .type "int"
  | .str _ => t = .type "str"
  | .tup _ => t = .type "tuple"
  | .ref a => match G a with
    | some (.lst _) => t = .type "list"
    | some (.fro _) => t = .type "list"
    | some (.dct _) => t = .type "dict"
    | some (.ins C _) => t = .ref C ∧ InsC K C
    | some (.exc C _) => t = .ref C ∧ ExcC K C
    | _ => False
  | .ty _ => False
def clsV : D → Option Value
  | .ty n => some (.type n)
  | .ref C => some (.ref C)
  | _ => none
def kitD (K : PySem.W.Frag) (t : Value) (c : D) : Option Bool := match c with
  | .ty n => PySem.W.kitOne K t (.type n)
  | .ref C => PySem.W.kitOne K t (.ref C)
  | .tup cs => match cs.mapM clsV with
    | some us => PySem.W.kitAny K t us
    | none => none
  | _ => none
def rIsi (K : PySem.W.Frag) (xs : List D) (G : GH) (Q : DK) : Prop := arg2 xs fun x c => ∃ t b, TyD K G x t ∧ kitD K t c = some b ∧ Q (.bl b) G
section
variable {X : Cx} {Θ : AbsI}
theorem cd_len : CallR X (.builtin "len") (lowRL Θ X.K rLen) := by
  intro pins s σ H xs us R I rv ⟨G, F, ds, Q, rep, il, h, k⟩
  obtain ⟨d, rfl, h2⟩ := arg1_of h
  obtain ⟨v, rfl, i1⟩ := il.one
  cases d with
  | str z =>
    cases i1
    exact call_len_str pins s σ H _ us R I rv ⟨z, rfl, h2.1, k _ _ _ _ Ext.refl .int rep h2.2⟩
  | tup ds =>
    obtain ⟨a, xs, rfl, t, l⟩ := i1
    exact call_len_seq pins s σ H _ us R I rv ⟨a, xs, rfl, .inr t, k _ _ (.int ds.length) _ Ext.refl (by rw [← l.len]; exact .int) rep h2⟩
  | ref a =>
    cases i1
    dsimp only at h2
    cases e : G a with
    | none => rw [e] at h2; exact h2.elim
    | some mo =>
      rw [e] at h2
      cases mo with
      | lst ds =>
        obtain ⟨xs, h3, l⟩ := rep.lst e
        exact call_len_seq pins s σ H _ us R I rv ⟨a, xs, rfl, .inl (SqL.of h3), k _ _ (.int ds.length) _ Ext.refl (by rw [← l.len]; exact .int) rep h2⟩
      | fro ds =>
        obtain ⟨o, xs, h3, l⟩ := rep.fro e
        exact call_len_seq pins s σ H _ us R I rv ⟨a, xs, rfl, .inl (.inl (.inr ⟨o, h3⟩)), k _ _ (.int ds.length) _ Ext.refl (by rw [← l.len]; exact .int) rep h2⟩
      | dct kvs =>
        obtain ⟨ws, h3, l⟩ := rep.dct e
        exact call_lenD pins s σ H _ us R I rv ⟨a, ws, rfl, h3, k _ _ (.int kvs.length) _ Ext.refl (by rw [← l.len]; exact .int) rep h2⟩
      | _ => exact h2.elim
  | _ => exact h2.elim
theorem cd_all (hc : X.calm = true) : CallR X (.builtin "all") (lowRL Θ X.K rAll) := by
  intro pins s σ H xs us R I rv ⟨G, F, ds, Q, rep, il, h, k⟩
  obtain ⟨d, rfl, es, bs, h1, h2, h3⟩ := arg1_of h
  obtain ⟨v, rfl, i1⟩ := il.one
  obtain ⟨a, xs, rfl, _, hs, l⟩ := rep.lstOf h1 i1
  rw [boolsOf_map h2] at l
  rw [l.bools] at hs
  exact cr_all hc pins s σ H _ us R I rv ⟨a, bs, rfl, hs, k _ _ _ _ Ext.refl .bl rep h3⟩
theorem cd_any (hc : X.calm = true) : CallR X (.builtin "any") (lowRL Θ X.K rAny) := by
  intro pins s σ H xs us R I rv ⟨G, F, ds, Q, rep, il, h, k⟩
  obtain ⟨d, rfl, es, bs, h1, h2, h3⟩ := arg1_of h
  obtain ⟨v, rfl, i1⟩ := il.one
  obtain ⟨a, xs, rfl, _, hs, l⟩ := rep.lstOf h1 i1
  rw [boolsOf_map h2] at l
  rw [l.bools] at hs
  exact cr_any hc pins s σ H _ us R I rv ⟨a, bs, rfl, hs, k _ _ _ _ Ext.refl .bl rep h3⟩
theorem cd_sum (hc : X.calm = true) : CallR X (.builtin "sum") (lowRL Θ X.K rSum) := by
  intro pins s σ H xs us R I rv ⟨G, F, ds, Q, rep, il, h, k⟩
  obtain ⟨d, rfl, es, bs, h1, h2, h3⟩ := arg1_of h
  obtain ⟨v, rfl, i1⟩ := il.one
  obtain ⟨a, xs, rfl, _, hs, l⟩ := rep.lstOf h1 i1
  rw [intsOf_map h2] at l
  rw [l.ints] at hs
  exact cr_sum hc pins s σ H _ us R I rv ⟨a, bs, rfl, hs, k _ _ _ _ Ext.refl .int rep h3⟩
theorem cd_max (hc : X.calm = true) : CallR X (.builtin "max") (lowRL Θ X.K rMax) := by
  intro pins s σ H xs us R I rv ⟨G, F, ds, Q, rep, il, h, k⟩
  cases ds with
  | nil => exact h.elim
  | cons x r =>
    cases r with
    | nil =>
      obtain ⟨es, bs, h1, h2, h0, h3⟩ := h
      obtain ⟨v, rfl, i1⟩ := il.one
      obtain ⟨a, xs, rfl, _, hs, l⟩ := rep.lstOf h1 i1
      rw [intsOf_map h2] at l
      rw [l.ints] at hs
      exact cr_max hc pins s σ H _ us R I rv ⟨a, bs, rfl, hs, h0, fun m hm hle => k _ _ _ _ Ext.refl .int rep (h3 m hm hle)⟩
    | cons y r =>
      obtain ⟨rfl, h⟩ := arg0_of h
      obtain ⟨v, w, rfl, i1, i2⟩ := il.two
      cases x <;> cases y <;> first
        | exact h.elim
        | (cases i1; cases i2; exact call_max2 hc pins s σ H _ us R I rv ⟨_, _, rfl, k _ _ _ _ Ext.refl .int rep h⟩)
theorem cd_min (hc : X.calm = true) : CallR X (.builtin "min") (lowRL Θ X.K rMin) := by
  intro pins s σ H xs us R I rv ⟨G, F, ds, Q, rep, il, h, k⟩
  cases ds with
  | nil => exact h.elim
  | cons x r =>
    cases r with
    | nil =>
      obtain ⟨es, bs, h1, h2, h0, h3⟩ := h
      obtain ⟨v, rfl, i1⟩ := il.one
      obtain ⟨a, xs, rfl, _, hs, l⟩ := rep.lstOf h1 i1
      rw [intsOf_map h2] at l
      rw [l.ints] at hs
      exact cr_min hc pins s σ H _ us R I rv ⟨a, bs, rfl, hs, h0, fun m hm hle => k _ _ _ _ Ext.refl .int rep (h3 m hm hle)⟩
    | cons y r =>
      obtain ⟨rfl, h⟩ := arg0_of h
      obtain ⟨v, w, rfl, i1, i2⟩ := il.two
      cases x <;> cases y <;> first
        | exact h.elim
        | (cases i1; cases i2; exact call_min2 hc pins s σ H _ us R I rv ⟨_, _, rfl, k _ _ _ _ Ext.refl .int rep h⟩)
theorem cd_abs : CallR X (.builtin "abs") (lowRL Θ X.K rAbs) := by
  intro pins s σ H xs us R I rv ⟨G, F, ds, Q, rep, il, h, k⟩
  obtain ⟨d, rfl, h2⟩ := arg1_of h
  obtain ⟨v, rfl, i1⟩ := il.one
  cases d <;> first
    | exact h2.elim
    | (cases i1; exact call_abs pins s σ H _ us R I rv ⟨_, rfl, k _ _ _ _ Ext.refl .int rep h2⟩)
theorem cd_int : CallR X (.type "int") (lowRL Θ X.K rInt) := by
  intro pins s σ H xs us R I rv ⟨G, F, ds, Q, rep, il, h, k⟩
  obtain ⟨d, rfl, h2⟩ := arg1_of h
  obtain ⟨v, rfl, i1⟩ := il.one
  cases d <;> first
    | exact h2.elim
    | (cases i1; exact call_int1 pins s σ H _ us R I rv (.inl ⟨_, rfl, k _ _ _ _ Ext.refl .int rep h2⟩))
    | (cases i1; exact call_int1 pins s σ H _ us R I rv (.inr ⟨_, rfl, k _ _ _ _ Ext.refl .int rep h2⟩))
theorem cd_list : CallR X (.type "list") (lowRL Θ X.K rList) := by
  intro pins s σ H xs us R I rv ⟨G, F, ds, Q, rep, il, h, k⟩
  obtain ⟨d, rfl, es, h1, h2⟩ := arg1_of h
  obtain ⟨v, rfl, i1⟩ := il.one
  obtain ⟨a, xs, rfl, hs, l⟩ := rep.seqOf h1 i1
  exact call_list_of pins s σ H _ us R I rv ⟨a, xs, rfl, hs, fun p hp => k _ _ _ _ (ext_upd_new hp) .ref (rep.new hp fun own => .lst upd_same (IsL.ext (ext_upd_new hp) _ l)) (h2 p (rep.free hp).1)⟩
theorem cd_tuple : CallR X (.type "tuple") (lowRL Θ X.K rTuple) := by
  intro pins s σ H xs us R I rv ⟨G, F, ds, Q, rep, il, h, k⟩
  obtain ⟨d, rfl, es, h1, h2⟩ := arg1_of h
  obtain ⟨v, rfl, i1⟩ := il.one
  obtain ⟨a, xs, rfl, hs, l⟩ := rep.seqOf h1 i1
  refine call_tuple_of pins s σ H _ us R I rv ⟨a, xs, rfl, ?_⟩
  rcases hs with hs | hs
  · exact .inl ⟨hs, fun p hp => k _ _ _ _ (ext_upd_new hp) (.tup (SqT.of upd_same) (IsL.ext (ext_upd_new hp) _ l)) (rep.newH hp) h2⟩
  · exact .inr ⟨hs, k _ _ _ _ Ext.refl (.tup hs l) rep h2⟩
theorem kit_ofD {pins : List (Addr × Obj)} {σ : L2.St} {H : Hp} {s : Shared} {G : GH} {F : Hp} {x : D} {v : V} {u t : Value} (I : Inv X pins σ H s) (rep : Rep Θ X.K H G F) (i : Is X.K H x v) (rx : RelV v u) (ty : TyD X.K G x t) :
    ∃ P : Heap → Prop, PySem.W.KitX X.K u t P ∧ P s.heap ∧ u ≠ .builtin "__main__.__loader__#opaque" := by
  cases x with
  | non => cases i; cases ty; exact kit_of I rx (.base .non)
  | bl b => cases i; cases ty; exact kit_of I rx (.base (.bl b))
  | int b => cases i; cases ty; exact kit_of I rx (.base (.int b))
  | str b => cases i; cases ty; exact kit_of I rx (.base (.str b))
  | ty n => exact ty.elim
  | tup ds =>
    cases ty
    obtain ⟨a, xs, rfl, t, l⟩ := i
    rcases t with t | t
    · rcases t with t | ⟨o, t⟩
      · exact kit_of I rx (.base (.tup t))
      · exact kit_of I rx (.fTuple t)
    · obtain ⟨o, its, n, e1, e2, _⟩ := t
      exact kit_of I rx (.kTuple e1 e2)
  | ref a =>
    cases i
    simp only [TyD] at ty
    cases e : G a with
    | none => rw [e] at ty; exact ty.elim
    | some mo =>
      rw [e] at ty
      cases mo with
      | lst ds =>
        cases ty
        obtain ⟨xs, h3, l⟩ := rep.lst e
        exact kit_of I rx (.base (.lst h3))
      | fro ds =>
        cases ty
        obtain ⟨o, xs, h3, l⟩ := rep.fro e
        exact kit_of I rx (.base (.frz h3))
      | dct kvs =>
        cases ty
        obtain ⟨ws, h3, l⟩ := rep.dct e
        exact kit_of I rx (.base (.dK h3))
      | ins C fs =>
        obtain ⟨rfl, c⟩ := ty
        obtain ⟨dx, ws, h3, l⟩ := rep.ins e
        exact kit_of I rx (.base (.ins h3 c.cl c.ha c.hn c.ht c.hm))
      | exc C fs =>
        obtain ⟨rfl, c⟩ := ty
        obtain ⟨own, r⟩ := rep
        obtain ⟨_, φ, h1, h2⟩ := r.obj a _ e
        obtain ⟨hφ, _, _⟩ := I.hok a _ h1
        obtain ⟨oe, vs, g1, g2, g3⟩ := h2 _ hφ
        cases (show u = Value.ref a from rx)
        refine ⟨_, PySem.W.handS_kitx_exc c.hg c.hk c.hs c.hd c.ha c.hn c.ht c.hm (ox := oe), ?_, fun z => nomatch z⟩
        obtain ⟨oc, od, oda, osl⟩ := oe
        obtain ⟨z1, z2⟩ := g2
        dsimp only at z1 z2 g3
        subst z1; subst z2
        subst g3
        exact ⟨g1, rfl, rfl, trivial⟩
      | _ => exact ty.elim
theorem cd_isi : CallR X (.builtin "isinstance") (lowRL Θ X.K (rIsi X.K)) := by
  intro pins s σ H xs us R I rv ⟨G, F, ds, Q, rep, il, h, k⟩
  obtain ⟨x, c, rfl, t, b, h1, h2, h3⟩ := arg2_of h
  obtain ⟨v, w, rfl, i1, i2⟩ := il.two
  obtain ⟨u1, u2, rfl, r1, r2⟩ := vals2 rv
  obtain ⟨P, Z, p, hx⟩ := kit_ofD I rep i1 r1 h1
  have fin : ∀ tk, EP X pins σ R (.bool b) { s with toks := tk } := fun tk => ⟨.bl b, H, I.tok tk, rfl, k _ _ _ _ Ext.refl .bl rep h3⟩
  cases c with
  | ty n =>
    cases i2
    cases (show u2 = Value.type n from r2)
    exact PySem.W.kia_one Z I.kIn p h2 hx fin
  | ref C =>
    cases i2
    cases (show u2 = Value.ref C from r2)
    exact PySem.W.kia_one Z I.kIn p h2 hx fin
  | tup cs =>
    obtain ⟨tp, xs, rfl, t1, l⟩ := i2
    cases (show u2 = Value.ref tp from r2)
    simp only [kitD] at h2
    cases e : cs.mapM clsV with
    | none => rw [e] at h2; cases h2
    | some ws =>
      rw [e] at h2
      have key : ∀ (cs : List D) (xs : List V) (us ws : List Value), cs.mapM clsV = some ws → IsL X.K H cs xs → Vals xs us → us = ws := by
        intro cs
        induction cs with
        | nil =>
          intro xs us ws h i r
          rw [show xs = [] from i] at r
          cases r
          simp at h
          exact h.symm
        | cons c cs ih =>
          intro xs us ws h i r
          obtain ⟨x, q, rfl, i1, i2⟩ := i
          cases r with
          | cons r0 r =>
            rw [List.mapM_cons] at h
            cases e0 : clsV c with
            | none => rw [e0] at h; cases h
            | some w0 =>
              rw [e0] at h
              cases e1 : cs.mapM clsV with
              | none => rw [e1] at h; cases h
              | some ws1 =>
                rw [e1] at h
                cases h
                rw [ih q _ ws1 e1 i2 r]
                cases c <;> simp only [clsV] at e0 <;> first
                  | (cases e0; done)
                  | (cases e0; cases i1; rw [show _ = _ from r0])
      obtain ⟨its, rv2, p2, hz⟩ := I.tuple t1
      have e3 := key cs xs its ws e l rv2
      subst e3
      obtain ⟨o, g1, g2, n, g3⟩ := p2
      obtain ⟨oc, od, dt, sl⟩ := o
      simp only at g2 g3
      subst g2 g3
      exact PySem.W.kia_tup Z I.kIn p g1 h2 hx fin
  | _ => cases h2
end
end Dl

namespace L2
open PySem PySem.Spec PyProof.Rows
theorem tuple_mulOne (l : Addr) (items : Array Value) (n : Nat) (dd : Option Addr) (sl : Array (Option Value)) (x : Int) (u : Tok) (c0 : (decide (x < -(2 ^ 63)) || decide (x ≥ 2 ^ 63)) = false) (c1 : (items.isEmpty || x == 1) = true) :
    Meets (Builtin.«tuple.__mul__» ⟨[.ref l, .int x u], []⟩) (fun _ R s => s.heap.get? l = some { cls := .type "tuple", dict := dd, data := .seq items n, slots := sl } ∧
      R (.ok (.ret (Value.ref l))) s) :=
  .of_wp fun prog w A R s h => by
    obtain ⟨hp, g, d, tk, os⟩ := s
    obtain ⟨hl, h⟩ := h
    have f1 := AutoSeq1.idx_int
    wp_walk using wpAny_loadPart' hl
    repeat (first
      | (refine wpAny_ite_false (decide_eq_false (by rw [c0]; exact Bool.false_ne_true)) ?_; wp_walk using wpAny_loadPart' hl)
      | (refine wpAny_ite_true (decide_eq_true c1) ?_; wp_walk using wpAny_loadPart' hl))
    exact ⟨_, rfl, h⟩
theorem tuple_mulNone (l : Addr) (items : Array Value) (n : Nat) (dd : Option Addr) (sl : Array (Option Value)) (x : Int) (u : Tok) (c0 : (decide (x < -(2 ^ 63)) || decide (x ≥ 2 ^ 63)) = false) (c1 : (items.isEmpty || x == 1) = false) (c2 : (decide (x ≤ 0) || items.isEmpty) = true) :
    Meets (Builtin.«tuple.__mul__» ⟨[.ref l, .int x u], []⟩) (fun _ R s => s.heap.get? l = some { cls := .type "tuple", dict := dd, data := .seq items n, slots := sl } ∧
      R (.ok (.ret (Value.ref s.heap.objs.size))) { s with heap := s.heap.push { cls := Value.type "tuple", data := Data.seq #[] }, toks := s.toks }) :=
  .of_wp fun prog w A R s h => by
    obtain ⟨hp, g, d, tk, os⟩ := s
    obtain ⟨hl, h⟩ := h
    have f1 := AutoSeq1.idx_int
    wp_walk using wpAny_loadPart' hl
    repeat (first
      | (refine wpAny_ite_false (decide_eq_false (by rw [c0]; exact Bool.false_ne_true)) ?_; wp_walk using wpAny_loadPart' hl)
      | (refine wpAny_ite_false (decide_eq_false (by rw [c1]; exact Bool.false_ne_true)) ?_; wp_walk using wpAny_loadPart' hl))
    exact ⟨_, rfl, h⟩
def rRepA (K : PySem.W.Frag) : R2 := fun x y H Q => ∃ l k xs, x = .ref l ∧ y = .int k ∧ SqT K H l xs ∧ -1000 ≤ k ∧ k ≤ 1000 ∧ xs.length ≤ 1000 ∧
  ((xs = [] ∨ k = 1) → Q (.ref l) H) ∧ (xs ≠ [] → k ≤ 0 → ∀ p, H p = none → Q (.ref p) (upd H p (.tup []))) ∧ (xs ≠ [] → 2 ≤ k → ∀ p, H p = none → Q (.ref p) (upd H p (.tup (List.replicate k.toNat xs).flatten)))
theorem op_repA {X : Cx} : OpR X (binaryOp .Mult) (rRepA X.K) := by
  intro pins s σ H x y v u Q I rx ry h
  obtain ⟨l, k, xs, rfl, rfl, hT, hk1, hk2, hz, q1, q2, q3⟩ := h
  by_cases hne : xs ≠ [] ∧ 2 ≤ k
  · exact op_repT pins s σ H _ _ v u Q I rx ry ⟨l, k, xs, rfl, rfl, hT, hne.1, hne.2, hk2, hz, q3 hne.1 hne.2⟩
  cases rx
  obtain ⟨t, rfl⟩ := ry
  obtain ⟨its, r, ⟨⟨cls, dd, data, sl⟩, ho, hc, n, hd⟩, hs⟩ := I.tuple hT
  simp only at hc hd
  subst hc hd
  have hle : its.length = xs.length := r.length.symm
  have c0 : (decide (k < -(2 ^ 63)) || decide (k ≥ 2 ^ 63)) = false := by
    rw [decide_eq_false (by omega), decide_eq_false (by omega)] <;> rfl
  by_cases h1 : xs = [] ∨ k = 1
  · have c1 : (its.toArray.isEmpty || k == 1) = true := by
      rcases h1 with h1 | h1
      · subst h1
        have : its = [] := List.length_eq_zero_iff.mp hle
        subst this
        rfl
      · subst h1
        rw [Bool.or_eq_true]
        exact .inr rfl
    refine wpAny_binaryOp_repeat_ref (T := "tuple") (U := "int") (by decide) ⟨_, ho, rfl⟩ (fun s' => typeIs_int s' k t) noFill_tuple_mul F.fills_int_mul F.slot_int_rmul repeat_tuple F.slot_int_index.lookup
      (call_meets F.slot_int_rmul (typeIs_int s k t) F.entry_int_rmul (F.args_int_rmul_2 _ _) (int_rmul_tuple k t l its.toArray n dd sl)
        ⟨ho, rfl, ⟨_, ho, rfl⟩, call_meets F.slot_tuple_mul ⟨_, ho, rfl⟩ F.entry_tuple_mul (F.args_tuple_mul_2 _ _) (tuple_mulOne l its.toArray n dd sl k t c0 c1) ⟨ho, ?_⟩⟩)
    exact ⟨.ref l, H, I, rfl, q1 h1⟩
  · have hx : xs ≠ [] := fun z => h1 (.inl z)
    have hk : k ≤ 0 := by
      have : ¬ 2 ≤ k := fun z => hne ⟨hx, z⟩
      have : k ≠ 1 := fun z => h1 (.inr z)
      omega
    have hi : its.toArray.isEmpty = false := by
      cases its with
      | nil => exact absurd (List.length_eq_zero_iff.mp hle.symm) hx
      | cons a b => rfl
    have c1 : (its.toArray.isEmpty || k == 1) = false := by
      rw [hi, Bool.false_or]
      exact beq_eq_false_iff_ne.mpr (by omega)
    have c2 : (decide (k ≤ 0) || its.toArray.isEmpty) = true := by
      rw [decide_eq_true hk]
      rfl
    refine wpAny_binaryOp_repeat_ref (T := "tuple") (U := "int") (by decide) ⟨_, ho, rfl⟩ (fun s' => typeIs_int s' k t) noFill_tuple_mul F.fills_int_mul F.slot_int_rmul repeat_tuple F.slot_int_index.lookup
      (call_meets F.slot_int_rmul (typeIs_int s k t) F.entry_int_rmul (F.args_int_rmul_2 _ _) (int_rmul_tuple k t l its.toArray n dd sl)
        ⟨ho, rfl, ⟨_, ho, rfl⟩, call_meets F.slot_tuple_mul ⟨_, ho, rfl⟩ F.entry_tuple_mul (F.args_tuple_mul_2 _ _) (tuple_mulNone l its.toArray n dd sl k t c0 c1 c2) ⟨ho, ?_⟩⟩)
    refine ⟨.ref s.heap.objs.size, _, I.laid (t' := s.toks) (o := .tup []) (fun b ob q => Heap.get?_push_of_some _ q) (Nat.le_refl _) ?_, rfl, q2 hx hk _ (I.hok.fresh (Nat.le_refl _))⟩
    exact ⟨Nat.zero_le _, [], .nil, IsTup.new _ _⟩
end L2
namespace Dl
open PySem PySem.Spec PyProof.Rows L2
def rMul : R2D
  | .int i, .int j, G, Q => IMul i j ∧ Q (.int (i * j)) G
  | .tup ds, .int k, G, Q => (-1000 ≤ k ∧ k ≤ 1000 ∧ ds.length ≤ 1000) ∧ Q (.tup (List.replicate k.toNat ds).flatten) G
  | .ref a, .int k, G, Q => ∃ ds, G a = some (.lst ds) ∧ (-(2 ^ 63) ≤ k ∧ k < 2 ^ 63 ∧ ds.length * k.toNat ≤ sizeLine) ∧ ∀ p, G p = none → Q (.ref p) (gup G p (.lst (List.replicate k.toNat ds).flatten))
  | _, _, _, _ => False
def rNeg : R1D
  | .int i, G, Q => Q (.int (-i)) G
  | _, _, _ => False
section
variable {X : Cx} {Θ : AbsI}
theorem od_mul : OpR X (binaryOp .Mult) (lowR2 Θ X.K rMul) := by
  intro pins s σ H x y v u R I rx ry ⟨G, F, d, e, Q, rep, hd, he, h, k⟩
  cases e with
  | int j =>
    cases d with
    | int i =>
      obtain ⟨h0, h2⟩ := h
      rcases h0 with h0 | h0
      · exact op_mul pins s σ H x y v u R I rx ry ⟨i, j, hd, he, h0, k _ _ _ _ Ext.refl .int rep h2⟩
      · exact op_mulW pins s σ H x y v u R I rx ry ⟨i, j, hd, he, h0, k _ _ _ _ Ext.refl .int rep h2⟩
    | tup ds =>
      obtain ⟨⟨h1, h2, h3⟩, h4⟩ := h
      obtain ⟨a, xs, e1, t1, l1⟩ := hd
      have hl := l1.len
      refine op_repA pins s σ H x y v u R I rx ry ⟨a, j, xs, e1, he, t1, h1, h2, by omega, fun z => ?_, fun z1 z2 p hp => ?_, fun z1 z2 p hp => ?_⟩
      · refine k _ _ _ _ Ext.refl (.tup t1 ?_) rep h4
        rcases z with z | z
        · subst z
          have : ds = [] := List.length_eq_zero_iff.mp hl.symm
          subst this
          have : (List.replicate j.toNat ([] : List D)).flatten = [] := by simp
          rw [this]
          exact l1
        · subst z
          have : (List.replicate (1 : Int).toNat ds).flatten = ds := by simp
          rw [this]
          exact l1
      · refine k _ _ _ _ (ext_upd_new hp) (.tup (SqT.of upd_same) ?_) (rep.newH hp) h4
        have : j.toNat = 0 := by omega
        rw [this]
        exact .nil
      · exact k _ _ _ _ (ext_upd_new hp) (.tup (SqT.of upd_same) (IsL.ext (ext_upd_new hp) _ (l1.rep _))) (rep.newH hp) h4
    | ref a =>
      obtain ⟨ds, h1, ⟨h2, h3, h4⟩, h5⟩ := h
      obtain ⟨vs, e1, l1⟩ := rep.lst h1
      exact op_rep pins s σ H x y v u R I rx ry ⟨a, j, vs, hd, he, e1, h2, h3, by rw [l1.len]; exact h4, fun p hp => k _ _ _ _ (ext_upd_new hp) .ref (rep.new hp fun own => .lst upd_same (IsL.ext (ext_upd_new hp) _ (l1.rep _))) (h5 p (rep.free hp).1)⟩
    | _ => exact h.elim
  | _ => cases d <;> exact h.elim
theorem ud_neg : UnR X (unaryOp .USub) (lowR1 Θ X.K rNeg) := by
  intro pins s σ H x v R I rx ⟨G, F, d, Q, rep, hd, h, k⟩
  cases d with
  | int i => exact un_neg pins s σ H x v R I rx ⟨i, hd, k _ _ _ _ Ext.refl .int rep h⟩
  | _ => exact h.elim
end
end Dl

namespace Dl
open PySem PySem.Spec PyProof.Rows L2

/-! ### dicts of ints and texts -/
def keyD : D → Option Key
  | .int i => some (.inl i)
  | .str x => some (.inr x)
  | _ => none
def valD (kvs : List (Key × D)) (k : Key) : Option D := (kvs.find? fun kv => decide (kv.1 = k)).map (·.2)
def putD (kvs : List (Key × D)) (k : Key) (v : D) : List (Key × D) :=
  if (kvs.any fun kv => decide (kv.1 = k)) = true then kvs.map (fun kv => if kv.1 = k then (kv.1, v) else kv) else kvs ++ [(k, v)]
section
variable {K : PySem.W.Frag} {H : Hp}
theorem keyD_is {d : D} {v : V} {k : Key} (h : Is K H d v) (e : keyD d = some k) : v = kV k := by
  cases d <;> simp only [keyD] at e <;> first
    | (cases e; done)
    | (cases e; cases h; rfl)
theorem IsK.val {kvs : List (Key × D)} {ws : List (Key × V)} (h : IsK K H kvs ws) (k : Key) : (valD kvs k = none ∧ valV ws k = none) ∨ ∃ d v, valD kvs k = some d ∧ valV ws k = some v ∧ Is K H d v := by
  induction kvs generalizing ws with
  | nil => rw [show ws = [] from h]; exact .inl ⟨rfl, rfl⟩
  | cons p kvs ih =>
    obtain ⟨k', d⟩ := p
    obtain ⟨x, q, rfl, h2, h3⟩ := h
    unfold valD valV
    simp only [List.find?_cons]
    by_cases e : k' = k
    · simp only [e, decide_true, Option.map_some]
      exact .inr ⟨d, x, rfl, rfl, h2⟩
    · simp only [e, decide_false]
      exact ih h3
theorem IsK.any {kvs : List (Key × D)} {ws : List (Key × V)} (h : IsK K H kvs ws) (k : Key) : (kvs.any fun kv => decide (kv.1 = k)) = ws.any fun kv => decide (kv.1 = k) := by
  induction kvs generalizing ws with
  | nil => rw [show ws = [] from h]; rfl
  | cons p kvs ih =>
    obtain ⟨k', d⟩ := p
    obtain ⟨x, q, rfl, h2, h3⟩ := h
    simp only [List.any_cons, ih h3]
theorem IsK.repl {kvs : List (Key × D)} {ws : List (Key × V)} (h : IsK K H kvs ws) (k : Key) {d : D} {v : V} (i : Is K H d v) : IsK K H (kvs.map fun kv => if kv.1 = k then (kv.1, d) else kv) (ws.map fun kv => if kv.1 = k then (kv.1, v) else kv) := by
  induction kvs generalizing ws with
  | nil => rw [show ws = [] from h]; rfl
  | cons p kvs ih =>
    obtain ⟨k', d'⟩ := p
    obtain ⟨x, q, rfl, h2, h3⟩ := h
    simp only [List.map_cons]
    by_cases e : k' = k
    · rw [if_pos e, if_pos e]
      exact ⟨v, _, rfl, i, ih h3⟩
    · rw [if_neg e, if_neg e]
      exact ⟨x, _, rfl, h2, ih h3⟩
theorem IsK.snoc {kvs : List (Key × D)} {ws : List (Key × V)} (h : IsK K H kvs ws) (k : Key) {d : D} {v : V} (i : Is K H d v) : IsK K H (kvs ++ [(k, d)]) (ws ++ [(k, v)]) := by
  induction kvs generalizing ws with
  | nil => rw [show ws = [] from h]; exact ⟨v, [], rfl, i, rfl⟩
  | cons p kvs ih =>
    obtain ⟨k', d'⟩ := p
    obtain ⟨x, q, rfl, h2, h3⟩ := h
    exact ⟨x, _, rfl, h2, ih h3⟩
theorem IsK.putD {kvs : List (Key × D)} {ws : List (Key × V)} (h : IsK K H kvs ws) (k : Key) {d : D} {v : V} (i : Is K H d v) : IsK K H (putD kvs k d) (putK ws k v) := by
  unfold Dl.putD putK
  rw [h.any k]
  by_cases e : (ws.any fun kv => decide (kv.1 = k)) = true
  · rw [if_pos e, if_pos e]; exact h.repl k i
  · rw [if_neg e, if_neg e]; exact h.snoc k i
end
/-! ### subscripts -/
def rIx (x y : D) (G : GH) (Q : DK) : Prop := match x with
  | .tup ds => match y with
    | .int i => ∃ d, atI ds i = some d ∧ Q d G
    | _ => False
  | .str z => match y with
    | .int i => ∃ c, z.length ≤ sizeLine ∧ atI z.cps.toList i = some c ∧ Q (.str ⟨#[c]⟩) G
    | _ => False
  | .ref a => match G a with
    | some (.lst ds) => match y with
      | .int i => ∃ d, atI ds i = some d ∧ Q d G
      | _ => False
    | some (.fro ds) => match y with
      | .int i => ∃ d, atI ds i = some d ∧ Q d G
      | _ => False
    | some (.dct kvs) => ∃ k d, keyD y = some k ∧ valD kvs k = some d ∧ Q d G
    | _ => False
  | _ => False
theorem at_is {K : PySem.W.Frag} {H : Hp} {ds : List D} {xs : List V} {i : Int} {d : D} (l : IsL K H ds xs) (h : atI ds i = some d) : ∃ v, atI xs i = some v ∧ Is K H d v := by
  unfold atI at h ⊢
  rw [l.len]
  cases e : ixN ds.length i with
  | none => rw [e] at h; cases h
  | some j =>
    rw [e] at h
    exact l.get h
def rSet (o i v : D) (G : GH) (Q : GH → Prop) : Prop := match o with
  | .ref a => match G a with
    | some (.lst ds) => match i with
      | .int k => ∃ j, ixN ds.length k = some j ∧ Q (gup G a (.lst (ds.set j v)))
      | _ => False
    | some (.dct kvs) => ∃ k, keyD i = some k ∧ kvs.length < sizeLine ∧ Q (gup G a (.dct (putD kvs k v)))
    | _ => False
  | _ => False
/-- the items of xs[lo:hi] -/
def cutD (ds : List D) (lo hi : Option Int) : List D := (ds.drop (HT.sIx ds.length 0 lo)).take (HT.sIx ds.length ds.length hi - HT.sIx ds.length 0 lo)
theorem cut_is {K : PySem.W.Frag} {H : Hp} {ds : List D} {xs : List V} {lo hi : Option Int} (l : IsL K H ds xs) : IsL K H (cutD ds lo hi) (cutV xs lo hi) := by
  unfold cutD cutV
  rw [l.len]
  exact (l.drop _).take _
abbrev TOD := DXK → Ro → GH → (Option Int → GH → Prop) → Prop
def dNoPart (X : DXK) (ρ : Ro) (G : GH) (Q : Option Int → GH → Prop) : Prop := Q none G
def dPart (t : TED) (X : DXK) (ρ : Ro) (G : GH) (Q : Option Int → GH → Prop) : Prop := t X ρ G fun x G1 => match x with
  | .int i => Q (some i) G1
  | _ => False
def rSl (x : D) (lo hi : Option Int) (G : GH) (Q : DK) : Prop := match x with
  | .tup ds => Q (.tup (cutD ds lo hi)) G
  | .ref a => match lstOf G (.ref a) with
    | some ds => ∀ p, G p = none → Q (.ref p) (gup G p (.lst (cutD ds lo hi)))
    | none => False
  | .str z => z.length ≤ sizeLine ∧ Q (.str (cutS z lo hi)) G
  | _ => False
def dSlice (te : TED) (tl th : TOD) (X : DXK) (ρ : Ro) (G : GH) (Q : DK) : Prop := te X ρ G fun x G1 => tl X ρ G1 fun l G2 => th X ρ G2 fun u G3 => rSl x l u G3 Q
def lowO (Θ : AbsI) (K : PySem.W.Frag) (W : WX) (td : TOD) : TO := fun σ H R => ∃ (ρ : Ro) (G : GH) (F : Hp) (Q : Option Int → GH → Prop) (DX : DXK), EnvIs K H ρ σ ∧ Rep Θ K H G F ∧ td DX ρ G Q ∧ XTo Θ K W DX H F ∧
  ∀ o H' G', Ext K H H' → Rep Θ K H' G' F → Q o G' → R o H'
/-! ### methods of lists -/
abbrev RMD := D → List D → GH → DK → Prop
def rAppend (x : D) (ys : List D) (G : GH) (Q : DK) : Prop := arg1 ys fun y => match x with
  | .ref a => ∃ ds, G a = some (.lst ds) ∧ ds.length < sizeLine ∧ Q .non (gup G a (.lst (ds ++ [y])))
  | _ => False
def rExtend (x : D) (ys : List D) (G : GH) (Q : DK) : Prop := arg1 ys fun y => match x with
  | .ref a => ∃ ds es, G a = some (.lst ds) ∧ lstOf G y = some es ∧ (∃ b, y = .ref b ∧ G b = some (.lst es)) ∧ ds.length + es.length ≤ sizeLine ∧ Q .non (gup G a (.lst (ds ++ es)))
  | _ => False
def rPop0 (x : D) (ys : List D) (G : GH) (Q : DK) : Prop := arg0 ys (match x with
  | .ref a => ∃ ds d, G a = some (.lst ds) ∧ ds[ds.length - 1]? = some d ∧ Q d (gup G a (.lst ds.dropLast))
  | _ => False)
def rPopAt (x : D) (ys : List D) (G : GH) (Q : DK) : Prop := arg1 ys fun y => match x with
  | .ref a => match y with
    | .int i => ∃ ds k d, G a = some (.lst ds) ∧ (-(2 ^ 63) ≤ i ∧ i < 2 ^ 63) ∧ seqIndex? i ds.length = some k ∧ ds[k]? = some d ∧ Q d (gup G a (.lst (ds.eraseIdx k)))
    | _ => False
  | _ => False
def lowRM (Θ : AbsI) (K : PySem.W.Frag) (rd : RMD) : V → List V → Hp → VK → Prop := fun v vs H R => ∃ (G : GH) (F : Hp) (x : D) (xs : List D) (Q : DK), Rep Θ K H G F ∧ Is K H x v ∧ IsL K H xs vs ∧ rd x xs G Q ∧ ∀ w H' d G', Ext K H H' → Is K H' d w → Rep Θ K H' G' F → Q d G' → R w H'
theorem IsL.dropLast {K : PySem.W.Frag} {H : Hp} {ds : List D} {xs : List V} (l : IsL K H ds xs) : IsL K H ds.dropLast xs.dropLast := by
  rw [List.dropLast_eq_take, List.dropLast_eq_take, l.len]
  exact l.take _

section
variable {X : Cx} {Θ : AbsI} {W : WX}
theorem ix_dict (hu : X.A.units + 1 < cLine) : IxR X (fun x y H Q => ∃ a v, x = .ref a ∧ DGet H a y (some v) ∧ (∃ kvs, Rd H a (.dK kvs)) ∧ Q v H) := by
  intro value slice pins s σ H x y v u R I rx ry ⟨a, w, e, g, ⟨kvs, hr⟩, q⟩ hs
  subst e
  obtain rfl : v = Value.ref a := rx
  obtain ⟨z, hd, vs, rel, dd⟩ := dk_rd I.hok hr
  exact tail_any dd.typeIs PySem.F.slot_dict_getitem.lookup (d_getItem hu I g ry fun w' s3 I3 rw' => ⟨w, H, I3, rw', q⟩) hs
theorem xd_ix (hu : X.A.units + 1 < cLine) : IxR X (lowR2 Θ X.K rIx) := by
  intro value slice pins s σ H x y v u R I rx ry ⟨G, F, d, e, Q, rep, hd, he, h, k⟩ hs
  cases d with
  | tup ds =>
    cases e with
    | int i =>
      obtain ⟨d, h1, h2⟩ := h
      obtain ⟨a, xs, e1, t, l⟩ := hd
      obtain ⟨w, a1, a2⟩ := at_is l h1
      exact ix_tup value slice pins s σ H x y v u R I rx ry ⟨a, xs, i, w, e1, he, t, a1, k _ _ _ _ Ext.refl a2 rep h2⟩ hs
    | _ => exact h.elim
  | str z =>
    cases e with
    | int i =>
      obtain ⟨c, h0, h1, h2⟩ := h
      exact ix_str value slice pins s σ H x y v u R I rx ry ⟨z, i, c, hd, he, h0, h1, k _ _ _ _ Ext.refl .str rep h2⟩ hs
    | _ => exact h.elim
  | ref a =>
    simp only [rIx] at h
    cases c : G a with
    | none => rw [c] at h; exact h.elim
    | some mo =>
      rw [c] at h
      cases mo with
      | lst ds =>
        cases e with
        | int i =>
          obtain ⟨d, h1, h2⟩ := h
          obtain ⟨xs, t, l⟩ := rep.lst c
          obtain ⟨w, a1, a2⟩ := at_is l h1
          exact ix_list value slice pins s σ H x y v u R I rx ry ⟨a, xs, i, w, hd, he, SqL.of t, a1, k _ _ _ _ Ext.refl a2 rep h2⟩ hs
        | _ => exact h.elim
      | fro ds =>
        cases e with
        | int i =>
          obtain ⟨d, h1, h2⟩ := h
          obtain ⟨o, xs, t, l⟩ := rep.fro c
          obtain ⟨w, a1, a2⟩ := at_is l h1
          exact ix_list value slice pins s σ H x y v u R I rx ry ⟨a, xs, i, w, hd, he, .inl (.inr ⟨o, t⟩), a1, k _ _ _ _ Ext.refl a2 rep h2⟩ hs
        | _ => exact h.elim
      | dct kvs =>
        obtain ⟨kk, d, h1, h2, h3⟩ := h
        obtain ⟨ws, t, l⟩ := rep.dct c
        rcases l.val kk with ⟨z, _⟩ | ⟨d', w, z1, z2, z3⟩
        · rw [h2] at z; cases z
        · rw [h2] at z1; cases z1
          refine ix_dict hu value slice pins s σ H x y v u R I rx ry ⟨a, w, hd, ?_, ⟨ws, .inl t⟩, k _ _ _ _ Ext.refl z3 rep h3⟩ hs
          rw [keyD_is he h1, ← z2]
          exact DGet.k t
      | _ => exact h.elim
  | _ => exact h.elim
theorem de_sub {a b : Expr} {pos : Pos} {ta tb : TED} (hu : X.A.units + 1 < cLine) (ha : PE X a (lowE Θ X.K W ta)) (hb : PE X b (lowE Θ X.K W tb)) (hs : plE b = true) : PE X (.Subscript a b pos) (lowE Θ X.K W (dBin rIx ta tb)) :=
  (pe_ix (xd_ix hu) ha hb (by intro o i; cases b <;> first | rfl | cases hs)).weak (low_bin (r' := lowR2 Θ X.K rIx) fun _ _ _ h => h)
theorem xd_set (hu : X.A.units + 1 < cLine) : PSet X (lowSet Θ X.K rSet) := by
  intro pins s σ H o i v ov iv u R I ro ri rv ⟨G, F, x, y, z, Q, rep, hx, hy, hz, h, k⟩
  cases x with
  | ref a =>
    simp only [rSet] at h
    cases c : G a with
    | none => rw [c] at h; exact h.elim
    | some mo =>
      rw [c] at h
      cases mo with
      | lst ds =>
        cases y with
        | int n =>
          obtain ⟨j, h1, h2⟩ := h
          obtain ⟨xs, t, l⟩ := rep.lst c
          have x1 : Ext X.K H (upd H a (.lst (xs.set j v))) := ext_upd_mut t trivial
          exact set_list pins s σ H o i v ov iv u R I ro ri rv ⟨a, xs, n, j, hx, hy, t, by rw [l.len]; exact h1, k _ _ x1 (rep.write c t trivial fun own _ => .lst upd_same (IsL.ext x1 _ (l.set j hz))) h2⟩
        | _ => exact h.elim
      | dct kvs =>
        obtain ⟨kk, h1, h2, h3⟩ := h
        obtain ⟨ws, t, l⟩ := rep.dct c
        cases hx
        obtain rfl : ov = Value.ref a := ro
        have x1 : Ext X.K H (upd H a (.dK (putK ws kk v))) := ext_upd_mut t trivial
        have g : DPut H a i v (upd H a (.dK (putK ws kk v))) := by
          rw [keyD_is hy h1]
          exact DPut.k t (by rw [l.len]; exact h2)
        exact d_setItem hu I g ri rv fun s4 I4 => ⟨_, I4, k _ _ x1 (rep.write c t trivial fun own _ => .dct upd_same (IsK.ext x1 (l.putD kk hz))) h3⟩
      | _ => exact h.elim
  | _ => exact h.elim
theorem do_none : PO X none (lowO Θ X.K W dNoPart) := ⟨fun pins s σ H R I ⟨ρ, G, F, Q, DX, e, rr, h, x, k⟩ => po_none.run pins s σ H R I (k _ _ _ Ext.refl rr h)⟩
theorem do_some {e : Expr} {te : TED} (he : PE X e (lowE Θ X.K W te)) : PO X (some e) (lowO Θ X.K W (dPart te)) := ⟨fun pins s σ H R I ⟨ρ, G, F, Q, DX, e, rr, h, x, k⟩ => (po_some he).run pins s σ H R I (lowE_mk e rr x h fun v H1 d G1 e1 i1 r1 q1 => by
    cases d with
    | int i => exact ⟨i, i1, k _ _ _ e1 r1 q1⟩
    | _ => exact q1.elim)⟩
theorem xd_sl : SlR X (fun v l u H R => ∃ (G : GH) (F : Hp) (x : D) (Q : DK), Rep Θ X.K H G F ∧ Is X.K H x v ∧ rSl x l u G Q ∧ ∀ w H' d G', Ext X.K H H' → Is X.K H' d w → Rep Θ X.K H' G' F → Q d G' → R w H') := by
  intro pins s σ H x v vl vu lo hi sl R I rx hs pl pu ⟨G, F, d, Q, rep, hd, h, k⟩
  cases d with
  | tup ds =>
    obtain ⟨a, xs, e1, t, l⟩ := hd
    refine sl_tupA pins s σ H x v vl vu lo hi sl R I rx hs pl pu ⟨a, xs, e1, t, fun z => ?_, fun z p hp => ?_⟩
    · refine k _ _ _ _ Ext.refl (.tup t ?_) rep h
      have : cutD ds lo hi = ds := by
        unfold cutD
        rw [l.len] at z
        rw [z.1, z.2]
        simp
      rw [this]
      exact l
    · exact k _ _ _ _ (ext_upd_new hp) (.tup (SqT.of upd_same) (IsL.ext (ext_upd_new hp) _ (cut_is l))) (rep.newH hp) h
  | ref a =>
    simp only [rSl] at h
    cases c : lstOf G (.ref a) with
    | none => rw [c] at h; exact h.elim
    | some ds =>
      rw [c] at h
      obtain ⟨a', xs, e1, e2, t, l⟩ := rep.lstOf c hd
      exact sl_list pins s σ H x v vl vu lo hi sl R I rx hs pl pu ⟨a', xs, e1, t, fun p hp => k _ _ _ _ (ext_upd_new hp) .ref (rep.new hp fun own => .lst upd_same (IsL.ext (ext_upd_new hp) _ (cut_is l))) (h p (rep.free hp).1)⟩
  | str z => exact sl_str pins s σ H x v vl vu lo hi sl R I rx hs pl pu ⟨z, hd, h.1, k _ _ _ _ Ext.refl .str rep h.2⟩
  | _ => exact h.elim
theorem de_slice {e : Expr} {lo hi : Option Expr} {pos p2 : Pos} {te : TED} {tl th : TOD} (he : PE X e (lowE Θ X.K W te)) (hl : PO X lo (lowO Θ X.K W tl)) (hu : PO X hi (lowO Θ X.K W th)) : PE X (.Subscript e (.Slice lo hi none p2) pos) (lowE Θ X.K W (dSlice te tl th)) :=
  (pe_slice xd_sl he hl hu).weak fun σ H R ⟨ρ, G, F, Q, DX, e, rr, h, x, k⟩ => by
    refine lowE_mk e rr x h fun v H1 d G1 e1 i1 r1 q1 => ?_
    refine ⟨ρ, G1, F, _, DX, e.ext e1, r1, q1, x.ext e1, fun o H2 G2 e2 r2 q2 => ?_⟩
    refine ⟨ρ, G2, F, _, DX, e.ext (e1.trans e2), r2, q2, x.ext (e1.trans e2), fun o' H3 G3 e3 r3 q3 => ?_⟩
    exact ⟨G3, F, d, Q, r3, i1.ext (e2.trans e3) d, q3, fun w H4 d4 G4 e4 i4 r4 q4 => k _ _ _ _ (e1.trans (e2.trans (e3.trans e4))) i4 r4 q4⟩
theorem md_append : MtR X "list.append" (lowRM Θ X.K rAppend) := by
  intro pins s σ H x xs v us R I rx rv ⟨G, F, d, ds, Q, rep, hd, hl, h, k⟩
  obtain ⟨y, rfl, h⟩ := arg1_of h
  obtain ⟨w, rfl, i1⟩ := hl.one
  cases d with
  | ref a =>
    obtain ⟨es, h1, h2, h3⟩ := h
    obtain ⟨xs, t, l⟩ := rep.lst h1
    have x1 : Ext X.K H (upd H a (.lst (xs ++ [w]))) := ext_upd_mut t trivial
    exact mt_append pins s σ H x _ v us R I rx rv ⟨a, xs, w, hd, rfl, t, by rw [l.len]; exact h2, k _ _ _ _ x1 .non (rep.write h1 t trivial fun own _ => .lst upd_same (IsL.ext x1 _ (l.snoc i1))) h3⟩
  | _ => exact h.elim
theorem md_extend : MtR X "list.extend" (lowRM Θ X.K rExtend) := by
  intro pins s σ H x xs v us R I rx rv ⟨G, F, d, ds, Q, rep, hd, hl, h, k⟩
  obtain ⟨y, rfl, h⟩ := arg1_of h
  obtain ⟨w, rfl, i1⟩ := hl.one
  cases d with
  | ref a =>
    obtain ⟨es, fs, h1, _, ⟨b, rfl, h2⟩, h3, h4⟩ := h
    cases i1
    obtain ⟨xs, t, l⟩ := rep.lst h1
    obtain ⟨ys, t2, l2⟩ := rep.lst h2
    have x1 : Ext X.K H (upd H a (.lst (xs ++ ys))) := ext_upd_mut t trivial
    exact mt_extend pins s σ H x _ v us R I rx rv ⟨a, b, xs, ys, hd, rfl, t, t2, by rw [l.len, l2.len]; exact h3, k _ _ _ _ x1 .non (rep.write h1 t trivial fun own _ => .lst upd_same (IsL.ext x1 _ (l.app l2))) h4⟩
  | _ => exact h.elim
theorem md_pop : MtR X "list.pop" (lowRM Θ X.K rPop0) := by
  intro pins s σ H x xs v us R I rx rv ⟨G, F, d, ds, Q, rep, hd, hl, h, k⟩
  obtain ⟨rfl, h⟩ := arg0_of h
  obtain rfl : xs = [] := hl
  cases d with
  | ref a =>
    obtain ⟨es, y, h1, h2, h3⟩ := h
    obtain ⟨xs, t, l⟩ := rep.lst h1
    obtain ⟨w, e1, i1⟩ := l.get h2
    have x1 : Ext X.K H (upd H a (.lst xs.dropLast)) := ext_upd_mut t trivial
    exact mt_pop pins s σ H x _ v us R I rx rv ⟨a, xs, w, hd, rfl, t, by rw [l.len]; exact e1, k _ _ _ _ x1 (i1.ext x1 _) (rep.write h1 t trivial fun own _ => .lst upd_same (IsL.ext x1 _ l.dropLast)) h3⟩
  | _ => exact h.elim
theorem md_popAt : MtR X "list.pop" (lowRM Θ X.K rPopAt) := by
  intro pins s σ H x xs v us R I rx rv ⟨G, F, d, ds, Q, rep, hd, hl, h, k⟩
  obtain ⟨y, rfl, h⟩ := arg1_of h
  obtain ⟨w, rfl, i1⟩ := hl.one
  cases d with
  | ref a =>
    cases y with
    | int i =>
      obtain ⟨es, n, y, h1, ⟨h2, h2'⟩, h3, h4, h5⟩ := h
      cases i1
      obtain ⟨xs, t, l⟩ := rep.lst h1
      obtain ⟨w, e1, i1⟩ := l.get h4
      have x1 : Ext X.K H (upd H a (.lst (xs.eraseIdx n))) := ext_upd_mut t trivial
      exact mt_popAt pins s σ H x _ v us R I rx rv ⟨a, xs, i, n, w, hd, rfl, t, h2, h2', by rw [l.len]; exact h3, e1, k _ _ _ _ x1 (i1.ext x1 _) (rep.write h1 t trivial fun own _ => .lst upd_same (IsL.ext x1 _ (l.eraseIdx n))) h5⟩
    | _ => exact h.elim
  | _ => exact h.elim
/-- a list's method -/
def dLM (r : RMD) (to : TED) (t : TAD) (X : DXK) (ρ : Ro) (G : GH) (Q : DK) : Prop := to X ρ G fun x G1 => (∃ ds, lstOf G1 x = some ds) ∧ t X ρ G1 fun ys G2 => r x ys G2 Q
theorem de_lm {o e : Expr} {es : List Expr} {apos cpos : Pos} {id : String} {name : Str} {r : RMD} {to : TED} {t : TAD} (pa : PlainAttrs "list") (slot : Slot "list" name id) (hty : typeOf (.builtin id) = pure (.type "method_descriptor")) (hm : MtR X id (lowRM Θ X.K r)) (ho : PE X o (lowE Θ X.K W to))
    (ha : PA X (e :: es) (lowA Θ X.K W t)) (hbase : attributeBase o name X.env (eval o X.env) = eval o X.env)
    (hfew : ((backTo cpos (starEach (e :: es) X.env)).all (fun x => !x.1) && (backToKw cpos (keywordEach [] X.env)).all (fun x => x.1.isSome)
      && decide ((e :: es).length + ([] : List Keyword).length + (if ([] : List Keyword).isEmpty then 0 else 1) < 30)) = true)
    (hline : (apos.endLine == cpos.line) = true) (hs : (e :: es).all plS = true) : PE X (.Call (.Attribute o name apos) (e :: es) [] cpos) (lowE Θ X.K W (dLM r to t)) := by
  rw [List.all_cons, Bool.and_eq_true] at hs
  refine (pe_bm pa slot hty hm ho ha hbase hfew hline (star_cons hs.1) (star_plain hs.2)).weak fun σ H R ⟨ρ, G, F, Q, DX, e, rr, h, x, k⟩ => ?_
  refine lowE_mk e rr x h fun v H1 d G1 e1 i1 r1 q1 => ?_
  obtain ⟨⟨ds, h1⟩, q1⟩ := q1
  obtain ⟨a, xs, rfl, rfl, t1, l⟩ := r1.lstOf h1 i1
  refine ⟨.inl ⟨rfl, xs, t1⟩, lowA_mk (e.ext e1) r1 (x.ext e1) q1 fun vs H2 es G2 e2 i2 r2 q2 => ?_⟩
  exact ⟨G2, F, .ref a, es, Q, r2, .ref, i2, q2, fun w H3 d3 G3 e3 i3 r3 q3 => k _ _ _ _ (e1.trans (e2.trans e3)) i3 r3 q3⟩
theorem de_lm0 {o : Expr} {apos cpos : Pos} {id : String} {name : Str} {r : RMD} {to : TED} (pa : PlainAttrs "list") (slot : Slot "list" name id) (hty : typeOf (.builtin id) = pure (.type "method_descriptor")) (hm : MtR X id (lowRM Θ X.K r)) (ho : PE X o (lowE Θ X.K W to))
    (hbase : attributeBase o name X.env (eval o X.env) = eval o X.env) (hline : (apos.endLine == cpos.line) = true) : PE X (.Call (.Attribute o name apos) [] [] cpos) (lowE Θ X.K W (dLM r to dNil)) := by
  refine (pe_bm0 pa slot hty hm ho hbase hline).weak fun σ H R ⟨ρ, G, F, Q, DX, e, rr, h, x, k⟩ => ?_
  refine lowE_mk e rr x h fun v H1 d G1 e1 i1 r1 q1 => ?_
  obtain ⟨⟨ds, h1⟩, q1⟩ := q1
  obtain ⟨a, xs, rfl, rfl, t1, l⟩ := r1.lstOf h1 i1
  exact ⟨.inl ⟨rfl, xs, t1⟩, G1, F, .ref a, [], Q, r1, .ref, .nil, q1, fun w H3 d3 G3 e3 i3 r3 q3 => k _ _ _ _ (e1.trans e3) i3 r3 q3⟩
end
end Dl

namespace L2
open PySem PySem.Spec PyProof.Rows
/-- an exception that was caught, at a -/
def ExcO (cls : Value) (d : Option Addr) (a : Addr) : HO := .ext fun h => ∃ (oe : Obj) (vs : Array Value), h.get? a = some oe ∧ Zc cls d oe ∧ oe.data = .fields vs
section
variable {X : Cx} {pins : List (Addr × Obj)} {σ : L2.St} {H : Hp} {s : Shared}
theorem Inv.track {a : Addr} {oe : Obj} {vs : Array Value} {cls : Value} {d : Option Addr} (I : Inv X pins σ H s) (he : s.heap.get? a = some oe) (hz : Zc cls d oe) (hd : oe.data = .fields vs) (hn : H a = none) (n0 : X.s_0.heap.get? a = none) (nL : a ≠ X.env.locals) (np : ∀ p ∈ X.pn ++ pins, p.1 ≠ a) :
    Inv X pins σ (upd H a (ExcO cls d a)) s := by
  have ne0 : ∀ b o, X.s_0.heap.get? b = some o → b ≠ a := fun b o e z => by
    rw [z, n0] at e; cases e
  refine ⟨I.ok, I.os, I.bare, ⟨I.base.keep, I.base.slot, fun b o e n hx => ?_, I.base.there, fun b xs e => ?_, fun b o u e => ?_, fun b ps e => ?_⟩, I.loc, I.cell, ?_, fun x c e => ?_, fun p hp => ?_, ?_, I.len⟩
  · rw [upd_ne (ne0 b o e)]
    exact I.base.free b o e n hx
  · have q := I.base.tups b xs e
    rw [upd_ne (ne_of_none q hn)]
    exact q
  · have q := I.base.frzs b o u e
    rw [upd_ne (ne_of_none q hn)]
    exact q
  · obtain ⟨m, q⟩ := I.base.tbls b ps e
    exact ⟨m, by rw [upd_ne (ne_of_none q hn)]; exact q⟩
  · rw [upd_ne nL.symm]
    exact I.free
  · rw [upd_ne]
    · exact I.freeC x c e
    · rintro rfl
      obtain ⟨v, o, ho, hc⟩ := I.cell x c e
      rw [he] at ho
      cases ho
      rw [hd] at hc
      cases hc
  · obtain ⟨e, n, r⟩ := I.pin p hp
    exact ⟨e, by rw [upd_ne (np p hp)]; exact n, r⟩
  · exact I.hok.laidN (h' := s.heap) (fun _ _ q => q) hn ⟨⟨oe, vs, he, hz, hd⟩, ⟨oe, he⟩, fun _ _ ⟨o, v, q, r⟩ k => ⟨o, v, k o q, r⟩⟩
end
section
variable {X : Cx} {x n m : Str} {c : Value} {i j : Nat} {body : List Stmt} {np pm pnn pa pos pos' : Pos} {tb : WX → TS}
def wTrack (K : PySem.W.Frag) (c : Value) (i j len : Nat) (D : Ends) : WX := fun cls d σ H =>
  PySem.W.exmOne K cls c = some true ∧ (σ.length = len → ∀ a, H a = none → D.nx (((σ.set i (some (.ref a))).set j (some (.ref a))).set i none) (upd H a (ExcO cls d a)))
theorem ps_try_track (hs : X.stack = X.env :: X.outer) (hf : X.env.frame = some X.env.locals) (hex : X.ex = []) (hN : X.N.Nodup) (hi : X.N[i]? = some n) (hj : X.N[j]? = some m) (hln : X.env.kindOf n = some .local) (hlm : X.env.kindOf m = some .local) (hc : Names X x c)
    (hsw : swapsWith (.Name n pnn) (some (.Name m pm)) pa.line X.env = pure false) (hdn : (n == ("__debug__" : Str)) = false) (hcn : (n == ("__classdict__" : Str)) = false) (hil : i < X.N.length)
    (hb : ∀ (W : WX) (pn : List (Addr × Obj)) (xe : Value → Shared → Prop), Takes (X.tr pn xe) W → PassesOwn (model X.prog X.w) X.A X.env xe → PSs (X.tr pn xe) body (tb W)) :
    PS X (.Try body [.ExceptHandler (some (.Name x np)) (some n) [.Assign [.Name m pm] (.Name n pnn) pa] pos'] [] [] pos) (fun D σ H => tb (wTrack X.K c i j X.N.length D) D σ H) := by
  refine ⟨fun pins s σ H D I h => ?_⟩
  have ok := I.ok
  have hfr : X.A.frames = some (X.env :: X.outer) := by rw [ok.frames, hs]
  have hloc : Loc X.env.scope n := .inl hln
  refine wpAny_Try_except ?_
  refine wpAny_mono ((hb (wTrack X.K c i j X.N.length D) (X.pn ++ pins) (fun e s₁ => wpAny (model X.prog X.w) X.A (noteFrame e X.env) (fun _ s₂ => wpAny (model X.prog X.w) X.A (setFlight e none) (fun _ s₃ =>
    wpAny (model X.prog X.w) X.A (handleBy e X.env [.ExceptHandler (some (.Name x np)) (some n) [.Assign [.Name m pm] (.Name n pnn) pa] pos']) (SP X pins D) X.xe s₃) X.xe s₂) X.xe s₁) (fun u s' xx => ?_) PassesOwn.looking).run [] s σ H D (I.toTry _) h) (fun f s1 hsp => ?_) (fun e s1 he => he)
  · obtain ⟨a, B, sI, pins', σ', H', cls, d, rfl, J', nb, up, sky, na, os, ag, hb1, hyes⟩ := xx
    have J : Inv X pins σ' H' sI := J'.ofTry ok
    have sky' : Sky B (X.env :: X.outer) a (Zc cls d) X.env.locals s'.heap := by rw [← hs]; exact sky
    show wpAny (model X.prog X.w) X.A (noteFrame (.ref a) X.env) _ _ _
    refine Sky.land Zc.steady hfr hf sky' fun h3 fl3 up3 => ?_
    have J3 : Inv X pins σ' H' { s' with heap := h3 } := J.landed nb fl3.1 (up.trans up3) os ag
    obtain ⟨oe3, vs3, he3, hz3, hd3⟩ := fl3.there
    have notFr : ∀ {h : Heap} {o : Obj} {vs : Array Value}, h.FunFrames B (X.env :: X.outer) → h.get? a = some o → o.data = .fields vs → a ∉ frs (X.env :: X.outer) := fun {h o vs} ff e dd hm => by
      obtain ⟨_, o', e', hnf⟩ := ff.mem hm
      rw [e] at e'; cases e'
      exact hnf _ dd
    have nfr := notFr fl3.2.2.1 he3 hd3
    have nL : a ≠ X.env.locals := fun z => nfr (List.mem_filterMap.mpr ⟨X.env, List.mem_cons_self, by rw [hf, z]⟩)
    have nF : a ∉ X.fs := fun hm => by
      obtain ⟨e, he, q⟩ := List.mem_filterMap.mp hm
      exact nfr (List.mem_filterMap.mpr ⟨e, List.mem_cons_of_mem _ he, q⟩)
    have nI : sI.heap.get? a = none := by
      cases e : sI.heap.get? a with
      | none => rfl
      | some o =>
        have q := nb a o e (by rw [hs]; exact nfr)
        rw [fl3.2.1] at q
        cases q
    have n0 : X.s_0.heap.get? a = none := by
      cases e : X.s_0.heap.get? a with
      | none => rfl
      | some o =>
        obtain ⟨o', q⟩ := J.base.there a o e (by rw [hex]; exact fun z => nomatch z)
        rw [nI] at q
        cases q
    have npin : ∀ p ∈ X.pn ++ pins, p.1 ≠ a := fun p hp z => by
      have q := (J.pin p hp).1
      rw [z, nI] at q
      cases q
    have S3 := J3.suite he3 hd3 na nL nF
    refine wpAny_handleBy_cons (codeAny_handlers_test ?_) (by intro q; cases q)
    have LT : PySem.W.Looks (model X.prog X.w) h3 (typeOf (.ref a)) cls := fun A Q E s k q => wpAny_typeOf_ref (k _ _ he3) (by rw [hz3.1]; exact q)
    have LM := PySem.W.exm_one (M := model X.prog X.w) (J3.kIn) LT hb1
    have test : ∀ {Q : Value → Shared → Prop} {E : Value → Shared → Prop}, Q c { s' with heap := h3 } → wpAny (model X.prog X.w) (X.A.mark (some (.ref a))) (eval (.Name x np) X.env) Q E { s' with heap := h3 } := fun {Q E} q => by
      obtain ⟨hg, hdbg, hm | ⟨hm, hv, hnn⟩⟩ := hc
      · exact ld_glob (X := X.suite a ((a, oe3) :: (X.pn ++ pins))) S3 hg hm q hdbg
      · exact ld_blt (X := X.suite a ((a, oe3) :: (X.pn ++ pins))) S3 hg hm hv q hnn hdbg
    refine test (LM.here ?_)
    refine codeAny_handlers_suite_as ?_
    refine HandSPX.lands_againZ fl3 fun h4 fl4 up4 => ?_
    have J4 : Inv X pins σ' H' { s' with heap := h4 } := J.landed nb fl4.1 ((up.trans up3).trans up4) os ag
    obtain ⟨oe4, vs4, he4, hz4, hd4⟩ := fl4.there
    have S4 := J4.suite he4 hd4 na nL nF
    refine store_ok (X := X.suite a ((a, oe4) :: (X.pn ++ pins))) (v := .ref a) S4 hN hi hloc rfl (fun s5 S5 => ?_) (.inr hln)
    have st : PSs (X.suite a ((a, oe4) :: (X.pn ++ pins))) [.Assign [.Name m pm] (.Name n pnn) pa] _ := pss_one (ps_set (i := j) hN hj (.inl hlm) (pe_var (i := i) hi (.inl hln) hdn hcn) hsw (.inr hlm))
    have hl' : i < σ'.length := by rw [J.len]; exact hil
    refine wpAny_mono (st.run [] s5 _ H' { nx := fun σ6 H6 => σ6 = (σ'.set i (some (.ref a))).set j (some (.ref a)) ∧ H6 = H', rt := fun _ _ => False } S5 ⟨.ref a, by rw [List.getElem?_set_self hl'], rfl, rfl⟩) (fun f s6 hsp => ?_) (fun _ _ z => False.elim z)
    cases f with
    | next =>
      obtain ⟨σ6, H6, S6, rfl, rfl⟩ := hsp
      have pin6 := (S6.pin (a, oe4) (List.mem_append.mpr (.inl List.mem_cons_self)))
      have T6 := (S6.unsuite ok).track pin6.1 hz4 hd4 na n0 nL npin
      exact gone_ok T6 hN hi hln fun s7 J7 => ⟨_, _, J7, hyes J.len a na⟩
    | brk =>
      obtain ⟨_, _, _, q⟩ := hsp
      exact q.elim
    | cont =>
      obtain ⟨_, _, _, q⟩ := hsp
      exact q.elim
    | ret u =>
      obtain ⟨_, _, _, _, _, q⟩ := hsp
      exact q.elim
  · cases f with
    | next =>
      obtain ⟨σ', H', J', q⟩ := hsp
      exact wpAny_execs_nil ⟨σ', H', J'.ofTry ok, q⟩
    | brk =>
      obtain ⟨σ', H', J', q⟩ := hsp
      exact ⟨σ', H', J'.ofTry ok, q⟩
    | cont =>
      obtain ⟨σ', H', J', q⟩ := hsp
      exact ⟨σ', H', J'.ofTry ok, q⟩
    | ret u =>
      obtain ⟨v, σ', H', J', r, q⟩ := hsp
      exact ⟨v, σ', H', J'.ofTry ok, r, q⟩
end
/-- what becomes of the lambda's reading in: caught = None; try: work() except E as error: caught = error; return caught -/
def TCaught (K : PySem.W.Frag) (CS : Addr) : (XK → Hp → VK → Prop) → Hp → VK → Prop := fun tl H Q =>
  tl (fun cls d H' => PySem.W.exmOne K cls (.ref CS) = some true ∧ ∀ a, H' a = none → Q (.ref a) (upd H' a (ExcO cls d a))) H fun _ H' => Q .non H'
theorem caught_gives {X : Cx} {x a m n e q : Str} {sg : Scope} {g CS : Addr} {cdg : Value} {bg : List Stmt} {p0 p1 p2 p3 p4 p5 p6 p7 p8 p9 p10 p11 p12 p13 : Pos} {k0 : Nat}
    (hb : bg = [.Assign [.Name m p0] (.Constant .none k0 p1) p2, .Try [.Expr (.Call (.Name a p3) [] [] p4) p5] [.ExceptHandler (some (.Name e p6)) (some n) [.Assign [.Name m p7] (.Name n p8) p9] p10] [] [] p11, .Return (some (.Name m p12)) p13])
    (hge : sg.names.lookup e = some .globalImplicit) (hme : X.mg e = some (.ref CS)) (hde : (e == ("__debug__" : Str)) = false) (hm : sg.names.lookup m = some .local) (hn : sg.names.lookup n = some .local) (hN : [a, m, n].Nodup)
    (hdm : (m == ("__debug__" : Str)) = false) (hcm : (m == ("__classdict__" : Str)) = false) (hdn : (n == ("__debug__" : Str)) = false) (hcn : (n == ("__classdict__" : Str)) = false) :
    LamX.GivesTo X [a, m, n] x sg g cdg bg a q (TCaught X.K CS) := by
  intro f c' s H Q tl act hc h
  subst hb
  have hgl : Gl (cxOf C8.CX0 X.prog X.w X.K X.mg X.base [a, m, n] x sg g cdg X.A X.stack s H C8.E0).nox e := hge
  have b1 : PS (cxOf C8.CX0 X.prog X.w X.K X.mg X.base [a, m, n] x sg g cdg X.A X.stack s H C8.E0).nox (.Assign [.Name m p0] (.Constant .none k0 p1) p2) _ := ps_set (i := 1) hN rfl (.inl hm) pe_non
  have b2 : PS (cxOf C8.CX0 X.prog X.w X.K X.mg X.base [a, m, n] x sg g cdg X.A X.stack s H C8.E0).nox (.Try [.Expr (.Call (.Name a p3) [] [] p4) p5] [.ExceptHandler (some (.Name e p6)) (some n) [.Assign [.Name m p7] (.Name n p8) p9] p10] [] [] p11) _ :=
    ps_try_track (i := 2) (j := 1) (c := .ref CS) (tb := fun W D σ H => ∃ Ech : XK, (∀ cls d σ' H', Ech cls d H' → W cls d σ' H') ∧ σ[0]? = some (some (.ref f)) ∧ H c' = some (LamX.CodeO c' q) ∧ tl Ech H fun _ H' => D.nx σ H')
      rfl rfl rfl hN rfl rfl hn hm ⟨hgl, hde, .inl hme⟩ rfl hdn hcn (by show 2 < 3; decide) (fun W pn xe tk _ => by
        refine ⟨fun pins s' σ H' D I h' => ?_⟩
        obtain ⟨Ech, hW, h1, h2, h3⟩ := h'
        have hp := act W pn xe Ech p3 p4 tk hW
        exact (pss_one (ps_expr (pos := p5) hp)).run pins s' σ H' D I ⟨h1, h2, h3⟩)
  have b3 : PS (cxOf C8.CX0 X.prog X.w X.K X.mg X.base [a, m, n] x sg g cdg X.A X.stack s H C8.E0).nox (.Return (some (.Name m p12)) p13) _ := ps_ret (pe_var (i := 1) rfl (.inl hm) hdm hcm)
  refine ⟨_, pss_cons b1 (pss_cons b2 (pss_one b3)), ?_⟩
  refine ⟨fun cls d H' => PySem.W.exmOne X.K cls (.ref CS) = some true ∧ ∀ a, H' a = none → Q (.ref a) (upd H' a (ExcO cls d a)), fun cls d σ' H' h => ⟨h.1, fun hl p hp => ?_⟩, rfl, hc, ?_⟩
  · refine ⟨.ref p, ?_, h.2 p hp⟩
    match σ', hl with
    | [x0, x1, x2], _ => rfl
  · refine Eq.mpr (congrArg (tl _ H) (funext fun _ => funext fun H' => propext ⟨fun ⟨v, e, q⟩ => ?_, fun q => ⟨.non, rfl, q⟩⟩)) h
    cases (show some (some V.non) = some (some v) from e)
    exact q
end L2
namespace Dl
open PySem PySem.Spec PyProof.Rows L2
/-- caught(lambda: e) -/
def dCaught (K : PySem.W.Frag) (CS : Addr) (te : TED) (X : DXK) (ρ : Ro) (G : GH) (Q : DK) : Prop :=
  te (fun e _ G' => PySem.W.exmOne K (.ref e.C) (.ref CS) = some true ∧ e.fs = [] ∧ ∀ p, G' p = none → Q (.ref p) (gup G' p (.exc e.C []))) ρ G fun _ G' => Q .non G'
/-- the facts of the def that catches -/
structure CaughtI (K : PySem.W.Frag) (mg : Str → Option Value) (x : Str) (CS : Addr) : Prop where
  ex : ∃ (g : Addr) (pg : Arguments) (bg : List Stmt) (sg : Scope) (dV kV doc pm cdv ct oc : Value) (an od : Option Addr) (osl : Array (Option Value)) (a m n e : Str) (p0 p1 p2 p3 p4 p5 p6 p7 p8 p9 p10 p11 p12 p13 : Pos) (k0 : Nat),
    mg x = some (.ref g) ∧ PySem.W.keepIn K (.ref g) = true ∧ K.lookup g = some ⟨oc, od, .func (PySem.W.fnOf x x pg bg sg dV kV doc pm an cdv ct), osl⟩ ∧ PySem.W.codeIn K cdv x = true ∧ L2.Binds K (PySem.W.fnOf x x pg bg sg dV kV doc pm an cdv ct) [a] [] ∧ FnScope [a, m, n] [a] sg ∧ Vis sg a ∧
    bg = [.Assign [.Name m p0] (.Constant .none k0 p1) p2, .Try [.Expr (.Call (.Name a p3) [] [] p4) p5] [.ExceptHandler (some (.Name e p6)) (some n) [.Assign [.Name m p7] (.Name n p8) p9] p10] [] [] p11, .Return (some (.Name m p12)) p13] ∧
    sg.names.lookup e = some .globalImplicit ∧ mg e = some (.ref CS) ∧ (e == ("__debug__" : Str)) = false ∧ sg.names.lookup m = some .local ∧ sg.names.lookup n = some .local ∧
    (m == ("__debug__" : Str)) = false ∧ (m == ("__classdict__" : Str)) = false ∧ (n == ("__debug__" : Str)) = false ∧ (n == ("__classdict__" : Str)) = false ∧ (a == ("__debug__" : Str)) = false ∧ (a == ("__classdict__" : Str)) = false
section
variable {X : Cx} {Θ : AbsI} {W : WX} {k : Nat}
theorem lam_takes {A : Around} {outer : List Env} {s : Shared} {H : Hp} {E : XK} {scope : Scope} {f c' : Addr} : Takes (LamX.lamCx X A outer s H E scope f c') (fun cls d _ H => E cls d H) := takes_of rfl rfl rfl rfl
theorem de_caught {x : Str} {CS c P : Addr} {params : Arguments} {body : Expr} {scope : Scope} {te : TED} {p lpos pos : Pos} (C : CaughtI X.K X.mg x CS) (hg : Gl X x) (hdb : (x == ("__debug__" : Str)) = false)
    (TB : LamX.TabB X.base X.mg c P) (hcode : X.env.code = .ref c) (hmT : (P, X.env.qual ++ "<lambda>") ∈ Θ.T) (hu : ∀ p ∈ Θ.T, p.1 = P → p.2 = X.env.qual ++ "<lambda>") (hr : Room (k + 2) X.A) (L : LamX.LamS X.env.scope scope) (hdef : defaultsOf params X.env = ([], []))
    (hbind : ∀ (q : Str) (cl : List (Str × Addr)) (pm cv ctv : Value), bindArgs (PySem.W.kla_fn "<lambda>" q params body scope cl pm cv ctv) ⟨[], []⟩ = pure [])
    (hbody : ∀ (A : Around) (outer : List Env) (s : Shared) (H : Hp) (E : XK) (f c' : Addr), Room k (A.deeper (LamX.lamEnv X scope s.heap.objs.size f c')) → PE (LamX.lamCx X A outer s H E scope f c') body (lowE Θ X.K (fun cls d _ H => E cls d H) te)) :
    PE X (.Call (.Name x p) [.Lambda params body scope lpos] [] pos) (lowE Θ X.K W (dCaught X.K CS te)) := by
  obtain ⟨g, pg, bg, sg, dV, kV, doc, pm, cdv, ct, oc, an, od, osl, a, m, n, e, p0, p1, p2, p3, p4, p5, p6, p7, p8, p9, p10, p11, p12, p13, k0, f1, f2, f3, f4, f5, f6, f7, f8, f9, f10, f11, f12, f13, f14, f15, f16, f17, f18, f19⟩ := C.ex
  refine (LamX.pe_lamcall (TT := TCaught X.K CS) (t := fun E => lowE Θ X.K (fun cls d _ H => E cls d H) te) hg f1 f2 f3 f4 f5 f6 rfl f7 (caught_gives f8 f9 f10 f11 f12 f13 f6.nd f14 f15 f16 f17) TB hcode hmT hu hr L hdef hbind hbody hdb f18 f19).weak fun σ H R ⟨ρ, G, F, Q, DX, e, rr, h, x, k⟩ => ?_
  have tabs : LamX.Tabs Θ.T H := let ⟨own, r⟩ := rr; r.tab
  refine ⟨tabs, fun H1 eN T1 => ?_⟩
  have x1 : Ext X.K H H1 := ext_of_extN eN
  refine ⟨ρ, G, F, _, _, e.ext x1, rr.extN eN T1, h, fun cls d σ' H' ee ρ' G' e2 ex _ r2 q2 => ⟨?_, fun a ha => ?_⟩, fun v H' d G' e2 i2 r2 q2 => k _ _ _ _ (x1.trans e2) .non r2 q2⟩
  · obtain ⟨rfl, _⟩ := ex
    exact q2.1
  · obtain ⟨rfl, ex⟩ := ex
    obtain ⟨h1, h2, h3⟩ := q2
    have hd : d = none := by
      cases d with
      | none => rfl
      | some q => exact absurd h2 ex.1
    subst hd
    exact k _ _ _ _ ((x1.trans e2).trans (ext_upd_new ha)) .ref (r2.new (mo := .exc ee.C []) ha fun own => ⟨rfl, _, upd_same, fun h hh => hh⟩) (h3 a (r2.free ha).1)
end
end Dl

namespace Dl
open PySem PySem.Spec PyProof.Rows L2
/-! ### dict displays -/
def dPairs : List (TED × TED) → DXK → Ro → GH → (List (D × D) → GH → Prop) → Prop
  | [], _, _, G, Q => Q [] G
  | (tk, tv) :: r, X, ρ, G, Q => tk X ρ G fun x G1 => tv X ρ G1 fun y G2 => dPairs r X ρ G2 fun ps G3 => Q ((x, y) :: ps) G3
def keysD : List (D × D) → Option (List (Key × D))
  | [] => some []
  | (k, v) :: r => match keyD k, keysD r with
    | some k', some l => some ((k', v) :: l)
    | _, _ => none
def mergeD (kvs more : List (Key × D)) : List (Key × D) := more.foldl (fun acc kv => putD acc kv.1 kv.2) kvs
def dDisp (trs : List (TED × TED)) (X : DXK) (ρ : Ro) (G : GH) (Q : DK) : Prop := ∀ p, G p = none → dPairs trs X ρ (gup G p (.dct [])) fun ps G2 => G2 p = some (.dct []) ∧ ∃ kvs, keysD ps = some kvs ∧ Q (.ref p) (gup G2 p (.dct (mergeD [] kvs)))
def dDisp0 (X : DXK) (ρ : Ro) (G : GH) (Q : DK) : Prop := ∀ p, G p = none → Q (.ref p) (gup G p (.dct []))
section
variable {K : PySem.W.Frag} {H : Hp}
def IsP (K : PySem.W.Frag) (H : Hp) : List (D × D) → List (V × V) → Prop
  | [], ps => ps = []
  | (x, y) :: r, ps => ∃ v w q, ps = (v, w) :: q ∧ Is K H x v ∧ Is K H y w ∧ IsP K H r q
theorem keysD_is : ∀ {ds : List (D × D)} {ps : List (V × V)} {kvs : List (Key × D)}, keysD ds = some kvs → IsP K H ds ps → ∃ ws : List (Key × V), ps = ws.map (fun kv => (kV kv.1, kv.2)) ∧ IsK K H kvs ws ∧ kvs.length = ds.length
  | [], _, _, h, i => by cases h; exact ⟨[], i, rfl, rfl⟩
  | (x, y) :: r, _, kvs, h, i => by
    obtain ⟨v, w, q, rfl, i1, i2, i3⟩ := i
    unfold keysD at h
    split at h
    · rename_i k' l e1 e2
      cases h
      obtain ⟨ws, rfl, j1, j2⟩ := keysD_is e2 i3
      refine ⟨(k', w) :: ws, ?_, ⟨w, ws, rfl, i2, j1⟩, by simp [j2]⟩
      rw [List.map_cons, keyD_is i1 e1]
    · cases h
theorem IsK.merge : ∀ {more : List (Key × D)} {mw : List (Key × V)} {kvs : List (Key × D)} {ws : List (Key × V)}, IsK K H more mw → IsK K H kvs ws → IsK K H (mergeD kvs more) (mergeK ws mw)
  | [], _, _, _, h, h' => by rw [show _ = [] from h]; exact h'
  | (k, d) :: r, _, kvs, ws, h, h' => by
    obtain ⟨x, q, rfl, h2, h3⟩ := h
    exact IsK.merge (kvs := Dl.putD kvs k d) (ws := putK ws k x) (mw := q) h3 (IsK.putD h' k h2)
theorem IsP.ext {H' : Hp} (e : Ext K H H') : ∀ {ds : List (D × D)} {ps : List (V × V)}, IsP K H ds ps → IsP K H' ds ps
  | [], _, h => h
  | (x, y) :: r, _, h => by
    obtain ⟨v, w, q, h1, h2, h3, h4⟩ := h
    exact ⟨v, w, q, h1, Is.ext e x h2, Is.ext e y h3, IsP.ext e h4⟩
end
section
variable {X : Cx} {Θ : AbsI} {W : WX} {pos : Pos}
inductive PrOk (X : Cx) (Θ : AbsI) (W : WX) : List (Option Expr) → List Expr → List (TED × TED) → Prop where
  | nil : PrOk X Θ W [] [] []
  | cons {k v : Expr} {ks : List (Option Expr)} {vs : List Expr} {tk tv : TED} {r : List (TED × TED)} (hk : PE X k (lowE Θ X.K W tk)) (hv : PE X v (lowE Θ X.K W tv)) (hr : PrOk X Θ W ks vs r) : PrOk X Θ W (some k :: ks) (v :: vs) ((tk, tv) :: r)
def lowPr (Θ : AbsI) (K : PySem.W.Frag) (W : WX) (trs : List (TED × TED)) : List (TE × TE) := trs.map fun p => (lowE Θ K W p.1, lowE Θ K W p.2)
theorem PrOk.pps {ks : List (Option Expr)} {vs : List Expr} {trs : List (TED × TED)} (h : PrOk X Θ W ks vs trs) : PPs X pos ks vs (lowPr Θ X.K W trs) := by
  induction h with
  | nil => exact pps_nil
  | cons hk hv _ ih => exact pps_cons hk hv ih
theorem PrOk.all {ks : List (Option Expr)} {vs : List Expr} {trs : List (TED × TED)} (h : PrOk X Θ W ks vs trs) : ks.all (·.isSome) = true ∧ ks.length = vs.length ∧ trs.length = ks.length := by
  induction h with
  | nil => exact ⟨rfl, rfl, rfl⟩
  | cons _ _ _ ih => exact ⟨by rw [List.all_cons, ih.1]; rfl, by rw [List.length_cons, List.length_cons, ih.2.1], by rw [List.length_cons, List.length_cons, ih.2.2]⟩
theorem pairs_low : ∀ (trs : List (TED × TED)) {σ : L2.St} {H : Hp} {ρ : Ro} {G : GH} {F : Hp} {DX : DXK} {Q : List (D × D) → GH → Prop} {R : List (V × V) → Hp → Prop}, EnvIs X.K H ρ σ → Rep Θ X.K H G F → XTo Θ X.K W DX H F → dPairs trs DX ρ G Q →
    (∀ ps H' ds G', Ext X.K H H' → IsP X.K H' ds ps → ds.length = trs.length → Rep Θ X.K H' G' F → Q ds G' → R ps H') → tPairs (lowPr Θ X.K W trs) σ H R
  | [], σ, H, ρ, G, F, DX, Q, R, e, r, x, h, k => k _ _ _ _ Ext.refl (show IsP X.K H [] [] from rfl) rfl r h
  | (tk, tv) :: trs, σ, H, ρ, G, F, DX, Q, R, e, r, x, h, k => by
    refine lowE_mk e r x h fun v H1 d G1 e1 i1 r1 q1 => lowE_mk (e.ext e1) r1 (x.ext e1) q1 fun w H2 d2 G2 e2 i2 r2 q2 => ?_
    refine pairs_low trs (e.ext (e1.trans e2)) r2 (x.ext (e1.trans e2)) q2 fun ps H3 ds G3 e3 i3 l3 r3 q3 => ?_
    exact k ((v, w) :: ps) H3 ((d, d2) :: ds) G3 (e1.trans (e2.trans e3)) ⟨v, w, ps, rfl, i1.ext (e2.trans e3) d, i2.ext e3 d2, i3⟩ (by rw [List.length_cons, l3, List.length_cons]) r3 q3
theorem de_disp {ks : List (Option Expr)} {vs : List Expr} {trs : List (TED × TED)} (h : PrOk X Θ W ks vs trs) (h0 : ks ≠ []) (h15 : ks.length ≤ 15) : PE X (.Dict ks vs pos) (lowE Θ X.K W (dDisp trs)) :=
  (pe_disp (h.pps (pos := pos)) h.all.1 h.all.2.1 h0 h15).weak fun σ H R ⟨ρ, G, F, Q, DX, e, rr, hh, x, k⟩ p hp => by
    have x1 : Ext X.K H (upd H p (.dK [])) := ext_upd_new hp
    have r1 : Rep Θ X.K (upd H p (.dK [])) (gup G p (.dct [])) F := rr.new hp fun own => .dct upd_same (show IsK X.K _ ([] : List (Key × D)) [] from rfl)
    refine pairs_low trs (e.ext x1) r1 (x.ext x1) (hh p (rr.free hp).1) fun ps H2 ds G2 e2 i2 l2 r2 q2 => ?_
    obtain ⟨g1, kvs, g2, g3⟩ := q2
    obtain ⟨ws, rfl, j1, j2⟩ := keysD_is g2 i2
    obtain ⟨w0, t1, t2⟩ := r2.dct g1
    have e0 : w0 = [] := t2
    subst e0
    have x3 : Ext X.K H2 (upd H2 p (.dK (mergeK [] ws))) := ext_upd_mut t1 trivial
    refine ⟨t1, ws, rfl, by rw [j1.len, j2, l2, h.all.2.2]; exact h15, ?_⟩
    exact k _ _ _ _ (x1.trans (e2.trans x3)) .ref (r2.write g1 t1 trivial fun own _ => .dct upd_same (IsK.ext x3 (IsK.merge (kvs := []) j1 rfl))) g3
theorem de_disp0 : PE X (.Dict [] [] pos) (lowE Θ X.K W dDisp0) :=
  pe_dnewK.weak fun σ H R ⟨ρ, G, F, Q, DX, e, rr, hh, x, k⟩ p hp =>
    k _ _ _ _ (ext_upd_new hp) .ref (rr.new hp fun own => .dct upd_same (show IsK X.K _ ([] : List (Key × D)) [] from rfl)) (hh p (rr.free hp).1)
end
end Dl

namespace Dl
open PySem PySem.Spec PyProof.Rows L2
/-! ### further constructs -/
def isBlt : GV → Bool
  | .blt => true
  | _ => false
def rOr : R2D
  | .int i, .int j, G, Q => Q (.int (Builtin.bitOr i j)) G
  | _, _, _, _ => False
/-- list(range(..)) -/
def dLRg1 (g1 g2 : GV) (ta : TED) (X : DXK) (ρ : Ro) (G : GH) (Q : DK) : Prop := isBlt g1 = true ∧ isBlt g2 = true ∧ ta X ρ G fun x G1 => match x with
  | .int j => (-1000000 ≤ j ∧ j ≤ 1000000) ∧ ∀ p, G1 p = none → Q (.ref p) (gup G1 p (.lst (rangeD 0 j.toNat)))
  | _ => False
/-- xs[::-1] -/
def dRev (ta : TED) (X : DXK) (ρ : Ro) (G : GH) (Q : DK) : Prop := ta X ρ G fun x G1 => ∃ ds, lstOf G1 x = some ds ∧ ∀ p, G1 p = none → Q (.ref p) (gup G1 p (.lst ds.reverse))
theorem IsL.rev {K : PySem.W.Frag} {H : Hp} : ∀ {ds : List D} {xs : List V}, IsL K H ds xs → IsL K H ds.reverse xs.reverse
  | [], _, h => by rw [show _ = [] from h]; rfl
  | d :: ds, _, h => by
    obtain ⟨x, r, rfl, h2, h3⟩ := h
    rw [List.reverse_cons, List.reverse_cons]
    exact (IsL.rev h3).snoc h2
theorem IsL.range {K : PySem.W.Frag} {H : Hp} (b : Int) : IsL K H (rangeD 0 b.toNat) (rgV 0 b) := by
  unfold rangeD rgV
  rw [Int.sub_zero]
  generalize List.range b.toNat = l
  induction l with
  | nil => rfl
  | cons i l ih => exact .cons .int ih
section
variable {X : Cx} {Θ : AbsI} {W : WX} {k : Nat}
theorem od_or : OpR X (binaryOp .BitOr) (lowR2 Θ X.K rOr) := by
  intro pins s σ H x y v u R I rx ry ⟨G, F, d, e, Q, rep, hd, he, h, k⟩
  cases d with
  | int i =>
    cases e with
    | int j => exact op_or pins s σ H x y v u R I rx ry ⟨i, j, hd, he, k _ _ _ _ Ext.refl .int rep h⟩
    | _ => exact h.elim
  | _ => exact h.elim
theorem blt_none {Γ : GEnv} {x : Str} (ok : GOk Θ X k Γ) (h : isBlt (Γ.g x) = true) : X.mg x = none := by
  have hm := ok.g x
  have : Γ.g x = .blt := by cases e : Γ.g x <;> rw [e] at h <;> first | rfl | cases h
  rw [this] at hm
  exact hm
theorem de_lrg1 {Γ : GEnv} {p p2 pos pos2 : Pos} {a : Expr} {ta : TED} (ok : GOk Θ X k Γ) (hc : X.calm = true) (hl : Gl X "list") (hr : Gl X "range") (ha : PE X a (lowE Θ X.K W ta)) (hs : plS a = true) :
    PE X (.Call (.Name "list" p) [.Call (.Name "range" p2) [a] [] pos2] [] pos) (lowE Θ X.K W (dLRg1 (Γ.g "list") (Γ.g "range") ta)) :=
  ⟨fun pins s σ H R I ⟨ρ, G, F, Q, DX, e, rr, ⟨b1, b2, h⟩, x, kk⟩ => by
    refine (pe_listRg hc hl (blt_none ok b1) (prg_1 hr (blt_none ok b2) ha (star_cons hs)) rfl).run pins s σ H R I ?_
    refine lowE_mk e rr x h fun v H1 d G1 e1 i1 r1 q1 => ?_
    cases d with
    | int j =>
      obtain ⟨⟨l1, l2⟩, q1⟩ := q1
      refine ⟨j, i1, ⟨by omega, by omega, by omega, by omega, by omega⟩, fun p hp => ?_⟩
      exact kk _ _ _ _ (e1.trans (ext_upd_new hp)) .ref (r1.new hp fun own => .lst upd_same (IsL.range j)) (q1 p (r1.free hp).1)
    | _ => exact q1.elim⟩
theorem de_rev {e : Expr} {ta : TED} {kk : Nat} {p1 p2 p3 pos : Pos} (he : PE X e (lowE Θ X.K W ta)) : PE X (.Subscript e (.Slice none none (some (.UnaryOp .USub (.Constant (.int 1) kk p1) p2)) p3) pos) (lowE Θ X.K W (dRev ta)) :=
  (pe_revL he).weak fun σ H R ⟨ρ, G, F, Q, DX, e, rr, h, x, k⟩ => lowE_mk e rr x h fun v H1 d G1 e1 i1 r1 q1 => by
    obtain ⟨ds, hd, q1⟩ := q1
    obtain ⟨a, xs, rfl, rfl, h1, h2⟩ := r1.lstOf hd i1
    refine ⟨a, xs, rfl, h1, fun p hp => ?_⟩
    exact k _ _ _ _ (e1.trans (ext_upd_new hp)) .ref (r1.new hp fun own => .lst upd_same (IsL.ext (ext_upd_new hp) _ h2.rev)) (q1 p (r1.free hp).1)
end
end Dl

/-! sorted of tuples of ints and texts -/
namespace Dl
open PySem PySem.Spec PyProof.Rows L2
def kyl (a b : Key) : Bool := match a, b with
  | .inl i, .inl j => decide (i < j)
  | .inr x, .inr y => decide (x.cps.toList < y.cps.toList)
  | .inl _, .inr _ => true
  | .inr _, .inl _ => false
def ksl : List Key → List Key → Bool
  | _, [] => false
  | [], _ :: _ => true
  | a :: r, b :: q => if a = b then ksl r q else kyl a b
theorem kyl_asym {a b : Key} (h : kyl a b = true) : kyl b a = false := by
  cases a with
  | inl i => cases b with
    | inl j => simp only [kyl, decide_eq_true_eq, decide_eq_false_iff_not] at h ⊢; omega
    | inr y => rfl
  | inr x => cases b with
    | inl j => cases h
    | inr y => simp only [kyl, decide_eq_true_eq, decide_eq_false_iff_not] at h ⊢; exact List.lt_asymm h
theorem kyl_trans {a b c : Key} (h : kyl a b = true) (h2 : kyl b c = true) : kyl a c = true := by
  cases a with
  | inl i => cases b with
    | inl j => cases c with
      | inl l => simp only [kyl, decide_eq_true_eq] at h h2 ⊢; omega
      | inr z => rfl
    | inr y => cases c with
      | inl l => cases h2
      | inr z => rfl
  | inr x => cases b with
    | inl j => cases h
    | inr y => cases c with
      | inl l => cases h2
      | inr z => simp only [kyl, decide_eq_true_eq] at h h2 ⊢; exact List.lt_trans h h2
theorem kyl_tri {a b : Key} (h : kyl a b = false) (h2 : kyl b a = false) : a = b := by
  cases a with
  | inl i => cases b with
    | inl j => simp only [kyl, decide_eq_false_iff_not] at h h2; congr 1; omega
    | inr y => cases h
  | inr x => cases b with
    | inl j => cases h2
    | inr y =>
      simp only [kyl, decide_eq_false_iff_not] at h h2
      have e : x.cps.toList = y.cps.toList := List.le_antisymm (List.not_lt.mp h2) (List.not_lt.mp h)
      obtain ⟨⟨x⟩⟩ := x
      obtain ⟨⟨y⟩⟩ := y
      simp only at e
      rw [e]
theorem ksl_asym : ∀ {a b : List Key}, ksl a b = true → ksl b a = false
  | [], [], _ => rfl
  | [], _ :: _, _ => rfl
  | _ :: _, [], h => by cases h
  | a :: r, b :: q, h => by
    unfold ksl at h ⊢
    split at h
    · rename_i e
      rw [if_pos e.symm]
      exact ksl_asym h
    · rename_i e
      rw [if_neg (fun z => e z.symm)]
      exact kyl_asym h
theorem ksl_trans : ∀ {a b c : List Key}, ksl a b = true → ksl b c = true → ksl a c = true
  | _, [], _, h, _ => by unfold ksl at h; cases h
  | _, _ :: _, [], _, h => by cases h
  | [], _ :: _, _ :: _, _, _ => rfl
  | a :: r, b :: q, c :: p, h, h2 => by
    unfold ksl at h h2 ⊢
    by_cases e : a = b
    · subst e
      rw [if_pos rfl] at h
      by_cases e2 : a = c
      · rw [if_pos e2] at h2 ⊢
        exact ksl_trans h h2
      · rw [if_neg e2] at h2 ⊢
        exact h2
    · rw [if_neg e] at h
      by_cases e2 : b = c
      · subst e2
        rw [if_neg e]
        exact h
      · rw [if_neg e2] at h2
        have t := kyl_trans h h2
        have n : a ≠ c := fun z => by subst z; rw [kyl_asym h] at h2; cases h2
        rw [if_neg n]
        exact t
theorem ksl_tri : ∀ {a b : List Key}, ksl a b = false → ksl b a = false → a = b
  | [], [], _, _ => rfl
  | [], _ :: _, h, _ => by cases h
  | _ :: _, [], _, h => by cases h
  | a :: r, b :: q, h, h2 => by
    unfold ksl at h h2
    by_cases e : a = b
    · subst e
      rw [if_pos rfl] at h h2
      rw [ksl_tri h h2]
    · rw [if_neg e] at h
      rw [if_neg (fun z => e z.symm)] at h2
      exact absurd (kyl_tri h h2) e
theorem ksl_swo {α : Type} (f : α → List Key) : SrtO.Swo fun v u => ksl (f v) (f u) := ⟨fun x y h => ksl_asym h, fun x y z h1 h2 => by
  cases e : ksl (f z) (f x) with
  | false => rfl
  | true =>
    cases e2 : ksl (f x) (f y) with
    | true => rw [ksl_trans e e2] at h2; cases h2
    | false =>
      rw [ksl_tri h1 e2] at h2
      rw [h2] at e; cases e⟩
def kyS : Key → Bool
  | .inl _ => true
  | .inr _ => false
/-- a tuple of keys in the heap -/
def TupK (h : Heap) (v : Value) (ks : List Key) : Prop := ∃ a its, v = .ref a ∧ IsTup h a its ∧ Vals (ks.map kV) its.toList
theorem TupK.keeps {h h' : Heap} {v : Value} {ks : List Key} (x : TupK h v ks) (k : ∀ b o, h.get? b = some o → o.cls = .type "tuple" → h'.get? b = some o) : TupK h' v ks := by
  obtain ⟨a, its, e, ⟨o, ho, hc, hd⟩, i⟩ := x
  exact ⟨a, its, e, ⟨o, k _ _ ho hc, hc, hd⟩, i⟩
section
variable {prog : Program} {w : World} {A : Around} {E : Value → Shared → Prop} {s : Shared}
theorem key_eq {a b : Key} {u v : Value} (ru : RelV (kV a) u) (rv : RelV (kV b) v) (hk : kyS a = kyS b) {Q : Bool → Shared → Prop} (h : Q (decide (a = b)) s) : wpAny (model prog w) A (eqBool u v) Q E s := by
  cases a <;> cases b <;> simp only [kyS] at hk <;> first | (cases hk; done) | skip
  · obtain ⟨t, rfl⟩ := ru
    obtain ⟨t', rfl⟩ := rv
    rename_i i j
    refine SeqAt.EqAt.int_int i t j t' prog w _ _ ?_
    have e : (i == j) = decide ((Sum.inl i : Key) = Sum.inl j) := by rw [Bool.eq_iff_iff, beq_iff_eq, decide_eq_true_eq]; exact ⟨fun z => by rw [z], fun z => by cases z; rfl⟩
    rw [e]; exact h
  · obtain ⟨t, rfl⟩ := ru
    obtain ⟨t', rfl⟩ := rv
    rename_i i j
    refine SeqAt.EqAt.str_str i t j t' prog w _ _ ?_
    have e : (i == j) = decide ((Sum.inr i : Key) = Sum.inr j) := by rw [Bool.eq_iff_iff, beq_iff_eq, decide_eq_true_eq]; exact ⟨fun z => by rw [z], fun z => by cases z; rfl⟩
    rw [e]; exact h
theorem key_lt {a b : Key} {u v : Value} (c : Bool) (ru : RelV (kV a) u) (rv : RelV (kV b) v) (hk : kyS a = kyS b) {Q : Bool → Shared → Prop} (h : Q (kyl a b) s) : wpAny (model prog w) A (oneLt' c u v) Q E s := by
  cases a <;> cases b <;> simp only [kyS] at hk <;> first | (cases hk; done) | skip
  · obtain ⟨t, rfl⟩ := ru
    obtain ⟨t', rfl⟩ := rv
    cases c with
    | true => exact oneLt_int h
    | false => exact PySem.W.kat_one _ _ (PyProof.Rows.lt_int (Q := PySem.W.BoolBack Q) h)
  · obtain ⟨t, rfl⟩ := ru
    obtain ⟨t', rfl⟩ := rv
    cases c with
    | true => exact oneLt_str h
    | false => exact PySem.W.kat_one _ _ (PyProof.Rows.lt_str (Q := PySem.W.BoolBack Q) h)
theorem lex_keys {b : Bool} {Q : Bool → Shared → Prop} : ∀ {ks ls : List Key} {us vs : List Value} (i : Nat), Vals (ks.map kV) us → Vals (ls.map kV) vs → ks.map kyS = ls.map kyS → Q (ksl ks ls) s → PySem.W.KatLex prog w A b false Q (us.zip vs) i s
  | [], [], _, _, _, .nil, .nil, _, h => PySem.W.kat_nil h
  | [], _ :: _, _, _, _, _, _, hk, _ => by cases hk
  | _ :: _, [], _, _, _, _, _, hk, _ => by cases hk
  | a :: ks, c :: ls, u :: us, v :: vs, i, .cons ru rus, .cons rv rvs, hk, h => by
    simp only [List.map_cons, List.cons.injEq] at hk
    show PySem.W.KatLex prog w A b false Q ((u, v) :: us.zip vs) i s
    refine PySem.W.kat_cons (key_eq ru rv hk.1 ?_)
    refine PySem.W.kat_go (fun e => ?_) (fun e => ?_)
    · have e : a = c := of_decide_eq_true e
      refine PySem.W.kat_yes (lex_keys (i + 1) rus rvs hk.2 ?_)
      unfold ksl at h
      rw [if_pos e] at h
      exact h
    · have e : a ≠ c := of_decide_eq_false e
      refine PySem.W.kat_no (key_lt _ ru rv hk.1 ?_)
      unfold ksl at h
      rw [if_neg e] at h
      exact h
theorem keys_cmp {vs : List Value} {f : Value → List Key} {κ : List Bool} {b : Bool} (hp : ∀ v ∈ vs, TupK s.heap v (f v) ∧ (f v).map kyS = κ) : SrtO.Cmp prog w A s (tuples' b) (fun p => p.1 ∈ vs) (SrtO.lt2 fun v u => ksl (f v) (f u)) := by
  intro p q hm hm'
  obtain ⟨⟨a, xs, e, ⟨o, ho, hc, n, hd⟩, i⟩, h1⟩ := hp _ hm
  obtain ⟨⟨a', ys, e', ⟨o', ho', hc', n', hd'⟩, i'⟩, h2⟩ := hp _ hm'
  show wpAny (model prog w) A (keyLt' (tuples' b) p.1 q.1) (fun r s' => s' = s ∧ r = ksl (f p.1) (f q.1)) (fun _ _ => False) s
  generalize f p.1 = ks at i h1 ⊢
  generalize f q.1 = ls at i' h2 ⊢
  rw [e, e']
  refine PySem.W.kat_lt ho hd ho' hd' ?_
  have l1 := i.length
  have l2 := i'.length
  have l3 : ks.length = ls.length := by
    have := congrArg List.length (h1.trans h2.symm)
    simpa using this
  simp only [List.length_map, Array.length_toList] at l1 l2
  rw [show decide (xs.size < ys.size) = false from decide_eq_false (by omega)]
  exact lex_keys 0 i i' (h1.trans h2.symm) ⟨rfl, rfl⟩
theorem firstsK {f : Value → List Key} {κ : List Bool} {c : Bool} : ∀ {vs : List Value}, (∀ v ∈ vs, TupK s.heap v (f v) ∧ (f v).map kyS = c :: κ) → ∃ fs : List Value, PySem.W.KatTups s.heap vs fs ∧ fs.length = vs.length ∧ ∀ u ∈ fs, ∃ a : Key, RelV (kV a) u ∧ kyS a = c
  | [], _ => ⟨[], PySem.W.KatTups.nil, rfl, fun _ hm => by simp at hm⟩
  | v :: vs, hp => by
    obtain ⟨fs, h1, h2, h3⟩ := firstsK (vs := vs) fun v' hm => hp v' (List.mem_cons_of_mem _ hm)
    obtain ⟨⟨a, xs, e, ⟨o, ho, hc, n, hd⟩, i⟩, hk⟩ := hp v (List.mem_cons_self ..)
    cases q : f v with
    | nil => rw [q] at hk; cases hk
    | cons k ks =>
      rw [q] at hk i
      simp only [List.map_cons, List.cons.injEq] at hk
      cases e2 : xs.toList with
      | nil => rw [e2] at i; cases i
      | cons u us =>
        rw [e2] at i
        cases i with
        | cons r _ =>
          subst e
          refine ⟨u :: fs, PySem.W.KatTups.cons ho hc hd ?_ h1, by rw [List.length_cons, List.length_cons, h2], fun u' hm => ?_⟩
          · have z := congrArg (fun l : List Value => l[0]?) e2
            simpa using z
          · rcases List.mem_cons.mp hm with rfl | hm
            · exact ⟨k, r, hk.1⟩
            · exact h3 u' hm
theorem keys_sortable {a : Addr} {vs : List Value} {f : Value → List Key} {κ : List Bool} {c : Bool} (h0 : 0 < vs.length) (hp : ∀ v ∈ vs, TupK s.heap v (f v) ∧ (f v).map kyS = c :: κ) (ha : ∀ o, s.heap.get? a = some o → o.cls ≠ .type "tuple") :
    SrtO.SortableO prog w A s a vs fun v u => ksl (f v) (f u) := by
  intro h' keep
  have hp' : ∀ v ∈ vs, TupK h' v (f v) ∧ (f v).map kyS = c :: κ := fun v hm => ⟨(hp v hm).1.keeps fun b o e cc => keep b o (fun z => by subst z; exact ha o e cc) e, (hp v hm).2⟩
  obtain ⟨fs, h1, h2, h3⟩ := firstsK (s := { s with heap := h' }) hp'
  refine ⟨tuples' true, fun Q E hq => ?_, keys_cmp hp'⟩
  cases c with
  | true =>
    refine PySem.W.kat_kind (T := .type "int") h1 (by omega) (fun u hm => ?_) (by rfl) ?_
    · obtain ⟨k, r, e⟩ := h3 u hm
      cases k with
      | inl i => obtain ⟨t, rfl⟩ := r; exact PySem.W.Looks.now
      | inr x => cases e
    · rw [show (Value.type "int" != Value.type "tuple") = true by decide +kernel]
      exact hq
  | false =>
    refine PySem.W.kat_kind (T := .type "str") h1 (by omega) (fun u hm => ?_) (by rfl) ?_
    · obtain ⟨k, r, e⟩ := h3 u hm
      cases k with
      | inl i => cases e
      | inr x => obtain ⟨t, rfl⟩ := r; exact PySem.W.Looks.now
    · rw [show (Value.type "str" != Value.type "tuple") = true by decide +kernel]
      exact hq
/-- the heap behind a collecting -/
def colH (h : Heap) (vs : List Value) : Heap := (h.push (seqObj "list" #[] 0)).update h.objs.size (Obj.mapSeq (· ++ vs.toArray))
theorem collectT {it : Addr} {o : Obj} {vs : List Value} {n : Nat} {Q : List Value → Shared → Prop} (hob : s.heap.get? it = some o) (hcl : o.cls = .type "tuple") (hda : o.data = .seq vs.toArray n) (hz : vs.length ≤ sizeLine)
    (hQ : Q vs { s with heap := colH s.heap vs }) : wpAny (model prog w) A (collect (.ref it)) Q E s := by
  unfold collect
  refine wpAny_bind (wpAny_runValue (codeAny_builtin F.entry_proto_collect ?_))
  rw [Around.under_plainId F.plain_proto_collect _]
  show wpAny _ A.in1 (newList [] >>= fun q => again (.builtin "list.__iadd__" ⟨[q, .ref it], []⟩)) _ _ s
  refine wpAny_bind (wpAny_newObj_type ?_)
  refine wpAny_pure ⟨plainId_quiet F.plain_list_iadd _, codeAny_builtin F.entry_list_iadd ?_⟩
  rw [Around.under_plainId F.plain_list_iadd _]
  show wpAny _ A.in1 (Builtin.List.listExtendWith (.ref s.heap.objs.size) (.ref it) (.ref s.heap.objs.size)) _ _ _
  have new1 : (s.heap.push (seqObj "list" #[] 0)).get? s.heap.objs.size = some (seqObj "list" #[] 0) := Heap.get?_push_size _ rfl
  have new2 := Heap.get?_update_self (Obj.mapSeq (· ++ vs.toArray)) new1 rfl
  have rest : wpAny (model prog w) A (match Value.ref s.heap.objs.size with
      | Value.ref q => do
        match (← load q).data with
          | Data.seq ys _ => pure ys.toList
          | _ => unsupported "internal:collect"
      | _ => unsupported "internal:collect") Q E { s with heap := colH s.heap vs } := by
    show wpAny _ A (load s.heap.objs.size >>= _) _ _ _
    refine wpAny_bind (wpAny_load new2 (wpAny_pure ?_))
    show Q ((#[] : Array Value) ++ vs.toArray).toList _
    rw [show ((#[] : Array Value) ++ vs.toArray).toList = vs by simp]
    exact hQ
  refine wpAny_mono (wpAny_extend_seq (hsz := by simpa using hz) (A := A) (R := fun r s2 => r = .ok (.ret (.ref s.heap.objs.size)) ∧ s2 = { s with heap := colH s.heap vs })
    (s := { s with heap := s.heap.push (seqObj "list" #[] 0) }) _ it _ 0 (.inr rfl) new1 (Heap.get?_push_of_some _ hob) hcl hda ⟨rfl, rfl⟩) (fun fin s2 hh => ?_) (fun e s2 hh => absurd hh.1 (by simp))
  cases fin with
  | done f =>
    obtain ⟨e, rfl⟩ := hh
    cases e
    exact rest
  | again c2 => exact ⟨hh.1, codeAny_mono hh.2 fun r s3 hr => by obtain ⟨rfl, rfl⟩ := hr; exact rest⟩
/-- sorted(x), x a list or a tuple -/
theorem sorted_of {l : Addr} {vs : List Value} {ltv : Value → Value → Bool} {Q : Value → Shared → Prop} (O : SrtO.Swo ltv) (hcol : ∀ (A : Around) (E : Value → Shared → Prop) (R : List Value → Shared → Prop), R vs { s with heap := colH s.heap vs } → wpAny (model prog w) A (collect (.ref l)) R E s) (hz : vs.length ≤ sizeLine)
    (hS : 2 ≤ vs.length → ∀ (h₁ : Heap) (a : Addr), h₁.get? a = some (seqObj "list" vs.toArray 0) → (∀ b o, s.heap.get? b = some o → b ≠ a ∧ h₁.get? b = some o) → SrtO.SortableO prog w A.in1.in1 { s with heap := h₁ } a vs ltv)
    (h : ∀ out : List Value, SrtO.Srtd ltv out → SrtO.Stb ltv out vs → Q (.ref (s.heap.objs.size + 1)) { s with heap := sortedAll s.heap vs out.toArray }) :
    wpAny (model prog w) A (call (.builtin "sorted") [.ref l]) Q E s := by
  refine Calls.call_function_entry kind_sorted plain_sorted entry_sorted (args_sorted1 _) ?_
  unfold Builtin.«sorted»
  refine wpAny_bind (m := checkCount "sorted" 1 1 _) (wpAny_pure (wpAny_bind (hcol _ _ _ (wpAny_bind (wpAny_newList ?_ hz)))))
  have hsz : (colH s.heap vs).objs.size = s.heap.objs.size + 1 := by
    unfold colH
    rw [Heap.size_update, size_push']
  have hoL : ((colH s.heap vs).push (seqObj "list" vs.toArray 0)).get? (s.heap.objs.size + 1) = some (seqObj "list" vs.toArray 0) := by
    rw [← hsz]; exact Heap.get?_push_size _ rfl
  have keep : ∀ b o, s.heap.get? b = some o → b ≠ s.heap.objs.size + 1 ∧ ((colH s.heap vs).push (seqObj "list" vs.toArray 0)).get? b = some o := fun b o q => by
    have hb : b < s.heap.objs.size := Heap.lt_size q
    refine ⟨Nat.ne_of_lt (Nat.lt_succ_of_lt hb), Heap.get?_push_of_some _ ?_⟩
    unfold colH
    rw [Heap.get?_update_ne _ _ _ _ (Nat.ne_of_lt hb)]
    exact Heap.get?_push_of_some _ q
  show wpAny _ _ _ _ _ { s with heap := (colH s.heap vs).push (seqObj "list" vs.toArray 0) }
  rw [hsz]
  exact wpAny_bind (wpAny_holding (wpAny_call_entry slot_list_sort ⟨_, hoL, rfl⟩ entry_list_sort (SrtO.list_sort_ord O hoL hz (fun h2 => hS h2 _ _ hoL keep) fun out hs hb => ⟨_, rfl, wpAny_pure ⟨_, rfl, h out hs hb⟩⟩) (args_list_sort _)))
end
/-! ### as a rule of the layer -/
/-- sorted(x), x a list or a tuple of tuples of ints and texts -/
def rSrtK (K : PySem.W.Frag) : List V → Hp → VK → Prop := fun vs H Q => ∃ (a : Addr) (xs : List V) (g : V → List Key) (κ : List Bool) (c : Bool), vs = [V.ref a] ∧ (SqL K H a xs ∨ SqT K H a xs) ∧ (∀ x ∈ xs, (∃ t, x = V.ref t ∧ SqT K H t ((g x).map kV)) ∧ (g x).map kyS = c :: κ) ∧
  ∀ (ys : List V) (p : Addr), ys.Perm xs → ys.Pairwise (fun x y => ksl (g y) (g x) = false) → H p = none → Q (.ref p) (upd H p (.lst ys))
section
variable {X : Cx}
theorem cr_srtK : CallR X (.builtin "sorted") (rSrtK X.K) := by
  intro pins s σ H vs us Q I r h
  obtain ⟨a, xs, g, κ, c, rfl, hs, hx, q⟩ := h
  rw [Vals.ref1 r]
  obtain ⟨its, rv, hz, hcol⟩ : ∃ its : List Value, Vals xs its ∧ xs.length ≤ sizeLine ∧ ∀ (A : Around) (E : Value → Shared → Prop) (R : List Value → Shared → Prop), R its { s with heap := colH s.heap its } → wpAny (model X.prog X.w) A (collect (.ref a)) R E s := by
    rcases hs with hs | hs
    · obtain ⟨its, rv, hl, hz⟩ := I.list hs
      exact ⟨its, rv, hz, fun A E R hR => collect_list hl.isList hR (by rw [← rv.length]; exact hz)⟩
    · obtain ⟨its, rv, ⟨o, ho, hc, n, hd⟩, hz⟩ := I.tuple hs
      exact ⟨its, rv, hz, fun A E R hR => collectT ho hc hd (by rw [← rv.length]; exact hz) hR⟩
  obtain ⟨e1, e2⟩ := bkV_refs rv fun x m => by
    obtain ⟨⟨t, e, _⟩, _⟩ := hx x m
    exact ⟨t, e⟩
  have hz' : its.length ≤ sizeLine := by rw [← rv.length]; exact hz
  refine sorted_of (ksl_swo fun u => g (bkV u)) hcol hz' (fun h2 h1 a1 ha kk => ?_) fun out hs1 hb => ?_
  · refine keys_sortable (s := { s with heap := h1 }) (κ := κ) (c := c) (by omega) (fun v hv => ?_) fun o e => ?_
    · obtain ⟨t, rfl⟩ := e2 v hv
      have hm : V.ref t ∈ xs := by rw [e1]; exact List.mem_map.mpr ⟨_, hv, rfl⟩
      obtain ⟨⟨t', e, ht⟩, hk⟩ := hx _ hm
      cases e
      obtain ⟨its2, r2, ⟨o2, ho2, hc2, n2, hd2⟩, _⟩ := I.tuple ht
      exact ⟨⟨t, its2.toArray, rfl, ⟨o2, (kk _ _ ho2).2, hc2, n2, hd2⟩, by show Vals ((g (V.ref t)).map kV) its2.toArray.toList; simpa using r2⟩, hk⟩
    · have e' : some o = some (seqObj "list" its.toArray 0) := e.symm.trans ha
      cases e'
      intro z
      exact absurd (Value.type.inj z) (by decide)
  · obtain ⟨ep, he'⟩ := PyProof.Rows.sortedAll_at s.heap its out.toArray
    have h3 : ∀ u ∈ out, ∃ a, u = Value.ref a := fun u hu => e2 u (hb.perm.mem_iff.mp hu)
    have hp : (out.map bkV).Perm xs := by
      rw [e1]
      exact hb.perm.map bkV
    have hlen : (out.map bkV).length ≤ sizeLine := by
      rw [hp.length_eq]
      exact hz
    refine ⟨.ref _, upd H (s.heap.objs.size + 1) (.lst (out.map bkV)), I.laid (t' := s.toks) (fun _ _ => PyProof.Rows.sortedAll_old) (Nat.le_succ _) ⟨hlen, out, ep, bkV_vals h3, he'⟩, rfl, q _ _ hp ?_ (I.hok.fresh (Nat.le_succ _))⟩
    rw [List.pairwise_map]
    exact hs1
end
end Dl

/-! set(xs) of a list of ints, as a set that can be walked -/
namespace L2
open PySem PySem.Spec PyProof.Rows
/-- the new set -/
def emS (w : World) : Obj := { cls := .type "set", dict := none, data := .set #[] 0 (.fresh 0 0 (!w.params.followText "set-order")) }
section
variable {P : Program} {w : World} {A : Around} {E : Value → Shared → Prop} {s : Shared}
theorem set_of_listR {l : Addr} {us : Array Value} (ns : List Int) {Q : Value → Shared → Prop} (hnd : A.handled = none) (isl : s.heap.IsList l us) (are : IntsAre us.toList ns) (room : ns.length + 1 < scanBound)
    (fin : ∀ (h2 : Heap) (tk n : Nat), SetR w h2 s.heap.objs.size (fun j => decide (j ∈ ns)) n → n ≤ ns.length → (∀ b o, s.heap.get? b = some o → h2.get? b = some o) → Q (.ref s.heap.objs.size) { s with heap := h2, toks := tk }) :
    wpAny (model P w) A (call (.type "set") [.ref l]) Q E s := by
  have sz : us.size = ns.length := by
    have := IntsAre.length are
    simpa using this
  obtain ⟨c0, t0, mro0⟩ := F.called_set.mro
  have made0 := F.called_set.made
  have sub0 := F.called_set.sub
  refine wpAny_call (codeAny_of_tree ?_)
  show wpAny _ _ (callAny (.type "set") _) _ _ _
  refine wpAny_pure ⟨Code.quiet_builtin _ (by decide +kernel), codeAny_builtin F.entry_type_call ?_⟩
  rw [Around.under_plain (weight_type_call_type "set" [.ref l] []) rfl]
  have nt0 := F.called_set.notType
  have cc0 := F.called_set.canCreate
  have tc0 := F.typeCall_set_1 (.ref l)
  repeat (any_goals (first | assumption | wp_step))
  refine codeAny_mono (code_set_led1 (.ref l) (E := E) (Q₁ := fun ob z => ob = .ref s.heap.objs.size ∧ z = { s with heap := s.heap.push (emS w) }) ⟨rfl, rfl⟩) fun r z hr => ?_
  cases r with
  | error e => exact hr
  | ok fl => cases fl with
    | ret ob =>
      obtain ⟨rfl, rfl⟩ := hr
      have got : (s.heap.push (emS w)).get? s.heap.objs.size = some (emS w) := Heap.get?_push_size _ rfl
      have ty0 : Shared.TypeIs { s with heap := s.heap.push (emS w) } (.ref s.heap.objs.size) "set" := ⟨_, got, rfl⟩
      have il0 := F.called_set.init.lookup
      have ib0 := F.called_set.init.bind (.ref s.heap.objs.size)
      repeat (any_goals (first | assumption | wp_step))
      refine codeAny_mono (codeAny_call_builtin (R := wants (fun r z => r = .none ∧ ∃ h2 tk n, z = { s with heap := h2, toks := tk } ∧ SetR w h2 s.heap.objs.size (fun j => decide (j ∈ ns)) n ∧ n ≤ ns.length ∧ ∀ b o, s.heap.get? b = some o → h2.get? b = some o) E)
        F.called_set.init.plain F.entry_set_init (check_set_init_1 ty0 ?_)) fun r2 z2 hr2 => ?_
      · obtain ⟨⟨oc, od, oda, osl⟩, hol, hcl, nl, hdl⟩ := isl
        simp only at hcl hdl
        subst hcl; subst hdl
        have hol2 : (s.heap.push (emS w)).get? l = some { cls := .type "list", dict := od, data := .seq us nl, slots := osl } := Heap.get?_push_of_some _ hol
        have g1 := F.sub_list_set
        have g2 := F.sub_list_frozenset
        have g3 : (Value.type "list" == Value.type "dict") = false := by decide
        have isl2 : (s.heap.push (emS w)).IsList l us := ⟨_, hol2, rfl, nl, rfl⟩
        unfold Builtin.«set.__init__» noKeywords Builtin.Frozenset.updateFrom
        generalize hPI : pyIter = PI
        unfold emS at *
        wp_walk
        subst hPI
        refine wpAny_pyIter_list isl2 (wpAny_bind (wpAny_runValue ?_))
        have lS : l < s.heap.objs.size := Heap.lt_size hol
        have hd3 : A.in1.in1.in1.handled = none := by simp [hnd]
        have nI : l ≠ (s.heap.push (emS w)).objs.size := by
          rw [Heap.size_push]; exact Nat.ne_of_lt (Nat.lt_succ_of_lt lS)
        have nS : s.heap.objs.size ∉ [(s.heap.push (emS w)).objs.size, l] := by
          rw [Heap.size_push]
          simp only [List.mem_cons, List.not_mem_nil, or_false, not_or]
          exact ⟨Nat.ne_of_lt (Nat.lt_succ_self _), Nat.ne_of_gt lS⟩
        refine set_update_ints ((Walks.list hd3 _ l nI us).toS) s.heap.objs.size nS ns sz room (fun i v hv => ?_) (us.size - 0) 0 _ (by omega) (Nat.zero_le _)
          ⟨⟨_, Heap.get?_push_size _ rfl, rfl, rfl⟩, isl2.push _⟩ ⟨0, Nat.le_refl 0, setR_new_at (Heap.get?_push_of_some _ got)⟩ fun z n hm hn hS => ?_
        · have hi : i < ns.length := by rw [← sz]; exact (Array.getElem?_eq_some_iff.mp hv).1
          obtain ⟨t, e⟩ := PyProof.Rows.IntsAre.int_at are i v (by rw [Array.getElem?_toList]; exact hv)
          refine ⟨ns[i], t, List.getElem?_eq_getElem hi, ?_⟩
          rw [e, List.getD_eq_getElem?_getD, List.getElem?_eq_getElem hi] <;> rfl
        · obtain ⟨h2, gg, dd, tk, oo⟩ := z
          obtain rfl : gg = s.gens := hm.gens
          obtain rfl : dd = s.drawn := hm.drawn
          obtain rfl : oo = s.os := hm.os
          show wpAny _ _ _ _ _ _
          refine wpAny_pure ?_
          show wpAny _ _ (ret Value.none) _ _ _
          refine wpAny_pure ⟨rfl, h2, tk, n, rfl, hS, by omega, fun b o e => ?_⟩
          have b0 : b < s.heap.objs.size := Heap.lt_size e
          refine hm.heap b o ?_ (Heap.get?_push_of_some _ (Heap.get?_push_of_some _ e))
          rw [Heap.size_push]
          simp only [List.mem_cons, List.not_mem_nil, or_false, not_or]
          exact ⟨Nat.ne_of_lt b0, Nat.ne_of_lt (Nat.lt_succ_of_lt b0)⟩
      · cases r2 with
        | error e => exact hr2
        | ok fl2 => cases fl2 with
          | ret r =>
            obtain ⟨rfl, h2, tk, n, rfl, hS, hn, hk⟩ := hr2
            repeat (any_goals (first | assumption | wp_step))
            exact fin _ _ _ hS hn hk
          | _ => exact hr2.elim
    | _ => exact hr.elim
end
end L2
namespace Dl
open PySem PySem.Spec PyProof.Rows L2
def tSrtSet (K : PySem.W.Frag) (ta : TE) : TE := fun σ H Q => ta σ H fun x H1 => ∃ (l : Addr) (ns : List Int), x = .ref l ∧ SqL K H1 l (ns.map V.int) ∧ ns.length < 64 ∧ ∀ (ms : List Int) (p : Addr), ms.Pairwise (· < ·) → (∀ k, k ∈ ms ↔ k ∈ ns) → ms.length ≤ ns.length → H1 p = none → Q (.ref p) (upd H1 p (.lst (ms.map V.int)))
/-- sorted(set(e)) -/
theorem pe_srtSet {X : Cx} {a : Expr} {ta : TE} {p p2 q pos : Pos} (hg : Gl X "sorted") (hm : X.mg "sorted" = none) (hg2 : Gl X "set") (hm2 : X.mg "set" = none) (ha : PE X a ta) (hc : X.calm = true)
    (na : starEach [a] X.env = (false, eval a X.env) :: starEach [] X.env) : PE X (.Call (.Name "sorted" p) [.Call (.Name "set" p2) [a] [] q] [] pos) (tSrtSet X.K ta) := by
  refine ⟨fun pins s σ H Q I h => ?_⟩
  refine Call_ (ld_blt I hg hm boot_sorted ?_)
  refine PyProof.Rows.callWith_builtin1 (PyProof.Rows.args_cons ?_ rfl) rfl rfl
  refine Call_ (ld_blt I hg2 hm2 boot_set ?_)
  refine PyProof.Rows.callWith_type1 (PyProof.Rows.args_cons (thn (ha.run pins s σ H _ I h) fun v s1 ⟨x, H1, I1, r1, q1⟩ => PyProof.Rows.args_nil ?_) na) na rfl
  obtain ⟨l, ns, rfl, hq, hl, q1⟩ := q1
  cases r1
  obtain ⟨its, r, pl, hz⟩ := I1.list hq
  refine set_of_listR ns (I1.ok.hd hc) pl.isList (by simpa using RZ.intsAre_vals r) (by unfold scanBound; omega) fun h' tk n hS hn hk => ?_
  refine PyProof.Rows.args_nil ?_
  have I2 : Inv X pins σ H1 { s1 with heap := h', toks := tk } := I1.kept fun b o e => hk b o e
  refine sorted_set hS (I1.ok.hd hc) (by omega) fun z p out c ms k g o hp hg hi hs hmm hl2 => ?_
  have hlen : (ms.map V.int).length ≤ sizeLine := by rw [List.length_map, hl2, sizeLine_eq]; omega
  have hn0 : H1 p = none := I2.hok.fresh hp
  have J : Inv X pins σ (upd H1 p (.lst (ms.map V.int))) { ({ s1 with heap := h', toks := tk } : Shared) with heap := z.heap, gens := z.gens, drawn := z.drawn, toks := z.toks } :=
    I2.call (ch := []) (Un.laid k hp hn0) (I2.hok.laid k hp ⟨hlen, out.toList, c, vals_of_ints hi, hg⟩) (by rw [g]; exact I2.bare) (fun _ y => nomatch y)
  have e : z = { ({ s1 with heap := h', toks := tk } : Shared) with heap := z.heap, gens := z.gens, drawn := z.drawn, toks := z.toks } := by
    cases z
    cases s1
    cases o
    rfl
  rw [e]
  refine ⟨.ref p, _, J, rfl, q1 ms p hs (fun k => ?_) (by omega) hn0⟩
  rw [hmm k]
  exact decide_eq_true_iff
end Dl

namespace Dl
open PySem PySem.Spec PyProof.Rows L2
abbrev tupI (r : List Int) : D := .tup (r.map D.int)
/-- sorted(xs): ints, or tuples of ints -/
def rSorted1 (x : D) (G : GH) (Q : DK) : Prop := ∃ ds, lstOf G x = some ds ∧
  ((∃ ns : List Int, ds = ns.map D.int ∧ ∀ (ns' : List Int) (p : Addr), ns'.Perm ns → ns'.Pairwise (· ≤ ·) → G p = none → Q (.ref p) (gup G p (.lst (ns'.map D.int)))) ∨
   (∃ (d : Nat) (B : Int) (rs : List (List Int)), 1 ≤ d ∧ rs.length < 64 ∧ ds = rs.map tupI ∧ (∀ r ∈ rs, r.length = d ∧ TS.Bd B r) ∧
      ∀ (rs' : List (List Int)) (p : Addr), rs'.Perm rs → rs'.Pairwise (fun n m => TS.code B n ≤ TS.code B m) → G p = none → Q (.ref p) (gup G p (.lst (rs'.map tupI)))))
def kyD : Key → D
  | .inl i => .int i
  | .inr x => .str x
abbrev tupKs (ks : List Key) : D := .tup (ks.map kyD)
/-- tuples of ints and texts, in a list or a tuple -/
def rSorted2 (x : D) (G : GH) (Q : DK) : Prop := ∃ (kss : List (List Key)) (κ : List Bool) (c : Bool), seqOf G x = some (kss.map tupKs) ∧ (∀ ks ∈ kss, ks.map kyS = c :: κ) ∧
  ∀ (kss' : List (List Key)) (p : Addr), kss'.Perm kss → kss'.Pairwise (fun a b => ksl b a = false) → G p = none → Q (.ref p) (gup G p (.lst (kss'.map tupKs)))
def rSorted (xs : List D) (G : GH) (Q : DK) : Prop := arg1 xs fun x => rSorted1 x G Q ∨ rSorted2 x G Q
/-- str(i), str(text) -/
def rStr (xs : List D) (G : GH) (Q : DK) : Prop := arg1 xs fun x => match x with
  | .int i => i.natAbs.log2 < 1920 ∧ Q (.str (toString i)) G
  | .str z => Q (.str z) G
  | _ => False
/-- sorted(set(xs)), ints -/
def dSrtSet (g1 g2 : GV) (ta : TED) (X : DXK) (ρ : Ro) (G : GH) (Q : DK) : Prop := isBlt g1 = true ∧ isBlt g2 = true ∧ ta X ρ G fun x G1 => ∃ ns : List Int, lstOf G1 x = some (ns.map D.int) ∧ ns.length < 64 ∧
  ∀ (ms : List Int) (p : Addr), ms.Pairwise (· < ·) → (∀ k, k ∈ ms ↔ k ∈ ns) → ms.length ≤ ns.length → G1 p = none → Q (.ref p) (gup G1 p (.lst (ms.map D.int)))
/-- len(set(xs)), ints -/
def dLenSet (g1 g2 : GV) (ta : TED) (X : DXK) (ρ : Ro) (G : GH) (Q : DK) : Prop := isBlt g1 = true ∧ isBlt g2 = true ∧ ta X ρ G fun x G1 => ∃ ns : List Int, lstOf G1 x = some (ns.map D.int) ∧ ns.length ≤ 1000 ∧ Q (.int ((dist ns).length : Nat)) G1
section
variable {K : PySem.W.Frag} {H : Hp}
theorem perm_map_inv {α β : Type} {f : α → β} {l l' : List β} (h : l'.Perm l) : ∀ rs : List α, l = rs.map f → ∃ rs' : List α, rs'.Perm rs ∧ l' = rs'.map f := by
  induction h with
  | nil =>
    intro rs e
    cases rs with
    | nil => exact ⟨[], .refl _, rfl⟩
    | cons _ _ => cases e
  | cons x _ ih =>
    intro rs e
    cases rs with
    | nil => cases e
    | cons r rs =>
      simp only [List.map_cons, List.cons.injEq] at e
      obtain ⟨q, h1, h2⟩ := ih rs e.2
      exact ⟨r :: q, h1.cons r, by rw [List.map_cons, ← h2, e.1]⟩
  | swap x y l =>
    intro rs e
    match rs, e with
    | r1 :: r2 :: rs, e =>
      simp only [List.map_cons, List.cons.injEq] at e
      exact ⟨r2 :: r1 :: rs, .swap _ _ _, by rw [List.map_cons, List.map_cons, ← e.1, ← e.2.1, ← e.2.2]⟩
    | [], e => cases e
    | [_], e => cases e
  | trans _ _ ih1 ih2 =>
    intro rs e
    obtain ⟨q, h1, h2⟩ := ih2 rs e
    obtain ⟨q2, h3, h4⟩ := ih1 q h2
    exact ⟨q2, h3.trans h1, h4⟩
theorem IsL.perm {xs ys : List V} (h : ys.Perm xs) : ∀ {ds : List D}, IsL K H ds xs → ∃ ds', ds'.Perm ds ∧ IsL K H ds' ys := by
  induction h with
  | nil => intro ds i; exact ⟨ds, .refl _, i⟩
  | cons x _ ih =>
    intro ds i
    cases ds with
    | nil => cases i
    | cons d ds =>
      obtain ⟨i0, i1⟩ := i.uncons
      obtain ⟨q, h1, h2⟩ := ih i1
      exact ⟨d :: q, h1.cons d, .cons i0 h2⟩
  | swap x y l =>
    intro ds i
    cases ds with
    | nil => cases i
    | cons d ds =>
      cases ds with
      | nil =>
        obtain ⟨i0, i1⟩ := i.uncons
        cases i1
      | cons e ds =>
        obtain ⟨i0, i1⟩ := i.uncons
        obtain ⟨i1, i2⟩ := i1.uncons
        exact ⟨e :: d :: ds, .swap _ _ _, .cons i1 (.cons i0 i2)⟩
  | trans _ _ ih1 ih2 =>
    intro ds i
    obtain ⟨q, h1, h2⟩ := ih2 i
    obtain ⟨q2, h3, h4⟩ := ih1 h2
    exact ⟨q2, h3.trans h1, h4⟩
theorem IsL.mem {x : V} : ∀ {ds : List D} {xs : List V}, IsL K H ds xs → x ∈ xs → ∃ d ∈ ds, Is K H d x
  | [], _, h, m => by rw [show _ = [] from h] at m; cases m
  | d :: ds, _, h, m => by
    obtain ⟨y, r, rfl, h2, h3⟩ := h
    rcases List.mem_cons.mp m with rfl | m
    · exact ⟨d, List.mem_cons_self, h2⟩
    · obtain ⟨d', h4, h5⟩ := IsL.mem h3 m
      exact ⟨d', List.mem_cons_of_mem _ h4, h5⟩
theorem ints_is : ∀ ns : List Int, IsL K H (ns.map D.int) (ns.map V.int)
  | [] => rfl
  | _ :: r => .cons .int (ints_is r)
theorem keys_is : ∀ {ks : List Key} {xs : List V}, IsL K H (ks.map kyD) xs → xs = ks.map kV
  | [], _, h => h
  | k :: ks, _, h => by
    obtain ⟨x, r, rfl, h2, h3⟩ := h
    rw [keys_is h3]
    cases k with
    | inl i => rw [show x = .int i from h2]; rfl
    | inr i => rw [show x = .str i from h2]; rfl
theorem kV_inj : ∀ {ks ls : List Key}, ks.map kV = ls.map kV → ks = ls
  | [], [], _ => rfl
  | [], _ :: _, h => by cases h
  | _ :: _, [], h => by cases h
  | k :: ks, l :: ls, h => by
    simp only [List.map_cons, List.cons.injEq] at h
    rw [kV_inj h.2]
    cases k <;> cases l <;> simp only [kV] at h <;> first | (have h1 := h.1; cases h1; rfl) | cases h.1
theorem tupI_is {r : List Int} {x : V} (h : Is K H (tupI r) x) : TupI K H x r := by
  obtain ⟨a, xs, rfl, t, l⟩ := h
  rw [l.ints] at t
  exact ⟨a, rfl, t⟩
theorem tupI_pair {B : Int} : ∀ {rs : List (List Int)} {ys : List V}, IsL K H (rs.map tupI) ys → ys.Pairwise (fun x y => ∀ n m, TupI K H x n → TupI K H y m → TS.code B n ≤ TS.code B m) → rs.Pairwise (fun n m => TS.code B n ≤ TS.code B m)
  | [], _, _, _ => .nil
  | r :: rs, _, h, p => by
    obtain ⟨y, q, rfl, h2, h3⟩ := h
    rw [List.pairwise_cons] at p ⊢
    refine ⟨fun m hm => ?_, tupI_pair h3 p.2⟩
    obtain ⟨i, hi, rfl⟩ := List.mem_iff_getElem.mp hm
    obtain ⟨z, e1, e2⟩ := h3.get (i := i) (d := tupI rs[i]) (by rw [List.getElem?_map, List.getElem?_eq_getElem hi]; rfl)
    exact p.1 z (List.mem_of_getElem? e1) r rs[i] (tupI_is h2) (tupI_is e2)
end
theorem keys_pair {X : Cx} {pins : List (Addr × Obj)} {σ : L2.St} {H : Hp} {s : Shared} {g : V → List Key} (I : Inv X pins σ H s) : ∀ {kss : List (List Key)} {ys : List V}, IsL X.K H (kss.map tupKs) ys → ys.Pairwise (fun x y => ksl (g y) (g x) = false) → (∀ x ∈ ys, Is X.K H (tupKs (g x)) x) →
    kss.Pairwise (fun a b => ksl b a = false)
  | [], _, _, _, _ => .nil
  | ks :: kss, _, h, p, hg => by
    obtain ⟨y, q, rfl, h2, h3⟩ := h
    have uq : ∀ (x : V) (ks : List Key), Is X.K H (tupKs ks) x → Is X.K H (tupKs (g x)) x → g x = ks := fun x ks a b => by
      obtain ⟨t, xs, rfl, t1, l1⟩ := a
      obtain ⟨t', xs', e, t2, l2⟩ := b
      cases e
      rw [keys_is l1] at t1
      rw [keys_is l2] at t2
      exact kV_inj (I.tuple_inj t2 t1)
    rw [List.pairwise_cons] at p ⊢
    refine ⟨fun ls hm => ?_, keys_pair I h3 p.2 fun x hx => hg x (List.mem_cons_of_mem _ hx)⟩
    obtain ⟨i, hi, rfl⟩ := List.mem_iff_getElem.mp hm
    obtain ⟨z, e1, e2⟩ := h3.get (i := i) (d := tupKs kss[i]) (by rw [List.getElem?_map, List.getElem?_eq_getElem hi]; rfl)
    have hz : z ∈ q := List.mem_of_getElem? e1
    have := p.1 z hz
    rw [uq y ks h2 (hg y List.mem_cons_self), uq z _ e2 (hg z (List.mem_cons_of_mem _ hz))] at this
    exact this
section
variable {X : Cx} {Θ : AbsI} {W : WX} {k : Nat}
theorem cd_str : CallR X (.type "str") (lowRL Θ X.K rStr) := by
  intro pins s σ H xs us R I rv ⟨G, F, ds, Q, rep, il, h, k⟩
  obtain ⟨d, rfl, h⟩ := arg1_of h
  obtain ⟨v, rfl, i1⟩ := il.one
  cases d with
  | int i => cases i1; exact call_str_int pins s σ H _ us R I rv ⟨i, rfl, h.1, k _ _ _ _ Ext.refl .str rep h.2⟩
  | str z => cases i1; exact SkE.call_str_str pins s σ H _ us R I rv ⟨z, rfl, k _ _ _ _ Ext.refl .str rep h⟩
  | _ => exact h.elim
theorem de_srtset {Γ : GEnv} {p p2 pos pos2 : Pos} {a : Expr} {ta : TED} (ok : GOk Θ X k Γ) (hc : X.calm = true) (hl : Gl X "sorted") (hr : Gl X "set") (ha : PE X a (lowE Θ X.K W ta)) (hs : plS a = true) :
    PE X (.Call (.Name "sorted" p) [.Call (.Name "set" p2) [a] [] pos2] [] pos) (lowE Θ X.K W (dSrtSet (Γ.g "sorted") (Γ.g "set") ta)) :=
  ⟨fun pins s σ H R I ⟨ρ, G, F, Q, DX, e, rr, ⟨b1, b2, h⟩, x, kk⟩ => by
    refine (pe_srtSet hl (blt_none ok b1) hr (blt_none ok b2) ha hc (star_cons hs)).run pins s σ H R I ?_
    refine lowE_mk e rr x h fun v H1 d G1 e1 i1 r1 q1 => ?_
    obtain ⟨ns, h1, h2, q⟩ := q1
    obtain ⟨a, xs, rfl, rfl, t1, s1⟩ := r1.lstOf h1 i1
    rw [s1.ints] at t1
    exact ⟨a, ns, rfl, t1, h2, fun ms p hp hm hl hn => kk _ _ _ _ (e1.trans (ext_upd_new hn)) .ref (r1.new hn fun own => .lst upd_same (ints_is ms)) (q ms p hp hm hl (r1.free hn).1)⟩⟩
theorem cd_sorted : CallR X (.builtin "sorted") (lowRL Θ X.K rSorted) := by
  intro pins s σ H xs us R I rv ⟨G, F, ds, Q, rep, il, h, k⟩
  obtain ⟨d, rfl, h⟩ := arg1_of h
  obtain ⟨v, rfl, i1⟩ := il.one
  rcases h with h | ⟨kss, κ, c, h1, hk, q⟩
  rotate_left
  · obtain ⟨a, xs, rfl, hs, l⟩ := rep.seqOf h1 i1
    have key : ∀ (kss : List (List Key)) (xs : List V), IsL X.K H (kss.map tupKs) xs → ∀ x ∈ xs, ∃ ks ∈ kss, Is X.K H (tupKs ks) x := fun kss xs l x hx => by
      obtain ⟨d, hd, hi⟩ := l.mem hx
      obtain ⟨ks, hks, rfl⟩ := List.mem_map.mp hd
      exact ⟨ks, hks, hi⟩
    classical
    let g : V → List Key := fun x => if hx : ∃ ks ∈ kss, Is X.K H (tupKs ks) x then hx.choose else []
    have gs : ∀ x ∈ xs, (g x ∈ kss ∧ Is X.K H (tupKs (g x)) x) := fun x hx => by
      have := key kss xs l x hx
      show ((if hx : ∃ ks ∈ kss, Is X.K H (tupKs ks) x then hx.choose else []) ∈ kss ∧ Is X.K H (tupKs (if hx : ∃ ks ∈ kss, Is X.K H (tupKs ks) x then hx.choose else [])) x)
      rw [dif_pos this]
      exact this.choose_spec
    refine cr_srtK pins s σ H _ us R I rv ⟨a, xs, g, κ, c, rfl, hs, fun x hx => ?_, fun ys p hp hw hn => ?_⟩
    · obtain ⟨h3, t, ys, rfl, t2, l2⟩ := gs x hx
      refine ⟨⟨t, rfl, ?_⟩, hk _ h3⟩
      rw [keys_is l2] at t2
      exact t2
    · obtain ⟨es', hp1, l'⟩ := l.perm hp
      obtain ⟨kss', hp2, rfl⟩ := perm_map_inv hp1 kss rfl
      refine k _ _ _ _ (ext_upd_new hn) .ref (rep.new hn fun own => .lst upd_same (IsL.ext (ext_upd_new hn) _ l')) (q kss' p hp2 ?_ (rep.free hn).1)
      exact keys_pair I l' hw fun x hx => (gs x (hp.mem_iff.mp hx)).2
  obtain ⟨es, h1, h2⟩ := h
  obtain ⟨a, xs, rfl, rfl, hs, l⟩ := rep.lstOf h1 i1
  rcases h2 with ⟨ns, rfl, q⟩ | ⟨dd, B, rs, hd, h64, rfl, hr, q⟩
  · rw [l.ints] at hs
    exact cr_sortedI pins s σ H _ us R I rv ⟨a, ns, rfl, hs, fun ns' p hp hw hn => k _ _ _ _ (ext_upd_new hn) .ref (rep.new hn fun own => .lst upd_same (ints_is ns')) (q ns' p hp hw (rep.free hn).1)⟩
  · refine cr_sortT (B := B) hd pins s σ H _ us R I rv ⟨a, xs, rfl, hs, by rw [l.len, List.length_map]; exact h64, fun x hx => ?_, fun ys p hp hw hn => ?_⟩
    · obtain ⟨e, he, ie⟩ := l.mem hx
      obtain ⟨r, hr2, rfl⟩ := List.mem_map.mp he
      exact ⟨r, tupI_is ie, hr r hr2⟩
    · obtain ⟨es', hp1, l'⟩ := l.perm hp
      obtain ⟨rs', hp2, rfl⟩ := perm_map_inv hp1 rs rfl
      exact k _ _ _ _ (ext_upd_new hn) .ref (rep.new hn fun own => .lst upd_same (IsL.ext (ext_upd_new hn) _ l')) (q rs' p hp2 (tupI_pair l' hw) (rep.free hn).1)
theorem de_lenset {Γ : GEnv} {p p2 pos pos2 : Pos} {a : Expr} {ta : TED} (ok : GOk Θ X k Γ) (hc : X.calm = true) (hl : Gl X "len") (hr : Gl X "set") (ha : PE X a (lowE Θ X.K W ta)) (hs : plS a = true) :
    PE X (.Call (.Name "len" p) [.Call (.Name "set" p2) [a] [] pos2] [] pos) (lowE Θ X.K W (dLenSet (Γ.g "len") (Γ.g "set") ta)) :=
  ⟨fun pins s σ H R I ⟨ρ, G, F, Q, DX, e, rr, ⟨b1, b2, h⟩, x, kk⟩ => by
    refine (pe_lenSetD hl (blt_none ok b1) hr (blt_none ok b2) ha hc (star_cons hs)).run pins s σ H R I ?_
    refine lowE_mk e rr x h fun v H1 d G1 e1 i1 r1 q1 => ?_
    obtain ⟨ns, h1, h2, q⟩ := q1
    obtain ⟨a, xs, rfl, rfl, t1, s1⟩ := r1.lstOf h1 i1
    rw [s1.ints] at t1
    exact ⟨a, ns, rfl, t1, h2, kk _ _ _ _ e1 .int r1 q⟩⟩
end
end Dl

namespace Dl
open PySem PySem.Spec PyProof.Rows L2

/-! ### the deep evaluator: from the program's text to what it does with data -/
structure Ctx where
  N : List Str
  sc : Scope
  Γ : GEnv
  K : PySem.W.Frag
  /-- may a name be stored here -/
  fn : Str → Bool
  /-- are lambdas made here -/
  lam : Bool
  /-- the catching def's exception -/
  CS : Str → Option Addr
structure Ev where
  E : Ctx → Expr → TED
  T : Ctx → Expr → TTD
  W : Ctx → Expr → TTD
  A : Ctx → List Expr → TAD
  Kw : Ctx → List Keyword → TAD
  O : Ctx → Option Expr → TOD
  I : Ctx → Bool → Expr → TID
  G : Ctx → List Nat → Expr → TGD
  Gs : Ctx → List Nat → List Expr → TGsD
  S : Ctx → Stmt → TSD
  Ss : Ctx → List Stmt → TSD
def fE : TED := fun _ _ _ _ => False
def fT : TTD := fun _ _ _ _ => False
def fA : TAD := fun _ _ _ _ => False
def fO : TOD := fun _ _ _ _ => False
def fI : TID := fun _ _ _ _ => False
def fG : TGD := fun _ _ _ _ _ => False
def fGs : TGsD := fun _ _ _ _ _ => False
def fS : TSD := fun _ _ _ => False
def ev0 : Ev := ⟨fun _ _ => fE, fun _ _ => fT, fun _ _ => fT, fun _ _ => fA, fun _ _ => fA, fun _ _ => fO, fun _ _ _ => fI, fun _ _ _ => fG, fun _ _ _ => fGs, fun _ _ => fS, fun _ _ => fS⟩

def ixOf (x : Str) : List Str → Nat → Option Nat
  | [], _ => none
  | y :: r, i => if y = x then some i else ixOf x r (i + 1)
def dBty (g : GV) (n : String) (X : DXK) (ρ : Ro) (G : GH) (Q : DK) : Prop := isBlt g = true ∧ Q (.ty n) G
/-- a call of a built-in -/
def dBc (g : GV) (r : RLD) (t : TAD) (X : DXK) (ρ : Ro) (G : GH) (Q : DK) : Prop := isBlt g = true ∧ dB r t X ρ G Q
def dBi (g : GV) (t : TID) (X : DXK) (ρ : Ro) (G : GH) (Q : List D → (GH → Prop) → GH → Prop) : Prop := isBlt g = true ∧ t X ρ G Q
/-- one or the other -/
def dAlt (t u : TED) (X : DXK) (ρ : Ro) (G : GH) (Q : DK) : Prop := t X ρ G Q ∨ u X ρ G Q
def oddN (x : Str) : Bool := (x == ("__debug__" : Str)) || (x == ("__classdict__" : Str)) || (x == ("__name__" : Str))
def tyOf (x : Str) : Option String :=
  if x = "int" then some "int" else if x = "bool" then some "bool" else if x = "str" then some "str" else if x = "list" then some "list" else if x = "tuple" then some "tuple" else if x = "dict" then some "dict" else none
def evName (c : Ctx) (x : Str) : TED := match oddN x with
  | true => fE
  | false => match c.sc.names.lookup x with
    | some .local => match ixOf x c.N 0 with
      | some i => dVar i
      | none => fE
    | some .cell => match ixOf x c.N 0 with
      | some i => dVar i
      | none => fE
    | some .free => match ixOf x c.N 0 with
      | some i => dVar i
      | none => fE
    | some .globalImplicit => match tyOf x with
      | some n => dBty (c.Γ.g x) n
      | none => dGlob (c.Γ.g x)
    | _ => fE
def cmpR : CmpOp → R2D
  | .Lt => rLt
  | .LtE => rLe
  | .Gt => rGt
  | .GtE => rGe
  | .Eq => rEq
  | .NotEq => rNe
  | .Is => rIs false
  | .IsNot => rIs true
  | .In => rIn false
  | .NotIn => rIn true
def binR : Operator → Option R2D
  | .Add => some rAdd
  | .Sub => some rSub
  | .Mult => some rMul
  | .FloorDiv => some rFdiv
  | .Mod => some rMod
  | .Pow => some rPow
  | .BitOr => some rOr
  | _ => none
def rIAdd : R2D := fun x y G Q => match x, y with
  | .int i, .int j => Q (.int (i + j)) G
  | _, _ => False
def rISub : R2D := fun x y G Q => match x, y with
  | .int i, .int j => Q (.int (i - j)) G
  | _, _ => False
def ipR : Operator → Option R2D
  | .Add => some rIAdd
  | .Sub => some rISub
  | _ => none
/-- the value of an attribute's or a method's object -/
def simpB : Expr → Bool
  | .Call .. => false
  | _ => true
def isGl (c : Ctx) (x : Str) : Bool := !oddN x && decide (c.sc.names.lookup x = some .globalImplicit)
def bltOf (K : PySem.W.Frag) (x : Str) : Option RLD :=
  if x = "len" then some rLen else if x = "all" then some rAll else if x = "any" then some rAny else if x = "sum" then some rSum else if x = "max" then some rMax else if x = "min" then some rMin
  else if x = "abs" then some rAbs else if x = "int" then some rInt else if x = "list" then some rList else if x = "tuple" then some rTuple else if x = "isinstance" then some (rIsi K) else if x = "sorted" then some rSorted else if x = "str" then some rStr else none
def kwNames : List Keyword → Option (List Str)
  | [] => some []
  | ⟨some x, _, _⟩ :: r => (kwNames r).map (x :: ·)
  | ⟨none, _, _⟩ :: _ => none
def evLam (r : Ev) (c : Ctx) (x : Str) (params : Arguments) (body : Expr) (scope : Scope) : TED := match c.lam, c.CS x, params with
  | true, some CS, ⟨[], [], none, [], [], none, []⟩ => if LamX.lamSB c.sc scope then dCaught c.K CS (r.E { c with sc := scope, fn := fun _ => false, lam := false } body) else fE
  | _, _, _ => fE
def evLRg (r : Ev) (c : Ctx) (x : Str) (args : List Expr) : Option TED := match args with
  | [.Call (.Name y _) [a] [] _] => if x = "list" ∧ y = "range" ∧ isGl c y = true ∧ plS a = true then some (dLRg1 (c.Γ.g "list") (c.Γ.g "range") (r.E c a))
      else if x = "len" ∧ y = "set" ∧ isGl c y = true ∧ plS a = true then some (dLenSet (c.Γ.g "len") (c.Γ.g "set") (r.E c a))
      else if x = "sorted" ∧ y = "set" ∧ isGl c y = true ∧ plS a = true then some (dSrtSet (c.Γ.g "sorted") (c.Γ.g "set") (r.E c a)) else none
  | _ => none
def evCallN (r : Ev) (c : Ctx) (x : Str) (args : List Expr) (kws : List Keyword) : TED :=
  if isGl c x then match kws with
    | [] => match evLRg r c x args with
      | some t => t
      | none => match bltOf c.K x, args with
      | some q, e :: es => if (e :: es).all plS then dBc (c.Γ.g x) q (r.A c (e :: es)) else fE
      | _, [] => dCall (c.Γ.g x) dNil
      | none, [.Lambda params body scope _] => evLam r c x params body scope
      | none, e :: es => if (e :: es).all plS then dCall (c.Γ.g x) (r.A c (e :: es)) else fE
    | kw :: kws => match kwNames (kw :: kws), args with
      | some ks, [] => dCallK (c.Γ.g x) 0 ks dNil (r.Kw c (kw :: kws))
      | some ks, e :: es => if (e :: es).all plS then dCallK (c.Γ.g x) (e :: es).length ks (r.A c (e :: es)) (r.Kw c (kw :: kws)) else fE
      | none, _ => fE
  else fE
def evCallM (r : Ev) (c : Ctx) (o : Expr) (m : Str) (args : List Expr) (kws : List Keyword) : TED := match kws with
  | [] => match args with
    | [] => if m = "pop" then dLM rPop0 (r.E c o) dNil else dMeth c.Γ m (r.E c o) dNil
    | e :: es => if (e :: es).all plS then
        if m = "append" then dLM rAppend (r.E c o) (r.A c (e :: es)) else if m = "extend" then dLM rExtend (r.E c o) (r.A c (e :: es)) else if m = "pop" then dLM rPopAt (r.E c o) (r.A c (e :: es))
        else dMeth c.Γ m (r.E c o) (r.A c (e :: es)) else fE
  | kw :: kws => match kwNames (kw :: kws), args with
    | some ks, [] => dMethK c.Γ m 0 ks (r.E c o) dNil (r.Kw c (kw :: kws))
    | some ks, e :: es => if (e :: es).all plS then dMethK c.Γ m (e :: es).length ks (r.E c o) (r.A c (e :: es)) (r.Kw c (kw :: kws)) else fE
    | none, _ => fE
def evCall (r : Ev) (c : Ctx) (f : Expr) (args : List Expr) (kws : List Keyword) (pos : Pos) : TED := match f with
  | .Name x _ => evCallN r c x args kws
  | .Attribute o m apos => if simpB o && (apos.endLine == pos.line) && decide (args.length + kws.length < 29) then evCallM r c o m args kws else fE
  | _ => fE
def isTup : Expr → Bool
  | .Tuple .. => true
  | _ => false
def isSetD : Expr → Bool
  | .Set .. => true
  | _ => false
def ownOf (scope : Scope) (N : List Str) : List (Str × Nat) := scope.names.filterMap fun (y, k) => match k with
  | .local => (ixOf y N 0).map fun i => (y, i)
  | .cell => (ixOf y N 0).map fun i => (y, i)
  | _ => none
def blkX (c : Ctx) (scope : Scope) : Ctx := { c with sc := relS scope c.sc, fn := fun x => scope.names.lookup x == some .cell, lam := false }
def evIfs (r : Ev) (c : Ctx) : List Expr → TTD
  | [] => dYes
  | [t] => r.T c t
  | _ => fT
def tgN1 : Expr → List Str
  | .Name x _ => [x]
  | _ => []
def tgN : Expr → List Str
  | .Tuple es _ _ => es.flatMap tgN1
  | e => tgN1 e
def tgSl (c : Ctx) (e : Expr) : List Nat := (tgN e).filterMap fun x => ixOf x c.N 0
def evLc2 (r : Ev) (c : Ctx) (elt tg iter : Expr) (ifs : List Expr) (tg1 iter1 : Expr) (ifs1 : List Expr) (scope : Scope) : TED :=
  dLc2 (r.I c (isTup tg) iter) (r.G (blkX c scope) ((ownOf scope c.N).map (·.2)) tg) (evIfs r (blkX c scope) ifs) (r.I (blkX c scope) (isTup tg1) iter1) (r.G (blkX c scope) (tgSl c tg1) tg1) (evIfs r (blkX c scope) ifs1) (r.E (blkX c scope) elt) ((ownOf scope c.N).map (·.2)) (tgSl c tg1)
def lc2B (c : Ctx) (iter iter1 tg1 : Expr) (k k1 : Int) (scope : Scope) : Bool := decide (k = 0) && (decide (k1 = 0) && (!isSetD iter && (!isSetD iter1 && (blkC c.N c.sc scope (ownOf scope c.N) && (tgSl c tg1).all fun i => ((ownOf scope c.N).map (·.2)).contains i))))
def evLc (r : Ev) (c : Ctx) (elt : Expr) (gens : List Comprehension) (scope : Scope) : TED := match gens with
  | [⟨tg, iter, ifs, k⟩] => if k = 0 ∧ isSetD iter = false ∧ blkC c.N c.sc scope (ownOf scope c.N) = true then
      dLc (r.I c (isTup tg) iter) (r.G (blkX c scope) ((ownOf scope c.N).map (·.2)) tg) (evIfs r (blkX c scope) ifs) (r.E (blkX c scope) elt) ((ownOf scope c.N).map (·.2)) else fE
  | [⟨tg, iter, ifs, k⟩, ⟨tg1, iter1, ifs1, k1⟩] => if lc2B c iter iter1 tg1 k k1 scope = true then evLc2 r c elt tg iter ifs tg1 iter1 ifs1 scope else fE
  | _ => fE
def evPairs (r : Ev) (c : Ctx) : List (Option Expr) → List Expr → Option (List (TED × TED))
  | [], [] => some []
  | some k :: ks, v :: vs => match evPairs r c ks vs with
    | some l => some ((r.E c k, r.E c v) :: l)
    | none => none
  | _, _ => none
def evDict (r : Ev) (c : Ctx) (ks : List (Option Expr)) (vs : List Expr) : TED := match ks, vs with
  | [], [] => dDisp0
  | k :: ks, vs => match evPairs r c (k :: ks) vs with
    | some l => if (k :: ks).length ≤ 15 then dDisp l else fE
    | none => fE
  | _, _ => fE
def constD : Const → Option D
  | .none => some .non
  | .bool b => some (.bl b)
  | .int i => some (.int i)
  | .str s => some (.str s)
  | _ => none
def evE (r : Ev) (c : Ctx) (e : Expr) : TED := match e with
  | .Constant v _ _ => match constD v with
    | some d => dC d
    | none => fE
  | .Name x _ => evName c x
  | .BinOp a op b _ => match binR op with
    | some q => dBin q (r.E c a) (r.E c b)
    | none => fE
  | .UnaryOp op a _ => match op with
    | .Not => dNot (r.E c a)
    | .USub => dUn rNeg (r.E c a)
    | _ => fE
  | .Compare a ops bs _ => match ops, bs with
    | [op], [b] => if behindInMarks op b = false then dBin (cmpR op) (r.E c a) (r.E c b) else fE
    | [op, op'], [b, d] => if lastMarks [op, op'] [b, d] = false then dChain (cmpR op) (cmpR op') (r.E c a) (r.E c b) (r.E c d) else fE
    | _, _ => fE
  | .BoolOp op vs pos => match vs with
    | [] => fE
    | [a] => r.E c a
    | a :: b :: rest => match op with
      | .And => dAnd (r.E c a) (r.E c (.BoolOp .And (b :: rest) pos))
      | .Or => dOr (r.E c a) (r.E c (.BoolOp .Or (b :: rest) pos))
  | .IfExp t a b _ => dIf (r.T c t) (r.E c a) (r.E c b)
  | .Tuple es _ _ => dTup (r.A c es)
  | .List es _ => dLst (r.A c es)
  | .Attribute o f _ => if simpB o then dFld c.K f (r.E c o) else fE
  | .Subscript o i _ => match i with
    | .Slice lo hi st _ => match st with
      | none => dSlice (r.E c o) (r.O c lo) (r.O c hi)
      | some s => match lo, hi, s with
        | none, none, .UnaryOp .USub (.Constant (.int 1) _ _) _ => dRev (r.E c o)
        | _, _, _ => fE
    | i => if plE i then dBin rIx (r.E c o) (r.E c i) else fE
  | .Call f args kws pos => evCall r c f args kws pos
  | .ListComp elt gens scope _ => evLc r c elt gens scope
  | .Dict ks vs _ => evDict r c ks vs
  | _ => fE
def evW (r : Ev) (c : Ctx) (e : Expr) : TTD := match e with
  | .BoolOp op vs pos => match vs with
    | [] => fT
    | [a] => r.T c a
    | a :: b :: rest => match op with
      | .And => dTAnd (r.T c a) (r.W c (.BoolOp .And (b :: rest) pos))
      | .Or => dTOr (r.T c a) (r.W c (.BoolOp .Or (b :: rest) pos))
  | _ => fT
def evT (r : Ev) (c : Ctx) (e : Expr) : TTD := match e with
  | .UnaryOp op a _ => match op with
    | .Not => dTNot (r.T c a)
    | _ => dTru (r.E c e)
  | .BoolOp .. => r.W c e
  | .IfExp .. => fT
  | .Compare a ops bs _ => match ops, bs with
    | [op], [b] => if behindInMarks op b = false then dTru (dBin (cmpR op) (r.E c a) (r.E c b)) else fT
    | [op, op'], [b, d] => if lastMarks [op, op'] [b, d] = false then dTru (dChain (cmpR op) (cmpR op') (r.E c a) (r.E c b) (r.E c d)) else fT
    | _, _ => fT
  | e => dTru (r.E c e)
def evA (r : Ev) (c : Ctx) : List Expr → TAD
  | [] => dNil
  | e :: es => if plS e then dCons (r.E c e) (r.A c es) else fA
def evKw (r : Ev) (c : Ctx) : List Keyword → TAD
  | [] => dNil
  | ⟨_, e, _⟩ :: kws => dCons (r.E c e) (r.Kw c kws)
def evO (r : Ev) (c : Ctx) : Option Expr → TOD
  | none => dNoPart
  | some e => dPart (r.E c e)
def evIB (r : Ev) (c : Ctx) (tup : Bool) (x : Str) (args : List Expr) : Option TID := match args with
  | [e] => if plS e then (if x = "range" then some (dBi (c.Γ.g x) (dIRng1 (r.A c args))) else if x = "enumerate" ∧ tup = true then some (dBi (c.Γ.g x) (dIEnum (r.A c args))) else none) else none
  | [e, e2] => if plS e && plS e2 then (if x = "range" then some (dBi (c.Γ.g x) (dIRng2 (r.A c args))) else if x = "zip" ∧ tup = true then some (dBi (c.Γ.g x) (dIZip (r.A c args))) else none) else none
  | _ => none
def evI (r : Ev) (c : Ctx) (tup : Bool) (e : Expr) : TID := match e with
  | .Call (.Name x _) args [] _ => if isGl c x then match evIB r c tup x args with
      | some t => t
      | none => dISeq (r.E c e)
    else dISeq (r.E c e)
  | e => dISeq (r.E c e)
def evG (r : Ev) (c : Ctx) (ns : List Nat) (e : Expr) : TGD := match e with
  | .Name x _ => match ixOf x c.N 0, c.sc.names.lookup x with
    | some i, some .local => if i ∈ ns then dgName i else fG
    | some i, some .cell => if i ∈ ns ∧ c.fn x = true then dgName i else fG
    | _, _ => fG
  | .Tuple es _ _ => if es.all plS then dgTup es.length (r.Gs c ns es) else fG
  | .Subscript o i _ => if plE i then dgSub (r.E c o) (r.E c i) rSet else fG
  | _ => fG
def evGs (r : Ev) (c : Ctx) (ns : List Nat) : List Expr → TGsD
  | [] => dgNil
  | e :: es => if plS e then dgCons (r.G c ns e) (r.Gs c ns es) else fGs
/-! statements -/
/-- while, by an invariant with a measure -/
def dWhile (tt : TTD) (tb : TSD) (E : DEnds) (ρ : Ro) (G : GH) : Prop := ∃ I : Nat → Ro → GH → Prop, (∃ m, I m ρ G) ∧ ∀ m ρ G, I m ρ G →
  tt E.ex ρ G fun b G1 => dIte b (tb { E with nx := fun ρ' G' => ∃ m', m' < m ∧ I m' ρ' G', ct := fun ρ' G' => ∃ m', m' < m ∧ I m' ρ' G', bk := E.nx } ρ G1) (E.nx ρ G1)
def compS : Expr → Option Scope
  | .ListComp _ _ s _ => some s
  | .SetComp _ _ s _ => some s
  | .DictComp _ _ _ s _ => some s
  | _ => none
/-- name = [..]: is the exchange of stores taken -/
def swB (c : Ctx) (value : Expr) (target : Expr) : Bool := match compS value, target with
  | some scope, .Name t pos => (c.sc.names.lookup t == some .local) && (pos.line == value.pos.line) && !(scope.names.any fun (n, k) => n == t && (k == .local || k == .cell))
  | _, _ => false
/-- a, b = x, y: the names whose stores are exchanged -/
def swD (c : Ctx) (tg value : Expr) : Option (Option (List Str)) := match tg, value with
  | .Tuple ts _ _, .Tuple vs _ _ =>
    if (!(ts.length == 2 || ts.length == 3) || vs.length != ts.length) = true then some none
    else if (vs.any fun | .Starred .. => true | _ => false) = true then some none
    else if (((ts.filterMap fun
        | .Name id pos => if (c.sc.names.lookup id == some .local && pos.line == (ts.head?.map (·.pos.line)).getD 0) = true then some id else none
        | _ => none).length != ts.length) || ((ts.filterMap fun
        | .Name id pos => if (c.sc.names.lookup id == some .local && pos.line == (ts.head?.map (·.pos.line)).getD 0) = true then some id else none
        | _ => none).eraseDups.length != (ts.filterMap fun
        | .Name id pos => if (c.sc.names.lookup id == some .local && pos.line == (ts.head?.map (·.pos.line)).getD 0) = true then some id else none
        | _ => none).length)) = true then some none
    else if vs.all (foldedForSure 8) = true then some none
    else if vs.all (constantsAlone 8) = true then none
    else some (some (ts.filterMap fun
        | .Name id pos => if (c.sc.names.lookup id == some .local && pos.line == (ts.head?.map (·.pos.line)).getD 0) = true then some id else none
        | _ => none))
  | .List .., _ => none
  | .Tuple .., _ => some none
  | .Name .., _ => some none
  | .Subscript .., _ => some none
  | _, _ => none
def isLocN (c : Ctx) (x : Str) : Option Nat := match ixOf x c.N 0, c.sc.names.lookup x with
  | some i, some .local => some i
  | _, _ => none
def evPar (r : Ev) (c : Ctx) (tg value : Expr) (names : List Str) : TSD := match tg, value with
  | .Tuple [.Name x _, .Name y _] _ _, .Tuple [a, b] _ _ => match isLocN c x, isLocN c y with
    | some i, some j => if i ≠ j ∧ names = [x, y] then dPar i j (r.A c [a, b]) else fS
    | _, _ => fS
  | .Tuple [.Name x _, .Name y _, .Name z _] _ _, .Tuple [a, b, d] _ _ => match isLocN c x, isLocN c y, isLocN c z with
    | some i, some j, some l => if i ≠ j ∧ i ≠ l ∧ j ≠ l ∧ names = [x, y, z] then dPar3 i j l (r.A c [a, b, d]) else fS
    | _, _, _ => fS
  | _, _ => fS
def evSetLc (r : Ev) (c : Ctx) (tg value : Expr) : TSD := match tg, value with
  | .Name y _, .ListComp elt gens scope _ => match gens, isLocN c y with
    | [⟨tg, iter, ifs, k⟩], some i => if k = 0 ∧ isSetD iter = false ∧ blkC c.N c.sc scope (ownOf scope c.N) = true then
        dAsg (dLc (r.I c (isTup tg) iter) (r.G (blkX c scope) ((ownOf scope c.N).map (·.2)) tg) (evIfs r (blkX c scope) ifs) (r.E (blkX c scope) elt) ((ownOf scope c.N).map (·.2))) (dgName i) else fS
    | [⟨tg, iter, ifs, k⟩, ⟨tg1, iter1, ifs1, k1⟩], some i => if lc2B c iter iter1 tg1 k k1 scope = true then dAsg (evLc2 r c elt tg iter ifs tg1 iter1 ifs1 scope) (dgName i) else fS
    | _, _ => fS
  | _, _ => fS
def evAsg (r : Ev) (c : Ctx) (tg value : Expr) : TSD := match tg with
  | .Attribute o f _ => dFldSet c.K f (r.E c o) (r.E c value)
  | tg => if swB c value tg then evSetLc r c tg value else match swD c tg value with
    | some none => if plS tg then dAsg (r.E c value) (r.G c (List.range c.N.length) tg) else fS
    | some (some names) => evPar r c tg value names
    | none => fS
def evS (r : Ev) (c : Ctx) (s : Stmt) : TSD := match s with
  | .Pass _ => dNext
  | .Break _ => dBreak
  | .Continue _ => dCont
  | .Expr e _ => match compS e with
    | none => dDrop (r.E c e)
    | some _ => fS
  | .Return e _ => match e with
    | some e => dRet (r.E c e)
    | none => dRetN
  | .If t p q _ => dIfS (r.T c t) (r.Ss c p) (r.Ss c q)
  | .For tg it body orelse _ => match orelse with
    | [] => if isSetD it = false then dFor (r.I c (isTup tg) it) (r.G c (List.range c.N.length) tg) (r.Ss c body) else fS
    | _ => fS
  | .While t body orelse _ => match orelse with
    | [] => dWhile (r.T c t) (r.Ss c body)
    | _ => fS
  | .Raise e cause _ => match e, cause with
    | some (.Call (.Name x _) [.Constant (.str _) _ _] [] _), none => if isGl c x then dRaise (c.Γ.g x) else fS
    | some (.Call (.Name x _) (e0 :: es) [] _), none => if isGl c x && (e0 :: es).all plS then dRaiseA (c.Γ.g x) (r.A c (e0 :: es)) else fS
    | _, _ => fS
  | .Assign tgs e _ => match tgs with
    | [tg] => evAsg r c tg e
    | _ => fS
  | .AugAssign tg op e _ => match tg with
    | .Name x _ => match isLocN c x, ipR op with
      | some i, some q => dAug i q (r.E c e)
      | _, _ => fS
    | _ => fS
  | _ => fS
def evSs (r : Ev) (c : Ctx) : List Stmt → TSD
  | [] => dNext
  | [s] => r.S c s
  | s :: ss => dSeq (r.S c s) (r.Ss c ss)
def evStep (r : Ev) : Ev := ⟨evE r, evT r, evW r, evA r, evKw r, evO r, evI r, evG r, evGs r, evS r, evSs r⟩
def ev : Nat → Ev
  | 0 => ev0
  | n + 1 => evStep (ev n)
end Dl

namespace Dl
open PySem PySem.Spec PyProof.Rows L2

structure LamF (Θ : AbsI) (X : Cx) (k : Nat) (c : Ctx) : Prop where
  room : Room (k + 2) X.A
  tab : ∃ cd P, LamX.TabB X.base X.mg cd P ∧ X.env.code = .ref cd ∧ (P, X.env.qual ++ "<lambda>") ∈ Θ.T ∧ ∀ p ∈ Θ.T, p.1 = P → p.2 = X.env.qual ++ "<lambda>"
  cau : ∀ x CS, c.CS x = some CS → CaughtI X.K X.mg x CS
structure XOk (Θ : AbsI) (X : Cx) (W : WX) (k : Nat) (c : Ctx) : Prop where
  N : X.N = c.N
  nd : X.N.Nodup
  sc : X.env.scope = c.sc
  K : X.K = c.K
  fn : X.fn = c.fn
  calm : X.calm = true
  room : Room k X.A
  tk : Takes X W
  ok : GOk Θ X k c.Γ
  lam : c.lam = true → LamF Θ X k c
structure XOkS (Θ : AbsI) (X : Cx) (W : WX) (k : Nat) (c : Ctx) : Prop extends XOk Θ X W k c where
  own : PassesOwn (model X.prog X.w) X.A X.env X.xe
  kind : X.env.scope.kind = .function
structure EvOk (Θ : AbsI) (r : Ev) : Prop where
  E : ∀ {X W k c}, XOk Θ X W k c → ∀ e, PE X e (lowE Θ X.K W (r.E c e))
  T : ∀ {X W k c}, XOk Θ X W k c → ∀ e, PT X e (lowT Θ X.K W (r.T c e))
  W : ∀ {X W k c}, XOk Θ X W k c → ∀ e, PW X e (lowT Θ X.K W (r.W c e))
  A : ∀ {X W k c}, XOk Θ X W k c → ∀ e, PA X e (lowA Θ X.K W (r.A c e))
  Kw : ∀ {X W k c}, XOk Θ X W k c → ∀ e, PK X e (lowA Θ X.K W (r.Kw c e))
  O : ∀ {X W k c}, XOk Θ X W k c → ∀ e, PO X e (lowO Θ X.K W (r.O c e))
  I : ∀ {X W k c}, XOk Θ X W k c → ∀ tg e, PI X tg e (lowI Θ X.K W (r.I c (isTup tg) e))
  G : ∀ {X W k c}, XOk Θ X W k c → ∀ ns e, PG X e (lowG Θ X.K W ns (r.G c ns e))
  Gs : ∀ {X W k c}, XOk Θ X W k c → ∀ ns e, PGs X e (lowGs Θ X.K W ns (r.Gs c ns e))
  S : ∀ {X W k c}, XOkS Θ X W k c → ∀ e, PS X e (lowS Θ X.K W (r.S c e))
  Ss : ∀ {X W k c}, XOkS Θ X W k c → ∀ e, PSs X e (lowS Θ X.K W (r.Ss c e))
section
variable {Θ : AbsI} {X : Cx} {W : WX} {K : PySem.W.Frag}
theorem pe_fail {e : Expr} : PE X e (lowE Θ K W fE) := ⟨fun _ _ _ _ _ _ ⟨_, _, _, _, _, _, _, h, _⟩ => h.elim⟩
theorem pt_fail {e : Expr} : PT X e (lowT Θ K W fT) := ⟨fun _ _ _ _ _ _ ⟨_, _, _, _, _, _, _, h, _⟩ => h.elim⟩
theorem pw_fail {e : Expr} : PW X e (lowT Θ K W fT) := ⟨fun _ _ _ _ _ _ _ ⟨_, _, _, _, _, _, _, h, _⟩ => h.elim⟩
theorem pa_fail {e : List Expr} : PA X e (lowA Θ K W fA) := ⟨fun _ _ _ _ _ _ _ ⟨_, _, _, _, _, _, _, h, _⟩ => h.elim⟩
theorem pk_fail {e : List Keyword} : PK X e (lowA Θ K W fA) := ⟨fun _ _ _ _ _ _ _ ⟨_, _, _, _, _, _, _, h, _⟩ => h.elim⟩
theorem po_fail {e : Option Expr} : PO X e (lowO Θ K W fO) := ⟨fun _ _ _ _ _ _ ⟨_, _, _, _, _, _, _, h, _⟩ => h.elim⟩
theorem pi_fail {tg e : Expr} : PI X tg e (lowI Θ K W fI) := ⟨fun _ _ _ _ _ _ ⟨_, _, _, _, _, _, _, h, _⟩ => h.elim⟩
theorem pg_fail {ns : List Nat} {e : Expr} : PG X e (lowG Θ K W ns fG) := ⟨fun _ _ _ _ _ _ _ _ _ ⟨_, _, _, _, _, _, _, _, _, h, _⟩ => h.elim⟩
theorem pgs_fail {ns : List Nat} {e : List Expr} : PGs X e (lowGs Θ K W ns fGs) := ⟨fun _ _ _ _ _ _ _ _ _ ⟨_, _, _, _, _, _, _, _, _, h, _⟩ => h.elim⟩
theorem ps_fail {e : Stmt} : PS X e (lowS Θ K W fS) := ⟨fun _ _ _ _ _ _ ⟨_, _, _, _, _, _, h, _⟩ => h.elim⟩
theorem pss_fail {e : List Stmt} : PSs X e (lowS Θ K W fS) := ⟨fun _ _ _ _ _ _ ⟨_, _, _, _, _, _, h, _⟩ => h.elim⟩
end
theorem ev0_ok {Θ : AbsI} : EvOk Θ ev0 := ⟨fun _ _ => pe_fail, fun _ _ => pt_fail, fun _ _ => pw_fail, fun _ _ => pa_fail, fun _ _ => pk_fail, fun _ _ => po_fail, fun _ _ _ => pi_fail, fun _ _ _ => pg_fail, fun _ _ _ => pgs_fail, fun _ _ => ps_fail, fun _ _ => pss_fail⟩

theorem ixOf_get {x : Str} : ∀ {N : List Str} {k i : Nat}, ixOf x N k = some i → k ≤ i ∧ N[i - k]? = some x
  | [], _, _, h => by cases h
  | y :: r, k, i, h => by
    unfold ixOf at h
    split at h
    · rename_i e
      cases h
      subst e
      exact ⟨Nat.le_refl _, by rw [Nat.sub_self]; rfl⟩
    · obtain ⟨h1, h2⟩ := ixOf_get h
      refine ⟨by omega, ?_⟩
      rw [show i - k = (i - (k + 1)) + 1 by omega]
      exact h2
theorem ixOf_0 {x : Str} {N : List Str} {i : Nat} (h : ixOf x N 0 = some i) : N[i]? = some x := (ixOf_get h).2
theorem odd_no {x : Str} (h : oddN x = false) : (x == ("__debug__" : Str)) = false ∧ (x == ("__classdict__" : Str)) = false ∧ x ≠ "__name__" := by
  unfold oddN at h
  simp only [Bool.or_eq_false_iff] at h
  exact ⟨h.1.1, h.1.2, fun e => by rw [e] at h; simp at h⟩
theorem isGl_of {c : Ctx} {x : Str} (h : isGl c x = true) : oddN x = false ∧ c.sc.names.lookup x = some .globalImplicit := by
  unfold isGl at h
  simp only [Bool.and_eq_true, Bool.not_eq_true', decide_eq_true_eq] at h
  exact h
theorem cmp_ok {Θ : AbsI} {X : Cx} (hu1 : X.A.units + 65 < cLine) (op : CmpOp) : OpR X (compareOp op) (lowR2 Θ X.K (cmpR op)) := by
  have hu : X.A.units + 64 < cLine := by omega
  cases op
  · exact od_eq hu
  · exact od_ne hu
  · exact od_lt
  · exact od_le
  · exact od_gt
  · exact od_ge
  · exact od_is
  · exact od_isnot
  · exact od_in hu1
  · exact od_notin hu1
theorem in_bl (neg : Bool) (x y : D) (G : GH) (Q : DK) (h : rIn neg x y G Q) : rIn neg x y G fun d G' => (∃ b, d = .bl b) ∧ Q d G' := by
  unfold rIn at h ⊢
  cases e : seqOf G y with
  | none => rw [e] at h; exact h
  | some ds =>
    rw [e] at h
    rcases h with ⟨h1, h2, h3⟩ | ⟨h0, p, qs, e1, e2, s1, s2, h3⟩
    · exact .inl ⟨h1, h2, ⟨_, rfl⟩, h3⟩
    · exact .inr ⟨h0, p, qs, e1, e2, s1, s2, ⟨_, rfl⟩, h3⟩
theorem cmp_bl (op : CmpOp) (x y : D) (G : GH) (Q : DK) (h : cmpR op x y G Q) : cmpR op x y G fun d G' => (∃ b, d = .bl b) ∧ Q d G' := by
  cases op <;> first
    | exact in_bl _ _ _ _ _ h
    | (cases x <;> cases y <;> first
      | exact ⟨⟨_, rfl⟩, h⟩
      | exact False.elim h
      | (rcases h with ⟨p, q, h1, h2, h3, h4, h5⟩ | ⟨k, l, h1, h2, h3, h5⟩ | ⟨ds, h1, h2, h5⟩
         · exact .inl ⟨p, q, h1, h2, h3, h4, ⟨_, rfl⟩, h5⟩
         · exact .inr (.inl ⟨k, l, h1, h2, h3, ⟨_, rfl⟩, h5⟩)
         · exact .inr (.inr ⟨ds, h1, h2, ⟨_, rfl⟩, h5⟩)))
theorem bin_ok {Θ : AbsI} {X : Cx} {op : Operator} {q : R2D} (h : binR op = some q) : OpR X (binaryOp op) (lowR2 Θ X.K q) := by
  cases op <;> cases h
  · exact od_add
  · exact od_sub
  · exact od_mul
  · exact od_mod
  · exact od_pow
  · exact od_or
  · exact od_fdiv
theorem ip_ok {Θ : AbsI} {X : Cx} {op : Operator} {q : R2D} (h : ipR op = some q) : PIp X op (lowR2 Θ X.K q) := by
  cases op <;> cases h
  · intro pins s σ H x y v u Q I r1 r2 ⟨G, F, d, e, Q', rep, hd, he, h, k⟩
    cases d with
    | int i => cases e with
      | int j => cases hd; cases he; exact ip_add pins s σ H _ _ v u Q I r1 r2 ⟨i, j, rfl, rfl, k _ _ _ _ Ext.refl .int rep h⟩
      | _ => exact h.elim
    | _ => exact h.elim
  · intro pins s σ H x y v u Q I r1 r2 ⟨G, F, d, e, Q', rep, hd, he, h, k⟩
    cases d with
    | int i => cases e with
      | int j => cases hd; cases he; exact ip_sub pins s σ H _ _ v u Q I r1 r2 ⟨i, j, rfl, rfl, k _ _ _ _ Ext.refl .int rep h⟩
      | _ => exact h.elim
    | _ => exact h.elim
theorem base_simp {o : Expr} {m : Str} {env : Env} {w : Sem Value} (h : simpB o = true) : attributeBase o m env w = w := by
  cases o <;> first | rfl | cases h
theorem kw_len : ∀ {kws : List Keyword} {ks : List Str}, kwNames kws = some ks → kws.map (·.arg) = ks.map some
  | [], _, h => by cases h; rfl
  | ⟨some x, e, p⟩ :: r, ks, h => by
    unfold kwNames at h
    cases e1 : kwNames r with
    | none => rw [e1] at h; cases h
    | some l =>
      rw [e1] at h
      cases h
      simp [kw_len e1]
  | ⟨none, e, p⟩ :: r, ks, h => by cases h
theorem few_args {env : Env} {pos : Pos} : ∀ {es : List Expr}, es.all plS = true → (backTo pos (starEach es env)).all (fun x => !x.1) = true
  | [], _ => rfl
  | e :: es, h => by
    rw [List.all_cons, Bool.and_eq_true] at h
    rw [star_cons h.1]
    show (!false && (backTo pos (starEach es env)).all (fun x => !x.1)) = true
    rw [few_args h.2]; rfl
theorem few_form {env : Env} {pos : Pos} {es : List Expr} {kws : List Keyword} {ks : List Str} (hs : es.all plS = true) (hk : kws.map (·.arg) = ks.map some) (hn : es.length + kws.length < 29) :
    methodCallForm (es.length + kws.length) (backTo pos (starEach es env)) (backToKw pos (keywordEach kws env)) = true := by
  unfold methodCallForm
  rw [few_args hs, (kw_names (env := env) (pos := pos) hk).1]
  have : es.length + kws.length + (if (backToKw pos (keywordEach kws env)).isEmpty = true then 0 else 1) < 30 := by split <;> omega
  simpa using this
theorem meth_ht {env : Env} {o : Expr} {m : Str} {apos pos : Pos} {es : List Expr} {kws : List Keyword} {ks : List Str} (hb : simpB o = true) (hs : es.all plS = true) (hk : kws.map (·.arg) = ks.map some) (hn : es.length + kws.length < 29) (hl : (apos.endLine == pos.line) = true) :
    eval (.Call (.Attribute o m apos) es kws pos) env = (do
      let ov ← eval o env
      standAt apos.atName
      let (f, first) ← holding [ov] (getMethod ov m (do return (← importBound o env).getD true))
      callWith pos f first (backTo pos (starEach es env)) (backToKw pos (keywordEach kws env))) := by
  have f := few_form (env := env) (pos := pos) hs hk hn
  show (do
    let ov ← attributeBase o m env (eval o env)
    standAt apos.atName
    methodCall o m apos pos env ov (es.length + kws.length) (backTo pos (starEach es env)) (backToKw pos (keywordEach kws env))) = _
  rw [base_simp hb]
  have e2 : methodCallPos true o env apos pos = pure pos := by
    unfold methodCallPos
    rw [hl]
    rfl
  have e : ∀ ov, methodCall o m apos pos env ov (es.length + kws.length) (backTo pos (starEach es env)) (backToKw pos (keywordEach kws env)) = (do
      let (f, first) ← holding [ov] (getMethod ov m (do return (← importBound o env).getD true))
      callWith pos f first (backTo pos (starEach es env)) (backToKw pos (keywordEach kws env))) := fun ov => by
    unfold methodCall
    rw [f, e2]
    show (do
      let (f, first) ← holding [ov] (getMethod ov m (do return (← importBound o env).getD true))
      let callPos ← pure pos
      callWith callPos f first (backTo pos (starEach es env)) (backToKw pos (keywordEach kws env))) = _
    simp only [pure_bind]
  simp only [e]
end Dl

namespace Dl
open PySem PySem.Spec PyProof.Rows L2
section
variable {Θ : AbsI} {X : Cx} {W : WX} {k : Nat} {c : Ctx} {r : Ev}
theorem XOk.gl (h : XOk Θ X W k c) {x : Str} (hg : c.sc.names.lookup x = some .globalImplicit) : Gl X x := by
  show X.env.scope.names.lookup x = _
  rw [h.sc]; exact hg
theorem XOk.u (h : XOk Θ X W k c) : X.A.units + 64 < cLine := h.room.units
theorem XOk.u65 (h : XOk Θ X W k c) : X.A.units + 65 < cLine := by have := h.room.un; omega
theorem XOk.u1 (h : XOk Θ X W k c) : X.A.units + 1 < cLine := by have := h.room.units; omega
theorem isBlt_of {g : GV} (h : isBlt g = true) : g = .blt := by cases g <;> first | rfl | cases h
theorem de_alt {e : Expr} {t u : TED} (h1 : PE X e (lowE Θ X.K W t)) (h2 : PE X e (lowE Θ X.K W u)) : PE X e (lowE Θ X.K W (dAlt t u)) :=
  ⟨fun pins s σ H R I ⟨ρ, G, F, Q, DX, ee, rr, h, x, kk⟩ => by
    rcases h with h | h
    · exact h1.run pins s σ H R I (lowE_mk ee rr x h kk)
    · exact h2.run pins s σ H R I (lowE_mk ee rr x h kk)⟩
theorem de_bty {x : Str} {n : String} {pos : Pos} (ok : GOk Θ X k c.Γ) (hg : Gl X x) (ho : oddN x = false) (hv : bootBuiltins x = some (.type n)) : PE X (.Name x pos) (lowE Θ X.K W (dBty (c.Γ.g x) n)) :=
  ⟨fun pins s σ H R I ⟨ρ, G, F, Q, DX, ee, rr, h, xx, kk⟩ => by
    obtain ⟨h1, h2, h3⟩ := odd_no ho
    have hm := ok.g x
    rw [isBlt_of h.1] at hm
    exact (pe_bltn (v := .ty n) hg hm hv rfl h3 h1).run pins s σ H R I (kk _ _ _ _ Ext.refl .ty rr h.2)⟩
theorem tyOf_ok {x : Str} {n : String} (h : tyOf x = some n) : bootBuiltins x = some (.type n) := by
  unfold tyOf at h
  split at h
  · rename_i e; subst e; cases h; decide +kernel
  split at h
  · rename_i e; subst e; cases h; decide +kernel
  split at h
  · rename_i e; subst e; cases h; decide +kernel
  split at h
  · rename_i e; subst e; cases h; decide +kernel
  split at h
  · rename_i e; subst e; cases h; decide +kernel
  split at h
  · rename_i e; subst e; cases h; decide +kernel
  · cases h
theorem evName_ok (h : XOk Θ X W k c) (x : Str) (pos : Pos) : PE X (.Name x pos) (lowE Θ X.K W (evName c x)) := by
  unfold evName
  have hsc : ∀ kd, c.sc.names.lookup x = some kd → X.env.scope.names.lookup x = some kd := fun kd e => by rw [h.sc]; exact e
  cases ho : oddN x with
  | true => exact pe_fail
  | false =>
    obtain ⟨h1, h2, h3⟩ := odd_no ho
    cases hl : c.sc.names.lookup x with
    | none => exact pe_fail
    | some kd =>
      cases kd with
      | «local» =>
        cases hi : ixOf x c.N 0 with
        | none => exact pe_fail
        | some i => exact de_var (by rw [h.N]; exact ixOf_0 hi) (.inl (hsc _ hl)) h1 h2
      | cell =>
        cases hi : ixOf x c.N 0 with
        | none => exact pe_fail
        | some i => exact de_var (by rw [h.N]; exact ixOf_0 hi) (.inr (.inl (hsc _ hl))) h1 h2
      | free =>
        cases hi : ixOf x c.N 0 with
        | none => exact pe_fail
        | some i => exact de_var (by rw [h.N]; exact ixOf_0 hi) (.inr (.inr (hsc _ hl))) h1 h2
      | globalExplicit => exact pe_fail
      | globalImplicit =>
        cases ht : tyOf x with
        | none => exact de_glob h.ok (h.gl hl) h1
        | some n => exact de_bty h.ok (h.gl hl) ho (tyOf_ok ht)
/-- the built-ins -/
inductive BltR (Θ : AbsI) (X : Cx) (x : Str) (q : RLD) : Prop where
  | fn (id : String) (hv : bootBuiltins x = some (.builtin id)) (hc : CallR X (.builtin id) (lowRL Θ X.K q)) : BltR Θ X x q
  | ty (id : String) (hv : bootBuiltins x = some (.type id)) (hc : CallR X (.type id) (lowRL Θ X.K q)) : BltR Θ X x q
theorem bltOf_ok (hc : X.calm = true) {x : Str} {q : RLD} (h : bltOf X.K x = some q) : BltR Θ X x q := by
  unfold bltOf at h
  by_cases e : x = "len"
  · rw [if_pos e] at h
    subst e; cases h; exact .fn _ (by decide +kernel) cd_len
  rw [if_neg e] at h
  clear e
  by_cases e : x = "all"
  · rw [if_pos e] at h
    subst e; cases h; exact .fn _ (by decide +kernel) (cd_all hc)
  rw [if_neg e] at h
  clear e
  by_cases e : x = "any"
  · rw [if_pos e] at h
    subst e; cases h; exact .fn _ (by decide +kernel) (cd_any hc)
  rw [if_neg e] at h
  clear e
  by_cases e : x = "sum"
  · rw [if_pos e] at h
    subst e; cases h; exact .fn _ (by decide +kernel) (cd_sum hc)
  rw [if_neg e] at h
  clear e
  by_cases e : x = "max"
  · rw [if_pos e] at h
    subst e; cases h; exact .fn _ (by decide +kernel) (cd_max hc)
  rw [if_neg e] at h
  clear e
  by_cases e : x = "min"
  · rw [if_pos e] at h
    subst e; cases h; exact .fn _ (by decide +kernel) (cd_min hc)
  rw [if_neg e] at h
  clear e
  by_cases e : x = "abs"
  · rw [if_pos e] at h
    subst e; cases h; exact .fn _ (by decide +kernel) cd_abs
  rw [if_neg e] at h
  clear e
  by_cases e : x = "int"
  · rw [if_pos e] at h
    subst e; cases h; exact .ty _ (by decide +kernel) cd_int
  rw [if_neg e] at h
  clear e
  by_cases e : x = "list"
  · rw [if_pos e] at h
    subst e; cases h; exact .ty _ (by decide +kernel) cd_list
  rw [if_neg e] at h
  clear e
  by_cases e : x = "tuple"
  · rw [if_pos e] at h
    subst e; cases h; exact .ty _ (by decide +kernel) cd_tuple
  rw [if_neg e] at h
  clear e
  by_cases e : x = "isinstance"
  · rw [if_pos e] at h
    subst e; cases h; exact .fn _ (by decide +kernel) cd_isi
  rw [if_neg e] at h
  clear e
  by_cases e : x = "sorted"
  · rw [if_pos e] at h
    subst e; cases h; exact .fn _ (by decide +kernel) cd_sorted
  rw [if_neg e] at h
  clear e
  by_cases e : x = "str"
  · rw [if_pos e] at h
    subst e; cases h; exact .ty _ (by decide +kernel) cd_str
  rw [if_neg e] at h
  clear e
  cases h
theorem de_bc {x : Str} {p pos : Pos} {e : Expr} {es : List Expr} {q : RLD} {t : TAD} (ok : GOk Θ X k c.Γ) (hg : Gl X x) (ho : oddN x = false) (B : BltR Θ X x q) (hs : (e :: es).all plS = true) (ha : PA X (e :: es) (lowA Θ X.K W t)) :
    PE X (.Call (.Name x p) (e :: es) [] pos) (lowE Θ X.K W (dBc (c.Γ.g x) q t)) :=
  ⟨fun pins s σ H R I ⟨ρ, G, F, Q, DX, ee, rr, h, xx, kk⟩ => by
    obtain ⟨h1, h2, h3⟩ := odd_no ho
    have hm := ok.g x
    rw [isBlt_of h.1] at hm
    rw [List.all_cons, Bool.and_eq_true] at hs
    cases B with
    | fn id hv hc => exact ((pe_callB hc hg hm hv ha h3 h1 (star_cons hs.1) (star_plain hs.2)).weak (low_b (r := q) fun _ _ _ h => h)).run pins s σ H R I (lowE_mk ee rr xx h.2 kk)
    | ty id hv hc => exact ((pe_callTy hc hg hm hv ha h3 h1 (star_cons hs.1) (star_plain hs.2)).weak (low_b (r := q) fun _ _ _ h => h)).run pins s σ H R I (lowE_mk ee rr xx h.2 kk)⟩
theorem lam_bind {q : Str} {body : Expr} {scope : Scope} {cl : List (Str × Addr)} {pm cv ctv : Value} : bindArgs (PySem.W.kla_fn "<lambda>" q ⟨[], [], none, [], [], none, []⟩ body scope cl pm cv ctv) ⟨[], []⟩ = pure [] := rfl
theorem evLam_ok (ih : EvOk Θ r) (h : XOk Θ X W k c) {x : Str} {p pos lpos : Pos} {params : Arguments} {body : Expr} {scope : Scope} (hgl : isGl c x = true) : PE X (.Call (.Name x p) [.Lambda params body scope lpos] [] pos) (lowE Θ X.K W (evLam r c x params body scope)) := by
  obtain ⟨ho, hl⟩ := isGl_of hgl
  obtain ⟨h1, h2, h3⟩ := odd_no ho
  unfold evLam
  split
  · rename_i CS hlam hcs
    split
    · rename_i hL
      obtain ⟨hroom, ⟨cd, P, t1, t2, t3, t4⟩, hcau⟩ := h.lam hlam
      rw [show dCaught c.K CS (r.E { c with sc := scope, fn := fun _ => false, lam := false } body) = dCaught X.K CS (r.E { c with sc := scope, fn := fun _ => false, lam := false } body) from by rw [h.K]]
      refine de_caught (k := k) (hcau x CS hcs) (h.gl hl) h1 t1 t2 t3 t4 hroom (by rw [h.sc]; exact LamX.lamS_by hL) rfl (fun _ _ _ _ _ => lam_bind) fun A outer s H E f c' hr => ?_
      exact ih.E (X := LamX.lamCx X A outer s H E scope f c') (k := k) (c := { c with sc := scope, fn := fun _ => false, lam := false }) ⟨h.N, h.nd, rfl, h.K, rfl, rfl, hr, lam_takes, ⟨h.ok.g, h.ok.m⟩, fun z => absurd z Bool.false_ne_true⟩ body
    · exact pe_fail
  · exact pe_fail
theorem few_kw0 {env : Env} {pos : Pos} {es : List Expr} (hs : es.all plS = true) (hn : es.length + 0 < 29) : ((backTo pos (starEach es env)).all (fun x => !x.1) && (backToKw pos (keywordEach [] env)).all (fun x => x.1.isSome)
      && decide (es.length + ([] : List Keyword).length + (if ([] : List Keyword).isEmpty then 0 else 1) < 30)) = true := by
  rw [few_args hs, show (backToKw pos (keywordEach [] env)).all (fun x => x.1.isSome) = true from rfl]
  have : es.length + 0 + 0 < 30 := by omega
  simpa using this
theorem evLRg_ok (ih : EvOk Θ r) (h : XOk Θ X W k c) {x : Str} {p pos : Pos} {args : List Expr} {t : TED} (hgl : isGl c x = true) (e : evLRg r c x args = some t) : PE X (.Call (.Name x p) args [] pos) (lowE Θ X.K W t) := by
  unfold evLRg at e
  split at e
  · split at e
    · rename_i hh
      obtain ⟨hx, hy, hg2, hp⟩ := hh
      subst hx; subst hy
      cases e
      exact de_lrg1 h.ok h.calm (h.gl (isGl_of hgl).2) (h.gl (isGl_of hg2).2) (ih.E h _) hp
    · split at e
      · rename_i hh
        obtain ⟨hx, hy, hg2, hp⟩ := hh
        subst hx; subst hy
        cases e
        exact de_lenset h.ok h.calm (h.gl (isGl_of hgl).2) (h.gl (isGl_of hg2).2) (ih.E h _) hp
      · split at e
        · rename_i hh
          obtain ⟨hx, hy, hg2, hp⟩ := hh
          subst hx; subst hy
          cases e
          exact de_srtset h.ok h.calm (h.gl (isGl_of hgl).2) (h.gl (isGl_of hg2).2) (ih.E h _) hp
        · cases e
  · cases e
theorem evCallN_ok (ih : EvOk Θ r) (h : XOk Θ X W k c) {x : Str} {p pos : Pos} {args : List Expr} {kws : List Keyword} : PE X (.Call (.Name x p) args kws pos) (lowE Θ X.K W (evCallN r c x args kws)) := by
  unfold evCallN
  split
  · rename_i hgl
    obtain ⟨ho, hl⟩ := isGl_of hgl
    obtain ⟨h1, h2, h3⟩ := odd_no ho
    split
    · split
      · rename_i hlr
        exact evLRg_ok ih h hgl hlr
      · split
        · rename_i q e es hq hno
          split
          · rename_i hs
            rw [← h.K] at hq
            exact de_bc h.ok (h.gl hl) ho (bltOf_ok h.calm hq) hs (ih.A h _)
          · exact pe_fail
        · exact de_call0 h.ok h.room h.tk (h.gl hl) h1
        · exact evLam_ok ih h hgl
        · rename_i e es _ _ _
          split
          · rename_i hs
            exact de_call h.ok h.room h.tk (h.gl hl) h1 hs (ih.A h _)
          · exact pe_fail
    · split
      · rename_i ks hk
        exact de_callK0 h.ok h.room h.tk (h.gl hl) h1 (kw_len hk) (ih.Kw h _)
      · rename_i ks e es hk
        split
        · rename_i hs
          exact de_callK h.ok h.room h.tk (h.gl hl) h1 hs (kw_len hk) (ih.A h _) (ih.Kw h _)
        · exact pe_fail
      · exact pe_fail
  · exact pe_fail
theorem evCallM_ok (ih : EvOk Θ r) (h : XOk Θ X W k c) {o : Expr} {m : Str} {apos pos : Pos} {args : List Expr} {kws : List Keyword} (hb : simpB o = true) (hli : (apos.endLine == pos.line) = true) (hn : args.length + kws.length < 29) :
    PE X (.Call (.Attribute o m apos) args kws pos) (lowE Θ X.K W (evCallM r c o m args kws)) := by
  unfold evCallM
  split
  · split
    · split
      · rename_i e
        subst e
        exact de_lm0 PySem.F.plainAttrs_list PySem.F.slot_list_pop PySem.F.type_list_pop md_pop (ih.E h _) (base_simp hb) hli
      · exact de_meth0 h.ok h.room h.tk (ih.E h _) (meth_ht (ks := []) hb rfl rfl hn hli)
    · rename_i e es
      split
      · rename_i hs
        split
        · rename_i e
          subst e
          exact de_lm PySem.F.plainAttrs_list PySem.F.slot_list_append PySem.F.type_list_append md_append (ih.E h _) (ih.A h _) (base_simp hb) (few_kw0 hs hn) hli hs
        split
        · rename_i e
          subst e
          exact de_lm PySem.F.plainAttrs_list PySem.F.slot_list_extend PySem.F.type_list_extend md_extend (ih.E h _) (ih.A h _) (base_simp hb) (few_kw0 hs hn) hli hs
        split
        · rename_i e
          subst e
          exact de_lm PySem.F.plainAttrs_list PySem.F.slot_list_pop PySem.F.type_list_pop md_popAt (ih.E h _) (ih.A h _) (base_simp hb) (few_kw0 hs hn) hli hs
        · exact de_meth h.ok h.room h.tk (ih.E h _) hs (ih.A h _) (meth_ht (ks := []) hb hs rfl hn hli)
      · exact pe_fail
  · split
    · rename_i ks hk
      exact de_methK0 h.ok h.room h.tk (ih.E h _) (kw_len hk) (ih.Kw h _) (meth_ht (ks := ks) hb rfl (kw_len hk) hn hli)
    · rename_i ks e es hk
      split
      · rename_i hs
        exact de_methK h.ok h.room h.tk (ih.E h _) hs (kw_len hk) (ih.A h _) (ih.Kw h _) (meth_ht (ks := ks) hb hs (kw_len hk) hn hli)
      · exact pe_fail
    · exact pe_fail
theorem evCall_ok (ih : EvOk Θ r) (h : XOk Θ X W k c) {f : Expr} {pos : Pos} {args : List Expr} {kws : List Keyword} : PE X (.Call f args kws pos) (lowE Θ X.K W (evCall r c f args kws pos)) := by
  unfold evCall
  split
  · exact evCallN_ok ih h
  · split
    · rename_i hh
      simp only [Bool.and_eq_true, decide_eq_true_eq] at hh
      exact evCallM_ok ih h hh.1.1 hh.1.2 hh.2
    · exact pe_fail
  · exact pe_fail
theorem XOk.blk (h : XOk Θ X W k c) (scope : Scope) (s : Shared) (H : Hp) (C : Addr) (cl : List (Str × Addr)) (fp : List Addr) : XOk Θ (X.blk s H scope (compEnvC scope cl C X.env) fp) (fun _ _ _ _ => False) k (blkX c scope) :=
  ⟨h.N, h.nd, by show relS scope X.env.scope = relS scope c.sc; rw [h.sc], h.K, rfl, h.calm, h.room, takes0, ⟨h.ok.g, h.ok.m⟩, fun z => absurd z Bool.false_ne_true⟩
theorem setD_hs {iter : Expr} {env : Env} (h : isSetD iter = false) : ∀ x, foldedSetIterable iter env x = pure x := by
  intro x
  cases iter <;> first | rfl | cases h
theorem evIfs_ok {W : WX} {X : Cx} {c : Ctx} (ih : EvOk Θ r) (h : XOk Θ X W k c) (ifs : List Expr) : PTs X ifs (lowT Θ X.K W (evIfs r c ifs)) := by
  unfold evIfs
  split
  · exact ⟨fun pins s σ H Q I ⟨ρ, G, F, Q', DX, e, rr, hh, x, kk⟩ => pts_nil.run pins s σ H Q I (kk _ _ _ Ext.refl rr hh)⟩
  · exact pts_one (ih.T h _)
  · exact ⟨fun _ _ _ _ _ _ ⟨_, _, _, _, _, _, _, h, _⟩ => h.elim⟩
theorem lc2B_of {c : Ctx} {iter iter1 tg1 : Expr} {k k1 : Int} {scope : Scope} (h : lc2B c iter iter1 tg1 k k1 scope = true) : k = 0 ∧ k1 = 0 ∧ isSetD iter = false ∧ isSetD iter1 = false ∧ blkC c.N c.sc scope (ownOf scope c.N) = true ∧ ∀ i ∈ tgSl c tg1, i ∈ (ownOf scope c.N).map (·.2) := by
  unfold lc2B at h
  simp only [Bool.and_eq_true, decide_eq_true_eq, Bool.not_eq_true', List.all_eq_true, List.contains_iff_mem] at h
  exact h
theorem evLc_ok (ih : EvOk Θ r) (h : XOk Θ X W k c) {elt : Expr} {gens : List Comprehension} {scope : Scope} {pos : Pos} : PE X (.ListComp elt gens scope pos) (lowE Θ X.K W (evLc r c elt gens scope)) := by
  unfold evLc
  split
  · rename_i tg iter ifs kk
    split
    · rename_i hh
      obtain ⟨hk, hd, hb⟩ := hh
      subst hk
      refine (pe_lc h.calm h.nd (ih.I h tg iter) (own := ownOf scope c.N) (by rw [h.N, h.sc]; exact blkOk_by hb) (fun s H C cl fp => ih.G (h.blk scope s H C cl fp) _ tg) (fun s H C cl fp => evIfs_ok ih (h.blk scope s H C cl fp) ifs) (fun s H C cl fp => ih.E (h.blk scope s H C cl fp) elt) (setD_hs hd)).weak
        (lc_low (elt := elt) rfl)
    · exact pe_fail
  · rename_i tg iter ifs kk tg1 iter1 ifs1 kk1
    split
    · rename_i hh
      obtain ⟨hk, hk1, hd, hd1, hb, hv⟩ := lc2B_of hh
      subst hk; subst hk1
      refine (pe_lc2 h.calm h.nd (ih.I h tg iter) (own := ownOf scope c.N) (vs1 := tgSl c tg1) (by rw [h.N, h.sc]; exact blkOk_by hb) hv (fun s H C cl fp => ih.G (h.blk scope s H C cl fp) _ tg) (fun s H C cl fp => evIfs_ok ih (h.blk scope s H C cl fp) ifs)
        (fun s H C cl fp => ih.I (h.blk scope s H C cl fp) tg1 iter1) (fun s H C cl fp => ih.G (h.blk scope s H C cl fp) _ tg1) (fun s H C cl fp => evIfs_ok ih (h.blk scope s H C cl fp) ifs1) (fun s H C cl fp => ih.E (h.blk scope s H C cl fp) elt) (setD_hs hd) (fun env => setD_hs hd1)).weak (lc2_low rfl)
    · exact pe_fail
  · exact pe_fail
theorem evPairs_ok (ih : EvOk Θ r) (h : XOk Θ X W k c) : ∀ (ks : List (Option Expr)) (vs : List Expr) {l : List (TED × TED)}, evPairs r c ks vs = some l → PrOk X Θ W ks vs l
  | [], [], _, e => by cases e; exact .nil
  | some k :: ks, v :: vs, _, e => by
    unfold evPairs at e
    split at e
    · rename_i l e1
      cases e
      exact .cons (ih.E h _) (ih.E h _) (evPairs_ok ih h ks vs e1)
    · cases e
  | [], _ :: _, _, e => by cases e
  | none :: _, _, _, e => by cases e
  | some _ :: _, [], _, e => by cases e
theorem evDict_ok (ih : EvOk Θ r) (h : XOk Θ X W k c) {ks : List (Option Expr)} {vs : List Expr} {pos : Pos} : PE X (.Dict ks vs pos) (lowE Θ X.K W (evDict r c ks vs)) := by
  unfold evDict
  split
  · exact de_disp0
  · split
    · rename_i he
      split
      · rename_i hl
        exact de_disp (evPairs_ok ih h _ _ he) (List.cons_ne_nil _ _) hl
      · exact pe_fail
    · exact pe_fail
  · exact pe_fail
theorem constD_ok {v : Const} {d : D} {j : Nat} {pos : Pos} (h : constD v = some d) : PE X (.Constant v j pos) (lowE Θ X.K W (dC d)) := by
  cases v <;> first | cases h | skip
  · exact de_non
  · exact de_bl
  · exact de_int
  · exact de_str
theorem evE_ok (ih : EvOk Θ r) (h : XOk Θ X W k c) (e : Expr) : PE X e (lowE Θ X.K W (evE r c e)) := by
  unfold evE
  split
  · split
    · rename_i hv; exact constD_ok hv
    · exact pe_fail
  · exact evName_ok h _ _
  · split
    · rename_i hq; exact de_bin (bin_ok hq) (ih.E h _) (ih.E h _)
    · exact pe_fail
  · split
    · exact de_not (ih.E h _)
    · exact de_un ud_neg (ih.E h _)
    · exact pe_fail
  · split
    · split
      · rename_i hm; exact de_cmp (cmp_ok h.u65 _) (ih.E h _) (ih.E h _) hm
      · exact pe_fail
    · split
      · rename_i hm; exact de_chain (cmp_ok h.u65 _) (cmp_ok h.u65 _) (ih.E h _) (ih.E h _) (ih.E h _) hm
      · exact pe_fail
    · exact pe_fail
  · split
    · exact pe_fail
    · exact de_one (ih.E h _)
    · split
      · exact de_and (ih.E h _) (ih.E h _)
      · exact de_or (ih.E h _) (ih.E h _)
  · exact de_if (ih.T h _) (ih.E h _) (ih.E h _)
  · exact de_tup (ih.A h _)
  · exact de_lst (ih.A h _)
  · split
    · rename_i hb
      rw [show ∀ f t, dFld c.K f t = dFld X.K f t from fun f t => by rw [h.K]]
      exact de_fld (ih.E h _) (base_simp hb)
    · exact pe_fail
  · split
    · split
      · exact de_slice (ih.E h _) (ih.O h _) (ih.O h _)
      · split
        · exact de_rev (ih.E h _)
        · exact pe_fail
    · split
      · rename_i hp; exact de_sub h.u1 (ih.E h _) (ih.E h _) hp
      · exact pe_fail
  · exact evCall_ok ih h
  · exact evLc_ok ih h
  · exact evDict_ok ih h
  · exact pe_fail
theorem evW_ok (ih : EvOk Θ r) (h : XOk Θ X W k c) (e : Expr) : PW X e (lowT Θ X.K W (evW r c e)) := by
  unfold evW
  split
  · split
    · exact pw_fail
    · rename_i op _ _ a
      cases op
      · exact dw_and1 (ih.T h _)
      · exact dw_or1 (ih.T h _)
    · split
      · exact dw_and (ih.T h _) (ih.W h _)
      · exact dw_or (ih.T h _) (ih.W h _)
  · exact pw_fail
theorem evT_ok (ih : EvOk Θ r) (h : XOk Θ X W k c) (e : Expr) : PT X e (lowT Θ X.K W (evT r c e)) := by
  cases e with
  | UnaryOp op a pos =>
    cases op with
    | Not => exact dt_not (ih.T h _)
    | _ => exact dt_tru (ih.E h _) fun _ => rfl
  | BoolOp op vs pos => exact (ih.W h _).pt
  | IfExp t a b pos => exact pt_fail
  | Compare a ops bs pos =>
    show PT X _ (lowT Θ X.K W (match ops, bs with
    | [op], [b] => if behindInMarks op b = false then dTru (dBin (cmpR op) (r.E c a) (r.E c b)) else fT
    | [op, op'], [b, d] => if lastMarks [op, op'] [b, d] = false then dTru (dChain (cmpR op) (cmpR op') (r.E c a) (r.E c b) (r.E c d)) else fT
    | _, _ => fT))
    split
    · split
      · rename_i hm; exact dt_cmp (cmp_ok h.u65 _) (cmp_bl _) (ih.E h _) (ih.E h _) hm
      · exact pt_fail
    · split
      · rename_i hm; exact dt_chain (cmp_ok h.u65 _) (cmp_ok h.u65 _) (cmp_bl _) (ih.E h _) (ih.E h _) (ih.E h _) hm
      · exact pt_fail
    · exact pt_fail
  | _ => exact dt_tru (ih.E h _) fun _ => rfl
theorem evA_ok (ih : EvOk Θ r) (h : XOk Θ X W k c) (es : List Expr) : PA X es (lowA Θ X.K W (evA r c es)) := by
  unfold evA
  split
  · exact da_nil
  · split
    · rename_i hs; exact da_cons (ih.E h _) (ih.A h _) (star_cons hs)
    · exact pa_fail
theorem evKw_ok (ih : EvOk Θ r) (h : XOk Θ X W k c) (es : List Keyword) : PK X es (lowA Θ X.K W (evKw r c es)) := by
  unfold evKw
  split
  · exact dk_nil
  · exact dk_cons (ih.E h _) (ih.Kw h _)
theorem evO_ok (ih : EvOk Θ r) (h : XOk Θ X W k c) (es : Option Expr) : PO X es (lowO Θ X.K W (evO r c es)) := by
  unfold evO
  split
  · exact do_none
  · exact do_some (ih.E h _)
theorem di_bi {x : Str} {tg e : Expr} {t : TID} (ok : GOk Θ X k c.Γ) (hp : X.mg x = none → PI X tg e (lowI Θ X.K W t)) : PI X tg e (lowI Θ X.K W (dBi (c.Γ.g x) t)) :=
  ⟨fun pins s σ H R I ⟨ρ, G, F, Q, DX, ee, rr, h, xx, kk⟩ => by
    have hm := ok.g x
    rw [isBlt_of h.1] at hm
    exact (hp hm).run pins s σ H R I ⟨ρ, G, F, Q, DX, ee, rr, h.2, xx, kk⟩⟩
theorem isTup_of {e : Expr} (h : isTup e = true) : ∃ es k p, e = .Tuple es k p := by
  cases e <;> first | exact ⟨_, _, _, rfl⟩ | cases h
theorem evIB_ok (ih : EvOk Θ r) (h : XOk Θ X W k c) {tg : Expr} {x : Str} {args : List Expr} {p pos : Pos} {t : TID} (hgl : isGl c x = true) (ht : evIB r c (isTup tg) x args = some t) : PI X tg (.Call (.Name x p) args [] pos) (lowI Θ X.K W t) := by
  obtain ⟨ho, hl⟩ := isGl_of hgl
  unfold evIB at ht
  split at ht
  · split at ht
    · rename_i e hs
      split at ht
      · rename_i hx
        subst hx; cases ht
        exact di_bi h.ok fun hm => di_rng1 (h.gl hl) hm (ih.A h _) (star_cons hs)
      split at ht
      · rename_i hx
        obtain ⟨hx, htp⟩ := hx
        obtain ⟨el, kk, tp, rfl⟩ := isTup_of htp
        subst hx; cases ht
        exact di_bi h.ok fun hm => di_enum (h.gl hl) hm (ih.A h _) (star_cons hs)
      · cases ht
    · cases ht
  · split at ht
    · rename_i e e2 hs
      rw [Bool.and_eq_true] at hs
      split at ht
      · rename_i hx
        subst hx; cases ht
        exact di_bi h.ok fun hm => di_rng2 (h.gl hl) hm (ih.A h _) (by rw [star_cons hs.1, star_cons hs.2]; rfl) (star_cons hs.2)
      split at ht
      · rename_i hx
        obtain ⟨hx, htp⟩ := hx
        obtain ⟨el, kk, tp, rfl⟩ := isTup_of htp
        subst hx; cases ht
        exact di_bi h.ok fun hm => di_zip (h.gl hl) hm (ih.A h _) (star_cons hs.1) (by rw [star_cons hs.2]; rfl)
      · cases ht
    · cases ht
  · cases ht
theorem evI_ok (ih : EvOk Θ r) (h : XOk Θ X W k c) (tg e : Expr) : PI X tg e (lowI Θ X.K W (evI r c (isTup tg) e)) := by
  unfold evI
  split
  · split
    · split
      · rename_i hgl _ t ht; exact evIB_ok ih h hgl ht
      · exact di_seq (ih.E h _)
    · exact di_seq (ih.E h _)
  · exact di_seq (ih.E h _)
theorem asgE_cons {e : Expr} {es : List Expr} {env : Env} (h : plS e = true) : assignEach (e :: es) env = (false, assign e env) :: assignEach es env := by
  cases e <;> first | rfl | cases h
theorem asgE_plain {env : Env} : ∀ {es : List Expr}, es.all plS = true → (assignEach es env).length = es.length ∧ (assignEach es env).findIdx? (·.1) = none
  | [], _ => ⟨rfl, rfl⟩
  | e :: es, h => by
    rw [List.all_cons, Bool.and_eq_true] at h
    obtain ⟨h1, h2⟩ := asgE_plain (env := env) h.2
    rw [asgE_cons h.1]
    refine ⟨by rw [List.length_cons, h1, List.length_cons], ?_⟩
    rw [List.findIdx?_cons, h2]
    rfl
theorem evG_ok (ih : EvOk Θ r) (h : XOk Θ X W k c) (ns : List Nat) (e : Expr) : PG X e (lowG Θ X.K W ns (evG r c ns e)) := by
  unfold evG
  have hsc : ∀ x kd, c.sc.names.lookup x = some kd → X.env.scope.names.lookup x = some kd := fun x kd e => by rw [h.sc]; exact e
  split
  · split
    · rename_i hi hl
      split
      · rename_i hm
        exact dg_name h.nd (by rw [h.N]; exact ixOf_0 hi) (.inl (hsc _ _ hl)) (.inr (hsc _ _ hl)) hm
      · exact pg_fail
    · rename_i hi hl
      split
      · rename_i hm
        exact dg_name h.nd (by rw [h.N]; exact ixOf_0 hi) (.inr (hsc _ _ hl)) (.inl (by rw [h.fn]; exact hm.2)) hm.1
      · exact pg_fail
    · exact pg_fail
  · split
    · rename_i hs
      obtain ⟨h1, h2⟩ := asgE_plain (env := X.env) hs
      exact dg_tup h.calm (ih.Gs h _ _) h1 h2
    · exact pg_fail
  · split
    · rename_i hp
      exact dg_sub hp (ih.E h _) (ih.E h _) (xd_set h.u1)
    · exact pg_fail
  · exact pg_fail
theorem evGs_ok (ih : EvOk Θ r) (h : XOk Θ X W k c) (ns : List Nat) (es : List Expr) : PGs X es (lowGs Θ X.K W ns (evGs r c ns es)) := by
  unfold evGs
  split
  · exact dgs_nil
  · split
    · rename_i hs
      exact dgs_cons (ih.G h _ _) (ih.Gs h _ _) (by rw [asgE_cons hs]; rfl)
    · exact pgs_fail
end
end Dl

namespace Dl
open PySem PySem.Spec PyProof.Rows L2
section
variable {Θ : AbsI} {X : Cx} {W : WX} {k : Nat} {c : Ctx} {r : Ev}
theorem XOkS.bk (h : XOkS Θ X W k c) : X.env.blockKind = .function := by
  unfold Env.blockKind
  rw [h.kind]; rfl
theorem XOkS.ko (h : XOkS Θ X W k c) (x : Str) : X.env.kindOf x = c.sc.names.lookup x := by
  show X.env.scope.names.lookup x = _
  rw [h.sc]
theorem compS_none {e : Expr} {t : Option Expr} {l : Nat} {env : Env} (h : compS e = none) : swapsWith e t l env = pure false := by
  cases e <;> first | rfl | cases h
theorem swB_ok (h : XOkS Θ X W k c) {value tg : Expr} {l : Nat} (hp : ∀ o f p, tg ≠ .Attribute o f p) : swapsWith value (some tg) l X.env = pure (swB c value tg) := by
  unfold swapsWith swB
  cases value <;> first | rfl | skip
  all_goals
    cases tg <;> first | rfl | skip
    simp only [compS, h.bk, h.ko]
    rfl
theorem swD_ok (h : XOkS Θ X W k c) {value tg : Expr} {o : Option (List Str)} (hd : swD c tg value = some o) : swappedStores [tg] value X.env = pure o := by
  unfold swD at hd
  split at hd
  · unfold swappedStores
    simp only [h.bk, h.ko]
    simp only [bne_self_eq_false, Bool.or_false]
    split at hd
    · rename_i e
      cases hd
      rw [if_pos e]
    · rename_i e1
      rw [if_neg e1]
      split at hd
      · rename_i e2
        cases hd
        exact if_pos e2
      · rename_i e2
        refine (if_neg e2).trans ?_
        split at hd
        · rename_i e3
          cases hd
          exact if_pos e3
        · rename_i e3
          refine (if_neg e3).trans ?_
          split at hd
          · rename_i e4
            cases hd
            exact if_pos e4
          · rename_i e4
            refine (if_neg e4).trans ?_
            split at hd
            · cases hd
            · rename_i e5
              cases hd
              refine (if_neg e5).trans ?_
              rfl
  · cases hd
  · rename_i hh
    cases hd
    cases value <;> first | rfl | exact (hh _ _ _ rfl).elim
  · cases hd; rfl
  · cases hd; rfl
  · cases hd
theorem ds_while {t : Expr} {body : List Stmt} {tt : TTD} {tb : TSD} {pos : Pos} (hp : PassesOwn (model X.prog X.w) X.A X.env X.xe) (hc : PT X t (lowT Θ X.K W tt)) (hb : PSs X body (lowS Θ X.K W tb)) : PS X (.While t body [] pos) (lowS Θ X.K W (dWhile tt tb)) :=
  (ps_while hp hc hb).weak fun D σ H h => by
    obtain ⟨ρ, G, F, E, e, rr, ⟨I, ⟨m, hm⟩, hI⟩, t0⟩ := lowS_of h
    refine ⟨fun m σ' H' => ∃ ρ' G', Ext X.K H H' ∧ EnvIs X.K H' ρ' σ' ∧ Rep Θ X.K H' G' F ∧ I m ρ' G', ⟨m, ρ, G, Ext.refl, e, rr, hm⟩, ?_⟩
    rintro m σ1 H1 ⟨ρ1, G1, x1, e1, r1, q1⟩
    refine lowT_mk e1 r1 (t0.ex.ext x1) (hI m ρ1 G1 q1) fun b H2 G2 x2 r2 q2 => ?_
    have x3 := x1.trans x2
    cases b with
    | true =>
      rw [if_pos rfl]
      refine ⟨fun σ' H' => ∃ m', m' < m ∧ ∃ ρ' G', Ext X.K H H' ∧ EnvIs X.K H' ρ' σ' ∧ Rep Θ X.K H' G' F ∧ I m' ρ' G', fun σ' H' h => h, ?_⟩
      refine lowS_mk (e1.ext x2) r2 (q2.1 rfl) ⟨t0.ex.ext x3, ?_, (t0.ext x3).rt, (t0.ext x3).nx, ?_⟩
      · rintro σ' H' ρ' G' x4 e4 r4 ⟨m', l, q4⟩
        exact ⟨m', l, ρ', G', x3.trans x4, e4, r4, q4⟩
      · rintro σ' H' ρ' G' x4 e4 r4 ⟨m', l, q4⟩
        exact ⟨m', l, ρ', G', x3.trans x4, e4, r4, q4⟩
    | false =>
      rw [if_neg Bool.false_ne_true]
      exact t0.nx _ _ _ _ x3 (e1.ext x2) r2 (q2.2 rfl)
theorem ds_par {i j : Nat} {x y : Str} {a b : Expr} {ta : TAD} {px py pt pos : Pos} {kt k2 pt2} (hc : X.calm = true) (hN : X.N.Nodup) (hi : X.N[i]? = some x) (hj : X.N[j]? = some y) (hij : i ≠ j)
    (hx : X.env.scope.names.lookup x = some .local) (hy : X.env.scope.names.lookup y = some .local) (ha : PA X [a, b] (lowA Θ X.K W ta))
    (hw : swappedStores [.Tuple [.Name x px, .Name y py] kt pt] (.Tuple [a, b] k2 pt2) X.env = pure (some [x, y])) :
    PS X (.Assign [.Tuple [.Name x px, .Name y py] kt pt] (.Tuple [a, b] k2 pt2) pos) (lowS Θ X.K W (dPar i j ta)) :=
  (ps_par hc hN hi hj hij hx hy ha hw rfl).weak fun D σ H h => by
    obtain ⟨ρ, G, F, E, e, rr, h, t0⟩ := lowS_of h
    refine lowA_mk e rr t0.ex h fun vs H1 ds G1 e1 i1 r1 q1 => ?_
    obtain ⟨d1, d2, rfl, q2⟩ := arg2_of q1
    obtain ⟨v1, v2, rfl, j1, j2⟩ := i1.two
    exact ⟨v1, v2, rfl, t0.nx _ _ _ _ e1 (((e.ext e1).set i j1).set j j2) r1 q2⟩
theorem ds_par3 {i j l : Nat} {x y z : Str} {a b d : Expr} {ta : TAD} {px py pz pt pos : Pos} {kt k2 pt2} (hc : X.calm = true) (hN : X.N.Nodup) (hi : X.N[i]? = some x) (hj : X.N[j]? = some y) (hl : X.N[l]? = some z) (hij : i ≠ j) (hil : i ≠ l) (hjl : j ≠ l)
    (hx : X.env.scope.names.lookup x = some .local) (hy : X.env.scope.names.lookup y = some .local) (hz : X.env.scope.names.lookup z = some .local) (ha : PA X [a, b, d] (lowA Θ X.K W ta))
    (hw : swappedStores [.Tuple [.Name x px, .Name y py, .Name z pz] kt pt] (.Tuple [a, b, d] k2 pt2) X.env = pure (some [x, y, z])) :
    PS X (.Assign [.Tuple [.Name x px, .Name y py, .Name z pz] kt pt] (.Tuple [a, b, d] k2 pt2) pos) (lowS Θ X.K W (dPar3 i j l ta)) :=
  (ps_par3 hc hN hi hj hl hij hil hjl hx hy hz ha hw rfl).weak fun D σ H h => by
    obtain ⟨ρ, G, F, E, e, rr, h, t0⟩ := lowS_of h
    refine lowA_mk e rr t0.ex h fun vs H1 ds G1 e1 i1 r1 q1 => ?_
    obtain ⟨d1, d2, d3, rfl, q2⟩ := arg3_of q1
    obtain ⟨v1, v2, v3, rfl, j1, j2, j3⟩ := i1.three
    exact ⟨v1, v2, v3, rfl, t0.nx _ _ _ _ e1 ((((e.ext e1).set i j1).set j j2).set l j3) r1 q2⟩
theorem isLocN_ok (h : XOk Θ X W k c) {x : Str} {i : Nat} (e : isLocN c x = some i) : X.N[i]? = some x ∧ X.env.scope.names.lookup x = some .local := by
  unfold isLocN at e
  split at e
  · rename_i hi hl
    cases e
    exact ⟨by rw [h.N]; exact ixOf_0 hi, by rw [h.sc]; exact hl⟩
  · cases e
theorem evPar_ok (ih : EvOk Θ r) (h : XOkS Θ X W k c) {tg value : Expr} {names : List Str} {pos : Pos} (hw : swappedStores [tg] value X.env = pure (some names)) : PS X (.Assign [tg] value pos) (lowS Θ X.K W (evPar r c tg value names)) := by
  unfold evPar
  split
  · split
    · rename_i i j hi hj
      split
      · rename_i hh
        obtain ⟨hij, rfl⟩ := hh
        obtain ⟨i1, i2⟩ := isLocN_ok h.toXOk hi
        obtain ⟨j1, j2⟩ := isLocN_ok h.toXOk hj
        exact ds_par h.calm h.nd i1 j1 hij i2 j2 (ih.A h.toXOk _) hw
      · exact ps_fail
    · exact ps_fail
  · split
    · rename_i i j l hi hj hl
      split
      · rename_i hh
        obtain ⟨hij, hil, hjl, rfl⟩ := hh
        obtain ⟨i1, i2⟩ := isLocN_ok h.toXOk hi
        obtain ⟨j1, j2⟩ := isLocN_ok h.toXOk hj
        obtain ⟨l1, l2⟩ := isLocN_ok h.toXOk hl
        exact ds_par3 h.calm h.nd i1 j1 l1 hij hil hjl i2 j2 l2 (ih.A h.toXOk _) hw
      · exact ps_fail
    · exact ps_fail
  · exact ps_fail
theorem evSetLc_ok (ih : EvOk Θ r) (h : XOkS Θ X W k c) {tg value : Expr} {pos : Pos} (hw : swapsWith value (some tg) pos.line X.env = pure true) : PS X (.Assign [tg] value pos) (lowS Θ X.K W (evSetLc r c tg value)) := by
  unfold evSetLc
  split
  · rename_i y py elt gens scope lpos
    split
    · rename_i tg iter ifs kk i hi
      split
      · rename_i hh
        obtain ⟨hk, hd, hb⟩ := hh
        subst hk
        obtain ⟨i1, i2⟩ := isLocN_ok h.toXOk hi
        have hB : BlkOk X.N X.env.scope scope (ownOf scope c.N) := by rw [h.N, h.sc]; exact blkOk_by hb
        have hg : ∀ (s : Shared) (H : Hp) (C : Addr) (cl : List (Str × Addr)) (fp : List Addr), PG (X.blk s H scope (compEnvC scope cl C X.env) fp) tg (lowG Θ X.K (fun _ _ _ _ => False) ((ownOf scope c.N).map (·.2)) (r.G (blkX c scope) ((ownOf scope c.N).map (·.2)) tg)) := fun s H C cl fp => ih.G (h.toXOk.blk scope s H C cl fp) _ tg
        have ht : ∀ (s : Shared) (H : Hp) (C : Addr) (cl : List (Str × Addr)) (fp : List Addr), PTs (X.blk s H scope (compEnvC scope cl C X.env) fp) ifs (lowT Θ X.K (fun _ _ _ _ => False) (evIfs r (blkX c scope) ifs)) := fun s H C cl fp => evIfs_ok ih (h.toXOk.blk scope s H C cl fp) ifs
        have he : ∀ (s : Shared) (H : Hp) (C : Addr) (cl : List (Str × Addr)) (fp : List Addr), PE (X.blk s H scope (compEnvC scope cl C X.env) fp) elt (lowE Θ X.K (fun _ _ _ _ => False) (r.E (blkX c scope) elt)) := fun s H C cl fp => ih.E (h.toXOk.blk scope s H C cl fp) elt
        have hi2 := ih.I h.toXOk tg iter
        have hs := setD_hs (env := X.env) hd
        have q := ps_setLc h.calm h.nd i1 i2 hw hi2 hB hg ht he hs
        refine q.weak fun D σ H h => ?_
        obtain ⟨ρ, G, F, E, e, rr, h, t0⟩ := lowS_of h
        exact lc_low (elt := elt) rfl σ H _ (lowE_mk e rr t0.ex h fun v H1 d G1 e1 i1 r1 q1 => t0.nx _ _ _ _ e1 ((e.ext e1).set i i1) r1 q1)
      · exact ps_fail
    · rename_i tg iter ifs kk tg1 iter1 ifs1 kk1 i hi
      split
      · rename_i hh
        obtain ⟨hk, hk1, hd, hd1, hb, hv⟩ := lc2B_of hh
        subst hk; subst hk1
        obtain ⟨i1, i2⟩ := isLocN_ok h.toXOk hi
        have hB : BlkOk X.N X.env.scope scope (ownOf scope c.N) := by rw [h.N, h.sc]; exact blkOk_by hb
        have hg : ∀ (s : Shared) (H : Hp) (C : Addr) (cl : List (Str × Addr)) (fp : List Addr), PG (X.blk s H scope (compEnvC scope cl C X.env) fp) tg (lowG Θ X.K (fun _ _ _ _ => False) ((ownOf scope c.N).map (·.2)) (r.G (blkX c scope) ((ownOf scope c.N).map (·.2)) tg)) := fun s H C cl fp => ih.G (h.toXOk.blk scope s H C cl fp) _ tg
        have ht : ∀ (s : Shared) (H : Hp) (C : Addr) (cl : List (Str × Addr)) (fp : List Addr), PTs (X.blk s H scope (compEnvC scope cl C X.env) fp) ifs (lowT Θ X.K (fun _ _ _ _ => False) (evIfs r (blkX c scope) ifs)) := fun s H C cl fp => evIfs_ok ih (h.toXOk.blk scope s H C cl fp) ifs
        have hi3 : ∀ (s : Shared) (H : Hp) (C : Addr) (cl : List (Str × Addr)) (fp : List Addr), PI (X.blk s H scope (compEnvC scope cl C X.env) fp) tg1 iter1 (lowI Θ X.K (fun _ _ _ _ => False) (r.I (blkX c scope) (isTup tg1) iter1)) := fun s H C cl fp => ih.I (h.toXOk.blk scope s H C cl fp) tg1 iter1
        have hg1 : ∀ (s : Shared) (H : Hp) (C : Addr) (cl : List (Str × Addr)) (fp : List Addr), PG (X.blk s H scope (compEnvC scope cl C X.env) fp) tg1 (lowG Θ X.K (fun _ _ _ _ => False) (tgSl c tg1) (r.G (blkX c scope) (tgSl c tg1) tg1)) := fun s H C cl fp => ih.G (h.toXOk.blk scope s H C cl fp) _ tg1
        have ht1 : ∀ (s : Shared) (H : Hp) (C : Addr) (cl : List (Str × Addr)) (fp : List Addr), PTs (X.blk s H scope (compEnvC scope cl C X.env) fp) ifs1 (lowT Θ X.K (fun _ _ _ _ => False) (evIfs r (blkX c scope) ifs1)) := fun s H C cl fp => evIfs_ok ih (h.toXOk.blk scope s H C cl fp) ifs1
        have he : ∀ (s : Shared) (H : Hp) (C : Addr) (cl : List (Str × Addr)) (fp : List Addr), PE (X.blk s H scope (compEnvC scope cl C X.env) fp) elt (lowE Θ X.K (fun _ _ _ _ => False) (r.E (blkX c scope) elt)) := fun s H C cl fp => ih.E (h.toXOk.blk scope s H C cl fp) elt
        have hi2 := ih.I h.toXOk tg iter
        have hs := setD_hs (env := X.env) hd
        have q := ps_setLc2 h.calm h.nd i1 i2 hw hi2 hB hv hg ht hi3 hg1 ht1 he hs (fun env => setD_hs hd1)
        refine q.weak fun D σ H h => ?_
        obtain ⟨ρ, G, F, E, e, rr, h, t0⟩ := lowS_of h
        unfold dAsg evLc2 at h
        exact lc2_low rfl σ H _ (lowE_mk e rr t0.ex h fun v H1 d G1 e1 i1 r1 q1 => t0.nx _ _ _ _ e1 ((e.ext e1).set i i1) r1 q1)
      · exact ps_fail
    · exact ps_fail
  · exact ps_fail
theorem evAsg_ok (ih : EvOk Θ r) (h : XOkS Θ X W k c) {tg value : Expr} {pos : Pos} : PS X (.Assign [tg] value pos) (lowS Θ X.K W (evAsg r c tg value)) := by
  unfold evAsg
  split
  · rename_i o f p
    rw [show ∀ f t u, dFldSet c.K f t u = dFldSet X.K f t u from fun f t u => by rw [h.K]]
    refine ds_fld (ih.E h.toXOk _) (ih.E h.toXOk _) ?_
    cases value <;> rfl
  · rename_i hp
    have hsw := fun l => swB_ok h (value := value) (tg := tg) (l := l) hp
    split
    · rename_i hb
      exact evSetLc_ok ih h (by rw [hsw, hb])
    · rename_i hb
      rw [Bool.not_eq_true] at hb
      split
      · rename_i hd
        split
        · rename_i hpl
          refine ds_asg (ih.E h.toXOk _) (ih.G h.toXOk _ _) (by show swapsWith value (some tg) pos.line X.env = _; rw [hsw, hb]) (swD_ok h hd) (by rw [asgE_cons hpl]; rfl)
        · exact ps_fail
      · rename_i hd
        exact evPar_ok ih h (swD_ok h hd)
      · exact ps_fail
theorem evS_ok (ih : EvOk Θ r) (h : XOkS Θ X W k c) (st : Stmt) : PS X st (lowS Θ X.K W (evS r c st)) := by
  unfold evS
  split
  · exact ds_pass
  · exact ds_break
  · exact ds_cont
  · split
    · rename_i hc; exact ds_expr (ih.E h.toXOk _) (compS_none hc)
    · exact ps_fail
  · split
    · exact ds_ret (ih.E h.toXOk _)
    · exact ds_retN
  · exact ds_if (ih.T h.toXOk _) (ih.Ss h _) (ih.Ss h _)
  · split
    · split
      · rename_i hd; exact ds_for h.own h.calm (ih.I h.toXOk _ _) (ih.G h.toXOk _ _) (ih.Ss h _) (setD_hs hd)
      · exact ps_fail
    · exact ps_fail
  · split
    · exact ds_while h.own (ih.T h.toXOk _) (ih.Ss h _)
    · exact ps_fail
  · split
    · split
      · rename_i hgl
        obtain ⟨ho, hl⟩ := isGl_of hgl
        exact ds_raise h.ok h.tk h.calm (h.toXOk.gl hl) (odd_no ho).1
      · exact ps_fail
    · split
      · rename_i hb
        obtain ⟨hgl, hs⟩ := (Bool.and_eq_true _ _).mp hb
        obtain ⟨ho, hl⟩ := isGl_of hgl
        exact ds_raiseA h.ok h.room h.tk h.calm (h.toXOk.gl hl) (odd_no ho).1 hs (ih.A h.toXOk _)
      · exact ps_fail
    · exact ps_fail
  · split
    · exact evAsg_ok ih h
    · exact ps_fail
  · split
    · split
      · rename_i hi hq
        obtain ⟨i1, i2⟩ := isLocN_ok h.toXOk hi
        exact ds_aug h.nd i1 (.inl i2) (ih.E h.toXOk _) (ip_ok hq) (.inr i2)
      · exact ps_fail
    · exact ps_fail
  · exact ps_fail
theorem evSs_ok (ih : EvOk Θ r) (h : XOkS Θ X W k c) (ss : List Stmt) : PSs X ss (lowS Θ X.K W (evSs r c ss)) := by
  unfold evSs
  split
  · exact ds_nil
  · exact ds_one (ih.S h _)
  · exact ds_cons (ih.S h _) (ih.Ss h _)
theorem ev_ok : ∀ n : Nat, EvOk Θ (ev n)
  | 0 => ev0_ok
  | n + 1 => ⟨fun h => evE_ok (ev_ok n) h, fun h => evT_ok (ev_ok n) h, fun h => evW_ok (ev_ok n) h, fun h => evA_ok (ev_ok n) h, fun h => evKw_ok (ev_ok n) h, fun h => evO_ok (ev_ok n) h, fun h => evI_ok (ev_ok n) h, fun h => evG_ok (ev_ok n) h, fun h => evGs_ok (ev_ok n) h, fun h => evS_ok (ev_ok n) h, fun h => evSs_ok (ev_ok n) h⟩
end
end Dl

namespace Dl
open PySem PySem.Spec PyProof.Rows L2

/-! ### a def keeps its promise -/
/-- the store may be told so too -/
def RepTo (Θ : AbsI) (K : PySem.W.Frag) (G G' : GH) : Prop := ∀ H F, Rep Θ K H G F → Rep Θ K H G' F
theorem RepTo.refl {Θ : AbsI} {K : PySem.W.Frag} {G : GH} : RepTo Θ K G G := fun _ _ r => r
theorem RepTo.trans {Θ : AbsI} {K : PySem.W.Frag} {G G1 G2 : GH} (a : RepTo Θ K G G1) (b : RepTo Θ K G1 G2) : RepTo Θ K G G2 := fun H F r => b H F (a H F r)
theorem RepTo.sub {Θ : AbsI} {K : PySem.W.Frag} {G G' : GH} (s : GSub G' G) : RepTo Θ K G G' := fun _ _ r => r.sub s
/-- the store opened -/
def Opens (Θ : AbsI) (K : PySem.W.Frag) (G : GH) (P : GH → Prop) : Prop := ∀ H F, Rep Θ K H G F → ∃ G0, Rep Θ K H G0 F ∧ P G0
theorem Opens.id {Θ : AbsI} {K : PySem.W.Frag} {G : GH} {P : GH → Prop} (h : P G) : Opens Θ K G P := fun _ _ r => ⟨G, r, h⟩
def dEnds (Θ : AbsI) (K : PySem.W.Frag) (DQ : DK) (DX : DE → GH → Prop) : DEnds where
  nx := fun _ G1 => ∃ G', RepTo Θ K G1 G' ∧ DQ .non G'
  rt := fun d G1 => ∃ G', RepTo Θ K G1 G' ∧ DQ d G'
  ex := fun e _ G1 => ∃ G', RepTo Θ K G1 G' ∧ DX e G'
def startD (N : List Str) (ds : List D) : Ro := ds.map some ++ List.replicate (N.length - ds.length) none
theorem env_start {K : PySem.W.Frag} {H : Hp} {N : List Str} {ds : List D} {vs : List V} (i : IsL K H ds vs) : EnvIs K H (startD N ds) (L2.start N vs) := by
  have hl := i.len
  refine ⟨by simp [startD, L2.start, hl], fun j d h => ?_⟩
  unfold startD at h
  by_cases hj : j < ds.length
  · rw [List.getElem?_append_left (by simpa using hj), List.getElem?_map] at h
    cases e : ds[j]? with
    | none => rw [e] at h; cases h
    | some d' =>
      rw [e] at h
      cases h
      obtain ⟨x, e1, i1⟩ := i.get e
      refine ⟨x, ?_, i1⟩
      unfold L2.start
      rw [List.getElem?_append_left (by rw [List.length_map, hl]; exact hj), List.getElem?_map, e1]
      rfl
  · rw [List.getElem?_append_right (by simpa using Nat.le_of_not_lt hj)] at h
    rw [List.getElem?_replicate] at h
    split at h <;> cases h
structure GOkB (Θ : AbsI) (P : Program) (w : World) (K : PySem.W.Frag) (mg : Str → Option Value) (base : Heap) (k : Nat) (Γ : GEnv) : Prop where
  g : ∀ x, GVOk Θ P w K mg base k x (Γ.g x)
  m : ∀ C x, match Γ.m C x with
    | .fn f ps sp kws => Cls K C ∧ Meth K C x f ∧ FnI Θ P w K mg base k f ps sp kws 1
    | _ => True
/-- what the defs that make lambdas need -/
structure LamB (Θ : AbsI) (K : PySem.W.Frag) (mg : Str → Option Value) (base : Heap) (qual : Str) (cd : Value) (CS : Str → Option Addr) : Prop where
  tab : ∃ c P, LamX.TabB base mg c P ∧ cd = .ref c ∧ (P, qual ++ ".<locals>." ++ "<lambda>") ∈ Θ.T ∧ ∀ p ∈ Θ.T, p.1 = P → p.2 = qual ++ ".<locals>." ++ "<lambda>"
  cau : ∀ x C, CS x = some C → CaughtI K mg x C
section
variable {Θ : AbsI} {P : Program} {w : World} {K : PySem.W.Frag} {mg : Str → Option Value} {base : Heap}
theorem fnOk_of {x qual : Str} {params : Arguments} {body : List Stmt} {scope : Scope} {dvs : List V} {kwv : List (Str × V)} {f : Addr} {fd : FuncData} {N ps : List Str} {k n : Nat} {sp : DSp} {Γ : GEnv} {CS : Str → Option Addr} {lam : Bool} {T : TSD}
    (F : FunD K x qual params body scope dvs kwv f fd) (S : FnScope N ps scope) (ok : GOkB Θ P w K mg base k Γ) (L : lam = true → LamB Θ K mg base qual fd.code CS)
    (hT : (ev n).Ss ⟨N, scope, Γ, K, fun _ => true, lam, CS⟩ body = T)
    (spec : ∀ ds G DQ DX, ds.length = ps.length → sp ds G DQ DX → Opens Θ K G fun G0 => T (dEnds Θ K DQ DX) (startD N ds) G0) : FnOk P w K mg base (L2.CX P w) (k + 3) f fd ps (lowSp Θ K ps.length sp) := by
  obtain ⟨oc, od, dV, kV, doc, pm, an, cdv, ct, osl, rfl, lk, hcd, _, _⟩ := F.ex
  refine fn_of lk hcd S (fun vs H Q E h => h.1) fun A outer s H vs Q E hr hsp => ?_
  have lamf : lam = true → LamF Θ (cxOf (L2.CX P w) P w K mg base N qual scope f cdv A outer s H E) k ⟨N, scope, Γ, K, fun _ => true, lam, CS⟩ := fun hl => by
    obtain ⟨⟨c, PP, t1, t2, t3, t4⟩, hc⟩ := L hl
    have e1 : (cxOf (L2.CX P w) P w K mg base N qual scope f cdv A outer s H E).env.code = .ref c := t2
    have e2 : (cxOf (L2.CX P w) P w K mg base N qual scope f cdv A outer s H E).env.qual = qual ++ ".<locals>." := rfl
    exact ⟨hr, ⟨c, PP, t1, e1, by rw [e2]; exact t3, by rw [e2]; exact t4⟩, hc⟩
  refine ⟨lowS Θ K (fun cls d _ H => E cls d H) T, ?_, ?_⟩
  · have xo : XOk Θ (cxOf (L2.CX P w) P w K mg base N qual scope f cdv A outer s H E) (fun cls d _ H => E cls d H) k ⟨N, scope, Γ, K, fun _ => true, lam, CS⟩ :=
      ⟨rfl, S.nd, rfl, rfl, rfl, rfl, hr.mono (by omega), takes_of rfl rfl rfl rfl, ⟨ok.g, ok.m⟩, lamf⟩
    rw [← hT]
    exact (ev_ok n).Ss (X := cxOf (L2.CX P w) P w K mg base N qual scope f cdv A outer s H E) ⟨xo, passes_of rfl, S.kind⟩ body
  · obtain ⟨hl, ds, G, FF, DQ, DX, i, rr, hs, kq, kx⟩ := hsp
    obtain ⟨G0, r0, h0⟩ := spec ds G DQ DX (by rw [← i.len, hl]) hs H FF rr
    refine lowS_mk (env_start i) r0 h0 ⟨?_, ?_, ?_, fun _ _ _ _ _ _ _ z => z.elim, fun _ _ _ _ _ _ _ z => z.elim⟩
    · rintro cls d σ' H' e ρ' G' x1 ee _ r1 ⟨G2, t, q⟩
      exact kx cls d H' e G2 x1 ee (t _ _ r1) q
    · rintro σ' H' ρ' G' x1 _ r1 ⟨G2, t, q⟩
      exact kq _ _ _ _ x1 .non (t _ _ r1) q
    · rintro v H' d G' x1 i1 r1 ⟨G2, t, q⟩
      exact kq _ _ _ _ x1 i1 (t _ _ r1) q
end
end Dl

namespace Dl
open PySem PySem.Spec PyProof.Rows L2

/-! ### the source of draws -/
abbrev kS (x : Str) : Key := .inr x
def sD (g c : Addr) (l t : Int) : List (Key × D) := [(kS "great", .ref g), (kS "cells", .ref c), (kS "left", .int l), (kS "turn", .int t)]
def sV (g c : Addr) (l t : Int) : List (Key × V) := [(kS "great", .ref g), (kS "cells", .ref c), (kS "left", .int l), (kS "turn", .int t)]
theorem sD_is {K : PySem.W.Frag} {H : Hp} {g c : Addr} {l t : Int} : IsK K H (sD g c l t) (sV g c l t) := ⟨_, _, rfl, rfl, _, _, rfl, rfl, _, _, rfl, rfl, _, _, rfl, rfl, rfl⟩
theorem sD_of {K : PySem.W.Frag} {H : Hp} {g c : Addr} {l t : Int} {ws : List (Key × V)} (h : IsK K H (sD g c l t) ws) : ws = sV g c l t := by
  obtain ⟨_, _, rfl, rfl, _, _, rfl, rfl, _, _, rfl, rfl, _, _, rfl, rfl, rfl⟩ := h
  rfl
def StIs (H : Hp) (own : Addr → Option Addr) (a g c : Addr) (k : Nat) : Prop := ∃ (gs cs : List Int) (l t : Int), (0 ≤ t ∧ t ≤ k) ∧ g ≠ c ∧ own g = some a ∧ own c = some a ∧ H a = some (.dK (sV g c l t)) ∧ H g = some (.lst (gs.map V.int)) ∧ H c = some (.lst (cs.map V.int))
def drawI (T : List (Addr × Str)) : AbsI where
  T := T
  rep := fun K H own a k ds => ds = [] ∧ ∃ g c, StIs H own a g c k
  there := fun {K H own a k ds} h => by
    obtain ⟨_, g, c, gs, cs, l, t, _, _, _, _, h1, _⟩ := h
    exact ⟨_, h1, fun _ z => nomatch z⟩
  stay := fun {K H H' own own' a k ds} h _ ea eo => by
    obtain ⟨hd, g, c, gs, cs, l, t, hk, h0, h1, h2, h3, h4, h5⟩ := h
    exact ⟨hd, g, c, gs, cs, l, t, hk, h0, (eo g h1).2, (eo c h2).2, ea.trans h3, (eo g h1).1.trans h4, (eo c h2).1.trans h5⟩
theorem IsL.of_ints {K : PySem.W.Frag} {H : Hp} : ∀ {ns : List Int}, IsL K H (ns.map D.int) (ns.map V.int)
  | [] => rfl
  | n :: ns => ⟨_, _, rfl, rfl, IsL.of_ints⟩
section
variable {T : List (Addr × Str)} {K : PySem.W.Frag} {H : Hp} {G : GH} {F : Hp} {s g c : Addr}
theorem draw_open {k : Nat} (r : Rep (drawI T) K H G F) (hs : G s = some (.abs k [])) : ∃ (g c : Addr) (gs cs : List Int) (l t : Int), (0 ≤ t ∧ t ≤ k) ∧ g ≠ c ∧ g ≠ s ∧ c ≠ s ∧ G g = none ∧ G c = none ∧
    Rep (drawI T) K H (gup (gup (gup G s (.dct (sD g c l t))) g (.lst (gs.map D.int))) c (.lst (cs.map D.int))) F := by
  obtain ⟨own, r⟩ := r
  obtain ⟨_, g, c, gs, cs, l, t, hk, h0, h1, h2, h3, h4, h5⟩ := r.obj s _ hs
  obtain ⟨gN, gF, _⟩ := r.hid g s h1
  obtain ⟨cN, cF, _⟩ := r.hid c s h2
  have gs' : g ≠ s := fun e => by rw [e, hs] at gN; cases gN
  have cs' : c ≠ s := fun e => by rw [e, hs] at cN; cases cN
  refine ⟨g, c, gs, cs, l, t, hk, h0, gs', cs', gN, cN, fun p => if p = g ∨ p = c then none else own p, fun b u e => ?_, fun p b e => ?_, fun b o e => ?_, r.tab⟩
  · by_cases e1 : b = c
    · subst e1
      rw [gup_same] at e; cases e
      exact .lst h5 IsL.of_ints
    · rw [gup_ne e1] at e
      by_cases e2 : b = g
      · subst e2
        rw [gup_same] at e; cases e
        exact .lst h4 IsL.of_ints
      · rw [gup_ne e2] at e
        by_cases e3 : b = s
        · subst e3
          rw [gup_same] at e; cases e
          exact .dct h3 sD_is
        · rw [gup_ne e3] at e
          refine (r.obj b u e).stay Ext.refl rfl fun p hp => ⟨rfl, ?_⟩
          rw [if_neg]
          · exact hp
          · rintro (z | z)
            · subst z; rw [h1] at hp; cases hp; exact e3 rfl
            · subst z; rw [h2] at hp; cases hp; exact e3 rfl
  · have e : (if p = g ∨ p = c then none else own p) = some b := e
    split at e
    · cases e
    · rename_i hn
      obtain ⟨q1, q2, q3⟩ := r.hid p b e
      have ps : p ≠ s := fun z => by rw [z, hs] at q1; cases q1
      exact ⟨by rw [gup_ne (fun z => hn (.inr z)), gup_ne (fun z => hn (.inl z)), gup_ne ps]; exact q1, q2, q3⟩
  · obtain ⟨q1, q2, q3⟩ := r.frm b o e
    have bs : b ≠ s := fun z => by rw [z, hs] at q2; cases q2
    have bg : b ≠ g := fun z => by rw [z, gF] at e; cases e
    have bc : b ≠ c := fun z => by rw [z, cF] at e; cases e
    exact ⟨q1, by rw [gup_ne bc, gup_ne bg, gup_ne bs]; exact q2, q3⟩
def closeG (G : GH) (s g c : Addr) (k : Nat) : GH := fun b => if b = g ∨ b = c then none else if b = s then some (.abs k []) else G b
theorem draw_close {k : Nat} {gs cs : List Int} {l t : Int} (hk : 0 ≤ t ∧ t ≤ k) (hgc : g ≠ c) (hg : g ≠ s) (hc : c ≠ s) (e1 : G s = some (.dct (sD g c l t))) (e2 : G g = some (.lst (gs.map D.int))) (e3 : G c = some (.lst (cs.map D.int))) : RepTo (drawI T) K G (closeG G s g c k) := by
  intro H F ⟨own, r⟩
  have og : own g = none := by
    cases q : own g with
    | none => rfl
    | some b => have := (r.hid g b q).1; rw [e2] at this; cases this
  have oc : own c = none := by
    cases q : own c with
    | none => rfl
    | some b => have := (r.hid c b q).1; rw [e3] at this; cases this
  have fg : F g = none := by
    cases q : F g with
    | none => rfl
    | some b => have := (r.frm g b q).2.1; rw [e2] at this; cases this
  have fc : F c = none := by
    cases q : F c with
    | none => rfl
    | some b => have := (r.frm c b q).2.1; rw [e3] at this; cases this
  obtain ⟨ws, w1, w2⟩ := r.obj s _ e1
  obtain ⟨xs, x1, x2⟩ := r.obj g _ e2
  obtain ⟨ys, y1, y2⟩ := r.obj c _ e3
  have ew := sD_of w2
  have ex := IsL.ints x2
  have ey := IsL.ints y2
  subst ew; subst ex; subst ey
  refine ⟨fun p => if p = g ∨ p = c then some s else own p, fun b u e => ?_, fun p b e => ?_, fun b o e => ?_, r.tab⟩
  · unfold closeG at e
    split at e
    · cases e
    · rename_i hn
      split at e
      · rename_i hb
        subst hb; cases e
        exact ⟨rfl, g, c, gs, cs, l, t, hk, hgc, if_pos (.inl rfl), if_pos (.inr rfl), w1, x1, y1⟩
      · refine (r.obj b u e).stay Ext.refl rfl fun p hp => ⟨rfl, ?_⟩
        rw [if_neg]
        · exact hp
        · rintro (z | z)
          · rw [z, og] at hp; cases hp
          · rw [z, oc] at hp; cases hp
  · have e : (if p = g ∨ p = c then some s else own p) = some b := e
    split at e
    · rename_i hp
      cases e
      refine ⟨by unfold closeG; rw [if_pos hp], ?_, ?_⟩
      · rcases hp with z | z
        · rw [z]; exact fg
        · rw [z]; exact fc
      · rcases hp with z | z
        · rw [z]; exact ⟨_, x1, fun _ z => nomatch z⟩
        · rw [z]; exact ⟨_, y1, fun _ z => nomatch z⟩
    · rename_i hn
      obtain ⟨q1, q2⟩ := r.hid p b e
      have ps : p ≠ s := fun z => by rw [z, e1] at q1; cases q1
      exact ⟨by unfold closeG; rw [if_neg hn, if_neg ps]; exact q1, q2⟩
  · obtain ⟨q1, q2, q3⟩ := r.frm b o e
    refine ⟨q1, ?_, q3⟩
    unfold closeG
    split
    · rfl
    · split
      · rename_i hb; rw [hb, e1] at q2; cases q2
      · exact q2
/-- the count of turns may be told larger -/
theorem draw_more {k j : Nat} (hs : G s = some (.abs k [])) (h : k ≤ j) : RepTo (drawI T) K G (gup G s (.abs j [])) := by
  intro H F ⟨own, r⟩
  refine ⟨own, fun b u e => ?_, fun p b e => ?_, fun b o e => ?_, r.tab⟩
  · by_cases hb : b = s
    · subst hb
      rw [gup_same] at e; cases e
      obtain ⟨e0, g, c, gs, cs, l, t, hk, q⟩ := r.obj b _ hs
      exact ⟨e0, g, c, gs, cs, l, t, ⟨hk.1, by omega⟩, q⟩
    · rw [gup_ne hb] at e
      exact r.obj b u e
  · obtain ⟨q1, q2⟩ := r.hid p b e
    have ps : p ≠ s := fun z => by rw [z, hs] at q1; cases q1
    exact ⟨by rw [gup_ne ps]; exact q1, q2⟩
  · obtain ⟨q1, q2, q3⟩ := r.frm b o e
    have bs : b ≠ s := fun z => by rw [z, hs] at q2; cases q2
    exact ⟨q1, by rw [gup_ne bs]; exact q2, q3⟩
end
def T_begun (Γ : GEnv) (K : PySem.W.Frag) : TSD := (dSeq (dAsg (dLc (dISeq (dVar 0)) (dgName 3) (dTru (dBin rGe (dBc (Γ.g "abs") rAbs (dCons (dVar 3) dNil)) (dBin rPow (dC (.int 10)) (dC (.int 18))))) (dBin rSub (dBc (Γ.g "abs") rAbs (dCons (dVar 3) dNil)) (dBin rPow (dC (.int 10)) (dC (.int 18)))) [2, 3]) (dgName 1)) (dRet (dDisp [((dC (.str "great")), (dVar 1)), ((dC (.str "cells")), (dLc (dISeq (dVar 0)) (dgName 3) dYes (dBc (Γ.g "abs") rAbs (dCons (dVar 3) dNil)) [2, 3])), ((dC (.str "left")), (dC (.int 0))), ((dC (.str "turn")), (dC (.int 0)))])))
def T_blended (Γ : GEnv) (K : PySem.W.Frag) : TSD := (dSeq (dPar 1 2 (dCons (dBin rAdd (dBin rIx (dVar 0) (dC (.str "turn"))) (dC (.int 1))) (dCons (dC (.int 0)) dNil))) (dSeq (dAsg (dVar 1) (dgSub (dVar 0) (dC (.str "turn")) rSet)) (dSeq (dFor (dISeq (dLst (dCons (dC (.int 2147483477)) (dCons (dC (.int 2147483423)) (dCons (dC (.int 2147483399)) dNil))))) (dgName 3) (dSeq (dAsg (dBin rAdd (dBin rMul (dC (.int 40014)) (dVar 1)) (dBin rFdiv (dVar 3) (dC (.int 67)))) (dgName 4)) (dSeq (dFor (dISeq (dBin rIx (dVar 0) (dC (.str "cells")))) (dgName 5) (dAsg (dBin rMod (dBc (Γ.g "int") rInt (dCons (dBin rAdd (dBin rAdd (dBin rMul (dVar 4) (dC (.int 69621))) (dVar 5)) (dVar 1)) dNil)) (dVar 3)) (dgName 4))) (dAsg (dBin rAdd (dBin rMul (dVar 2) (dC (.int 2147483647))) (dBin rMod (dBc (Γ.g "int") rInt (dCons (dBin rPow (dVar 4) (dC (.int 5))) dNil)) (dVar 3))) (dgName 2))))) (dRet (dVar 2)))))
def T_draw (Γ : GEnv) (K : PySem.W.Frag) : TSD := (dSeq (dIfS (dTru (dBin rEq (dBin rIx (dVar 0) (dC (.str "left"))) (dC (.int 0)))) (dAsg (dIf (dTru (dBin rNe (dBin rIx (dVar 0) (dC (.str "great"))) (dLst dNil))) (dLM rPopAt (dBin rIx (dVar 0) (dC (.str "great"))) (dCons (dC (.int 0)) dNil)) (dCall (Γ.g "_law_blended") (dCons (dVar 0) dNil))) (dgSub (dVar 0) (dC (.str "left")) rSet)) dNext) (dSeq (dAsg (dBin rMod (dBc (Γ.g "int") rInt (dCons (dBin rIx (dVar 0) (dC (.str "left"))) dNil)) (dVar 1)) (dgName 2)) (dSeq (dAsg (dBin rFdiv (dBin rIx (dVar 0) (dC (.str "left"))) (dVar 1)) (dgSub (dVar 0) (dC (.str "left")) rSet)) (dRet (dVar 2)))))
def T_pick (Γ : GEnv) (K : PySem.W.Frag) : TSD := (dRet (dBin rIx (dVar 1) (dCall (Γ.g "_law_draw") (dCons (dVar 0) (dCons (dBc (Γ.g "len") rLen (dCons (dVar 1) dNil)) dNil)))))
def T_is_whole (Γ : GEnv) (K : PySem.W.Frag) : TSD := (dRet (dAnd (dBc (Γ.g "isinstance") (rIsi K) (dCons (dVar 0) (dCons (dBty (Γ.g "int") "int") dNil))) (dNot (dBc (Γ.g "isinstance") (rIsi K) (dCons (dVar 0) (dCons (dBty (Γ.g "bool") "bool") dNil))))))
end Dl

namespace Dl
open PySem PySem.Spec PyProof.Rows L2
/-! ### rewriting rules -/
section
variable {X : DXK} {ρ r : Ro} {G : GH} {Q : DK} {i j : Int} {d : D} {o : Option D} {b c : Bool} {x y : Str} {Qb : Bool → GH → Prop} {p q : Prop}
theorem dVar_0 : dVar 0 X (some d :: r) G Q = Q d G := rfl
theorem dVar_s {n : Nat} : dVar (n + 1) X (o :: r) G Q = dVar n X r G Q := rfl
theorem dIte_t : dIte true p q = p := propext ⟨fun h => h.1 rfl, fun h => ⟨fun _ => h, fun z => absurd z.symm Bool.false_ne_true⟩⟩
theorem dIte_f : dIte false p q = q := propext ⟨fun h => h.2 rfl, fun h => ⟨fun z => absurd z Bool.false_ne_true, fun _ => h⟩⟩
theorem rTru_bl : rTru (.bl b) G Qb = Qb b G := rfl
theorem rTru_int : rTru (.int i) G Qb = Qb (i != 0) G := rfl
theorem rTru_non : rTru .non G Qb = Qb false G := rfl
theorem rTru_tup {ds : List D} : rTru (.tup ds) G Qb = Qb (!ds.isEmpty) G := rfl
theorem rAdd_ii : rAdd (.int i) (.int j) G Q = Q (.int (i + j)) G := rfl
theorem rAdd_tt {xs ys : List D} : rAdd (.tup xs) (.tup ys) G Q = (xs.length + ys.length ≤ sizeLine ∧ Q (.tup (xs ++ ys)) G) := rfl
theorem rSub_ii : rSub (.int i) (.int j) G Q = Q (.int (i - j)) G := rfl
theorem rMul_ii : rMul (.int i) (.int j) G Q = (IMul i j ∧ Q (.int (i * j)) G) := rfl
theorem rMul_ti {ds : List D} : rMul (.tup ds) (.int i) G Q = ((-1000 ≤ i ∧ i ≤ 1000 ∧ ds.length ≤ 1000) ∧ Q (.tup (List.replicate i.toNat ds).flatten) G) := rfl
theorem rFdiv_ii : rFdiv (.int i) (.int j) G Q = (0 < j ∧ IDiv i j ∧ Q (.int (i / j)) G) := rfl
theorem rMod_ii : rMod (.int i) (.int j) G Q = (0 < j ∧ Q (.int (i % j)) G) := rfl
theorem rPow_ii : rPow (.int i) (.int j) G Q = (CPow i j ∧ Q (.int (i ^ j.toNat)) G) := rfl
theorem rIAdd_ii : rIAdd (.int i) (.int j) G Q = Q (.int (i + j)) G := rfl
theorem rISub_ii : rISub (.int i) (.int j) G Q = Q (.int (i - j)) G := rfl
theorem rNeg_i : rNeg (.int i) G Q = Q (.int (-i)) G := rfl
theorem rLt_ii : rLt (.int i) (.int j) G Q = Q (.bl (decide (i < j))) G := rfl
theorem rLe_ii : rLe (.int i) (.int j) G Q = Q (.bl (decide (i ≤ j))) G := rfl
theorem rGt_ii : rGt (.int i) (.int j) G Q = Q (.bl (decide (j < i))) G := rfl
theorem rGe_ii : rGe (.int i) (.int j) G Q = Q (.bl (decide (j ≤ i))) G := rfl
theorem rEq_ii : rEq (.int i) (.int j) G Q = Q (.bl (decide (i = j))) G := rfl
theorem rEq_ss : rEq (.str x) (.str y) G Q = Q (.bl (decide (x = y))) G := rfl
theorem rEq_bb : rEq (.bl b) (.bl c) G Q = Q (.bl (decide (b = c))) G := rfl
theorem rNe_ii : rNe (.int i) (.int j) G Q = Q (.bl (!decide (i = j))) G := rfl
theorem rNe_ss : rNe (.str x) (.str y) G Q = Q (.bl (!decide (x = y))) G := rfl
theorem rInt_i : rInt [.int i] G Q = Q (.int i) G := rfl
theorem rAbs_i : rAbs [.int i] G Q = Q (.int (if i < 0 then -i else i)) G := rfl
theorem rLen_t {ds : List D} : rLen [.tup ds] G Q = Q (.int ds.length) G := rfl
theorem rIx_t {ds : List D} (h : atI ds i = some d) : rIx (.tup ds) (.int i) G Q = Q d G := propext ⟨fun ⟨_, e, q⟩ => by rw [h] at e; cases e; exact q, fun q => ⟨_, h, q⟩⟩
theorem isBlt_b : (isBlt .blt = true) = True := eq_true rfl
theorem dCall_fn {a : Addr} {ps : List Str} {sp : DSp} {kws : List (Nat × List Str)} {t : TAD} : dCall (.fn a ps sp kws) t X ρ G Q = t X ρ G fun ds G1 => ds.length = ps.length ∧ sp ds G1 Q fun e G' => X e ρ G' := propext ⟨fun h => h.2, fun h => ⟨rfl, h⟩⟩
theorem dCall_cls {a : Addr} {ps : List Str} {sp : DSp} {kws : List (Nat × List Str)} {t : TAD} : dCall (.cls a ps sp kws) t X ρ G Q = t X ρ G fun ds G1 => cCls a ps.length sp ds X ρ G1 Q := propext ⟨fun h => h.2, fun h => ⟨rfl, h⟩⟩
theorem dCallK_fn {a : Addr} {ps ks : List Str} {sp : DSp} {kws : List (Nat × List Str)} {t u : TAD} {n : Nat} : dCallK (.fn a ps sp kws) n ks t u X ρ G Q = t X ρ G fun ds G1 => u X ρ G1 fun es G2 => ds.length = n ∧ es.length = ks.length ∧ (n, ks) ∈ kws ∧ cFn ps.length sp (kwArr ps n ks ds es) X ρ G2 Q := propext ⟨fun h => h.2, fun h => ⟨rfl, h⟩⟩
theorem dGlob_con : dGlob (.con d) X ρ G Q = Q d G := rfl
theorem dGlob_fn {a : Addr} {ps : List Str} {sp : DSp} {kws : List (Nat × List Str)} : dGlob (.fn a ps sp kws) X ρ G Q = Q (.ref a) G := rfl
theorem dGlob_cls {a : Addr} {ps : List Str} {sp : DSp} {kws : List (Nat × List Str)} : dGlob (.cls a ps sp kws) X ρ G Q = Q (.ref a) G := rfl
theorem dGlob_exc {a : Addr} : dGlob (.exc a) X ρ G Q = Q (.ref a) G := rfl
theorem dRaise_exc {a : Addr} {E : DEnds} : dRaise (.exc a) E ρ G = E.ex ⟨a, []⟩ ρ G := rfl
/-- the middle of a chain -/
def chN (z : D) (p q : Prop) : Prop := match z with
  | .bl true => p
  | .bl false => q
  | _ => False
theorem dChain_i {r1 r2 : R2D} {ta tb tc : TED} : dChain r1 r2 ta tb tc X ρ G Q = ta X ρ G fun x G1 => tb X ρ G1 fun y G2 => r1 x y G2 fun z G3 => chN z (tc X ρ G3 fun w G4 => r2 y w G4 Q) (Q (.bl false) G3) := by
  have e : (fun x G1 => tb X ρ G1 fun y G2 => r1 x y G2 fun z G3 => match z with
    | .bl true => tc X ρ G3 fun w G4 => r2 y w G4 Q
    | .bl false => Q (.bl false) G3
    | _ => False) = (fun x G1 => tb X ρ G1 fun y G2 => r1 x y G2 fun z G3 => chN z (tc X ρ G3 fun w G4 => r2 y w G4 Q) (Q (.bl false) G3)) := by
    funext x G1
    congr 1
  exact congrArg (ta X ρ G) e
theorem chN_bl : chN (.bl b) p q = dIte b p q := by cases b <;> simp only [chN, dIte_t, dIte_f]
theorem rt_cond {E : DEnds} {G : GH} {b c d : Bool} : dIte b (E.rt (.bl c) G) (E.rt (.bl d) G) = E.rt (.bl (bif b then c else d)) G := by cases b <;> simp only [dIte_t, dIte_f, cond_true, cond_false]
theorem c_and {b c : Bool} : (bif b then c else false) = (b && c) := by cases b <;> rfl
theorem c_or {b c : Bool} : (bif b then true else c) = (b || c) := by cases b <;> rfl
theorem c_nand {b c : Bool} : (bif b then false else c) = (!b && c) := by cases b <;> rfl
theorem c_self {b c : Bool} : (bif b then c else b) = (b && c) := by cases b <;> rfl
theorem c_self2 {b c : Bool} : (bif b then b else c) = (b || c) := by cases b <;> rfl
theorem imul_t {i j : Int} (h1 : -(2 ^ 64) < i) (h2 : i < 2 ^ 64) : IMul i j = True := eq_true (.inl (.inl ⟨h1, h2⟩))
theorem arg0_nil : arg0 [] p = p := rfl
theorem arg1_one {k : D → Prop} : arg1 [d] k = k d := rfl
theorem arg2_two {k : D → D → Prop} {e : D} : arg2 [d, e] k = k d e := rfl
theorem arg3_three {k : D → D → D → Prop} {e f : D} : arg3 [d, e, f] k = k d e f := rfl
variable {TQ : Ro → GH → Prop} {g : TGD} {gs : TGsD} {ds : List D} {n : Nat}
theorem dgNil_nil : dgNil [] X ρ G TQ = TQ ρ G := rfl
theorem dgCons_cons : dgCons g gs (d :: ds) X ρ G TQ = g d X ρ G fun ρ1 G1 => gs ds X ρ1 G1 TQ := rfl
theorem dgTup_tup : dgTup n gs (.tup ds) X ρ G TQ = (ds.length = n ∧ gs ds X ρ G TQ) := rfl
end
/-! the same by values -/
def iSeq (d : D) (G : GH) (R : List D → (GH → Prop) → GH → Prop) : Prop := dISeq (dC d) noX [] G R
def iR1 (xs : List D) (G : GH) (R : List D → (GH → Prop) → GH → Prop) : Prop := dIRng1 (fun _ _ G Q => Q xs G) noX [] G R
def iR2 (xs : List D) (G : GH) (R : List D → (GH → Prop) → GH → Prop) : Prop := dIRng2 (fun _ _ G Q => Q xs G) noX [] G R
def iZp (xs : List D) (G : GH) (R : List D → (GH → Prop) → GH → Prop) : Prop := dIZip (fun _ _ G Q => Q xs G) noX [] G R
def iEn (xs : List D) (G : GH) (R : List D → (GH → Prop) → GH → Prop) : Prop := dIEnum (fun _ _ G Q => Q xs G) noX [] G R
def fFld (K : PySem.W.Frag) (f : Str) (d : D) (G : GH) (Q : DK) : Prop := dFld K f (dC d) noX [] G Q
def fSet (K : PySem.W.Frag) (f : Str) (x v : D) (G : GH) (Q : GH → Prop) : Prop := match x with
  | .ref a => ∃ C fs, G a = some (.ins C fs) ∧ Cls K C ∧ NoAttr K C f ∧ fs.length < 1000 ∧ Q (gup G a (.ins C (putFD f v fs)))
  | _ => False
def pPart (x : D) (G : GH) (R : Option Int → GH → Prop) : Prop := dPart (dC x) noX [] G R
section
variable {X : DXK} {ρ r : Ro} {G : GH} {Q : DK} {i j : Int} {d : D} {o : Option D} {b c : Bool} {x y : Str} {Qb : Bool → GH → Prop} {p q : Prop}
variable {TQ : Ro → GH → Prop} {g : TGD} {gs : TGsD} {ds : List D} {n : Nat} {R : List D → (GH → Prop) → GH → Prop} {te to : TED} {t : TAD}
theorem dISeq_i : dISeq te X ρ G R = te X ρ G fun d G1 => iSeq d G1 R := rfl
theorem dIRng1_i : dIRng1 t X ρ G R = t X ρ G fun d G1 => iR1 d G1 R := rfl
theorem dIRng2_i : dIRng2 t X ρ G R = t X ρ G fun d G1 => iR2 d G1 R := rfl
theorem dIZip_i : dIZip t X ρ G R = t X ρ G fun d G1 => iZp d G1 R := rfl
theorem dIEnum_i : dIEnum t X ρ G R = t X ρ G fun d G1 => iEn d G1 R := rfl
theorem dFld_i {K : PySem.W.Frag} {f : Str} : dFld K f te X ρ G Q = te X ρ G fun d G1 => fFld K f d G1 Q := rfl
theorem dFldSet_i {K : PySem.W.Frag} {f : Str} {E : DEnds} : dFldSet K f to te E ρ G = te E.ex ρ G fun v G1 => to E.ex ρ G1 fun x G2 => fSet K f x v G2 (E.nx ρ) := rfl
theorem dPart_i {R : Option Int → GH → Prop} : dPart te X ρ G R = te X ρ G fun d G1 => pPart d G1 R := rfl
theorem pPart_int {R : Option Int → GH → Prop} : pPart (.int i) G R = R (some i) G := rfl
theorem iSeq_tup : iSeq (.tup ds) G R = R ds (fun _ => True) G := rfl
theorem iSeq_str : iSeq (.str x) G R = R (charsD x) (fun _ => True) G := rfl
theorem iSeq_lst {a : Addr} (h : lstOf G (.ref a) = some ds) : iSeq (.ref a) G R = R ds (fun G' => lstOf G' (.ref a) = some ds) G := by
  simp only [iSeq, dISeq, dC, h]
theorem iR1_int : iR1 [.int i] G R = ((-(2 ^ 62) ≤ i ∧ i < 2 ^ 62) ∧ R (rangeD 0 i.toNat) (fun _ => True) G) := rfl
theorem iR2_int : iR2 [.int i, .int j] G R = ((-(2 ^ 62) ≤ i ∧ i < 2 ^ 62 ∧ -(2 ^ 62) ≤ j ∧ j < 2 ^ 62) ∧ R (rangeD i (j - i).toNat) (fun _ => True) G) := rfl
theorem iZp_tup {es : List D} : iZp [.tup ds, .tup es] G R = R (zipD ds es) (fun _ => True) G := rfl
theorem iZp_lst {a a2 : Addr} {es : List D} (h : lstOf G (.ref a) = some ds) (h2 : lstOf G (.ref a2) = some es) : iZp [.ref a, .ref a2] G R = R (zipD ds es) (fun G' => lstOf G' (.ref a) = some ds ∧ lstOf G' (.ref a2) = some es) G := by
  simp only [iZp, dIZip, arg2, arg1, arg0, h, h2]
theorem iEn_lst {a : D} (h : lstOf G a = some ds) : iEn [a] G R = R (enumD 0 ds) (fun G' => lstOf G' a = some ds) G := by
  simp only [iEn, dIEnum, arg1, arg0, h]
theorem fFld_ins {K : PySem.W.Frag} {f : Str} {a C : Addr} {fs : List (Str × D)} (h : G a = some (.ins C fs)) (hc : Cls K C) (hn : NoAttr K C f) (hl : fs.lookup f = some d) : fFld K f (.ref a) G Q = Q d G :=
  propext ⟨fun ⟨C', fs', d', e1, _, _, e4, q⟩ => by rw [h] at e1; cases e1; rw [hl] at e4; cases e4; exact q, fun q => ⟨C, fs, d, h, hc, hn, hl, q⟩⟩
theorem fSet_ins {K : PySem.W.Frag} {f : Str} {a C : Addr} {fs : List (Str × D)} {Q : GH → Prop} (h : G a = some (.ins C fs)) (hc : Cls K C) (hn : NoAttr K C f) (hl : fs.length < 1000) : fSet K f (.ref a) d G Q = Q (gup G a (.ins C (putFD f d fs))) :=
  propext ⟨fun ⟨C', fs', e1, _, _, _, q⟩ => by rw [h] at e1; cases e1; exact q, fun q => ⟨C, fs, h, hc, hn, hl, q⟩⟩
def mMeth (Γ : GEnv) (m : Str) (t : TAD) (d : D) (X : DXK) (ρ : Ro) (G : GH) (Q : DK) : Prop := dMeth Γ m (dC d) t X ρ G Q
theorem dMeth_i {Γ : GEnv} {m : Str} : dMeth Γ m to t X ρ G Q = to X ρ G fun d G1 => mMeth Γ m t d X ρ G1 Q := rfl
theorem mMeth_ins {Γ : GEnv} {m : Str} {a C f : Addr} {fs : List (Str × D)} {ps : List Str} {sp : DSp} {kws : List (Nat × List Str)} (h : G a = some (.ins C fs)) (hl : fs.lookup m = none) (hm : Γ.m C m = .fn f ps sp kws) :
    mMeth Γ m t (.ref a) X ρ G Q = t X ρ G fun ds G2 => (ds.length + 1 = ps.length ∧ sp (.ref a :: ds) G2 Q fun e G' => X e ρ G') :=
  propext ⟨fun ⟨C', fs', f', ps', sp', kws', e1, _, e3, q⟩ => by rw [h] at e1; cases e1; rw [hm] at e3; cases e3; exact q, fun q => ⟨C, fs, f, ps, sp, kws, h, hl, hm, q⟩⟩
def mMethK (Γ : GEnv) (m : Str) (n : Nat) (ks : List Str) (t u : TAD) (d : D) (X : DXK) (ρ : Ro) (G : GH) (Q : DK) : Prop := dMethK Γ m n ks (dC d) t u X ρ G Q
theorem dMethK_i {Γ : GEnv} {m : Str} {ks : List Str} {u : TAD} : dMethK Γ m n ks to t u X ρ G Q = to X ρ G fun d G1 => mMethK Γ m n ks t u d X ρ G1 Q := rfl
theorem mMethK_ins {Γ : GEnv} {m : Str} {ks : List Str} {u : TAD} {a C f : Addr} {fs : List (Str × D)} {ps : List Str} {sp : DSp} {kws : List (Nat × List Str)} (h : G a = some (.ins C fs)) (hl : fs.lookup m = none) (hm : Γ.m C m = .fn f ps sp kws) (hk : (n, ks) ∈ kws) :
    mMethK Γ m n ks t u (.ref a) X ρ G Q = t X ρ G fun ds G2 => u X ρ G2 fun es G3 => ds.length = n ∧ es.length = ks.length ∧ cFn ps.length sp (kwArr ps (n + 1) ks (.ref a :: ds) es) X ρ G3 Q :=
  propext ⟨fun ⟨C', fs', f', ps', sp', kws', e1, _, e3, _, q⟩ => by rw [h] at e1; cases e1; rw [hm] at e3; cases e3; exact q, fun q => ⟨C, fs, f, ps, sp, kws, h, hl, hm, hk, q⟩⟩
theorem dLoop_nil {chk : GH → Prop} {tb : TSD} {E : DEnds} : dLoop chk g tb E [] ρ G = (chk G ∧ E.nx ρ G) := rfl
theorem dLoop_cons {chk : GH → Prop} {tb : TSD} {E : DEnds} : dLoop chk g tb E (d :: ds) ρ G = (chk G ∧ g d E.ex ρ G fun ρ1 G1 => tb { E with nx := dLoop chk g tb E ds, ct := dLoop chk g tb E ds, bk := E.nx } ρ1 G1) := rfl
end
/-! the transformers by equations (they go ahead of what is inside) -/
section
variable {X : DXK} {ρ : Ro} {G : GH} {Q : DK} {Qb : Bool → GH → Prop} {QL : List D → GH → Prop} {QI : List D → (GH → Prop) → GH → Prop} {QO : Option Int → GH → Prop} {QR : Ro → GH → Prop} {E : DEnds} {t u : TSD} {te ta tb to ti : TED} {tc tA tB : TTD} {tl tk : TAD} {g : TGD} {d : D} {i j l : Nat} {r : R2D} {r1 : R1D} {rl : RLD} {rm : RMD} {rs : RSetD} {I : TID} {v : GV} {n : String} {lo hi : TOD} {vs : List Nat} {tp : List (TED × TED)} {QP : List (D × D) → GH → Prop}
theorem dSeq_e : dSeq t u E ρ G = t { E with nx := fun ρ1 G1 => u E ρ1 G1 } ρ G := rfl
theorem dDrop_e : dDrop te E ρ G = te E.ex ρ G fun _ G1 => E.nx ρ G1 := rfl
theorem dRet_e : dRet te E ρ G = te E.ex ρ G E.rt := rfl
theorem dRetN_e : dRetN E ρ G = E.rt .non G := rfl
theorem dIfS_e : dIfS tc t u E ρ G = tc E.ex ρ G fun b G1 => dIte b (t E ρ G1) (u E ρ G1) := rfl
theorem dgName_e : dgName i d X ρ G QR = QR (ρ.set i (some d)) G := rfl
theorem dAsg_e : dAsg te g E ρ G = te E.ex ρ G fun d G1 => g d E.ex ρ G1 E.nx := rfl
theorem dPar_e : dPar i j tl E ρ G = tl E.ex ρ G fun ds G1 => arg2 ds fun a b => E.nx ((ρ.set i (some a)).set j (some b)) G1 := rfl
theorem dPar3_e : dPar3 i j l tl E ρ G = tl E.ex ρ G fun ds G1 => arg3 ds fun a b c => E.nx (((ρ.set i (some a)).set j (some b)).set l (some c)) G1 := rfl
theorem dgSub_e : dgSub to ti rs d X ρ G QR = to X ρ G fun o G1 => ti X ρ G1 fun i G2 => rs o i d G2 fun G3 => QR ρ G3 := rfl
theorem dFor_e : dFor I g t E ρ G = I E.ex ρ G fun ds chk G1 => dLoop chk g t E ds ρ G1 := rfl
theorem dC_e : dC d X ρ G Q = Q d G := rfl
theorem dBin_e : dBin r ta tb X ρ G Q = ta X ρ G fun x G1 => tb X ρ G1 fun y G2 => r x y G2 Q := rfl
theorem dUn_e : dUn r1 ta X ρ G Q = ta X ρ G fun x G1 => r1 x G1 Q := rfl
theorem dTru_e : dTru ta X ρ G Qb = ta X ρ G fun x G1 => rTru x G1 Qb := rfl
theorem dTAnd_e : dTAnd tA tB X ρ G Qb = tA X ρ G fun b G1 => dIte b (tB X ρ G1 Qb) (Qb false G1) := rfl
theorem dTOr_e : dTOr tA tB X ρ G Qb = tA X ρ G fun b G1 => dIte b (Qb true G1) (tB X ρ G1 Qb) := rfl
theorem dTNot_e : dTNot tA X ρ G Qb = tA X ρ G fun b G1 => Qb (!b) G1 := rfl
theorem dAnd_e : dAnd ta tb X ρ G Q = ta X ρ G fun x G1 => rTru x G1 fun b G2 => dIte b (tb X ρ G2 Q) (Q x G2) := rfl
theorem dOr_e : dOr ta tb X ρ G Q = ta X ρ G fun x G1 => rTru x G1 fun b G2 => dIte b (Q x G2) (tb X ρ G2 Q) := rfl
theorem dNot_e : dNot ta X ρ G Q = ta X ρ G fun x G1 => rTru x G1 fun b G2 => Q (.bl (!b)) G2 := rfl
theorem dIf_e : dIf tA ta tb X ρ G Q = tA X ρ G fun b G1 => dIte b (ta X ρ G1 Q) (tb X ρ G1 Q) := rfl
theorem dNil_e : dNil X ρ G QL = QL [] G := rfl
theorem dCons_e : dCons ta tl X ρ G QL = ta X ρ G fun x G1 => tl X ρ G1 fun xs G2 => QL (x :: xs) G2 := rfl
theorem dTup_e : dTup tl X ρ G Q = tl X ρ G fun xs G1 => xs.length ≤ sizeLine ∧ Q (.tup xs) G1 := rfl
theorem dLst_e : dLst tl X ρ G Q = tl X ρ G fun xs G1 => xs.length ≤ sizeLine ∧ ∀ p, G1 p = none → Q (.ref p) (gup G1 p (.lst xs)) := rfl
theorem dBc_e : dBc v rl tl X ρ G Q = (isBlt v = true ∧ tl X ρ G fun xs G1 => rl xs G1 Q) := rfl
theorem dBty_e : dBty v n X ρ G Q = (isBlt v = true ∧ Q (.ty n) G) := rfl
theorem dBi_e : dBi v I X ρ G QI = (isBlt v = true ∧ I X ρ G QI) := rfl
theorem dNoPart_e : dNoPart X ρ G QO = QO none G := rfl
theorem dSlice_e : dSlice te lo hi X ρ G Q = te X ρ G fun x G1 => lo X ρ G1 fun l G2 => hi X ρ G2 fun u G3 => rSl x l u G3 Q := rfl
theorem dLM_e : dLM rm to tl X ρ G Q = to X ρ G fun x G1 => (∃ ds, lstOf G1 x = some ds) ∧ tl X ρ G1 fun ys G2 => rm x ys G2 Q := rfl
theorem dNext_e : dNext E ρ G = E.nx ρ G := rfl
theorem dBreak_e : dBreak E ρ G = E.bk ρ G := rfl
theorem dCont_e : dCont E ρ G = E.ct ρ G := rfl
theorem dDisp_e : dDisp tp X ρ G Q = ∀ p, G p = none → dPairs tp X ρ (gup G p (.dct [])) fun ps G2 => G2 p = some (.dct []) ∧ ∃ kvs, keysD ps = some kvs ∧ Q (.ref p) (gup G2 p (.dct (mergeD [] kvs))) := rfl
theorem dPairs_n : dPairs [] X ρ G QP = QP [] G := rfl
theorem dPairs_c : dPairs ((ta, tb) :: tp) X ρ G QP = ta X ρ G fun x G1 => tb X ρ G1 fun y G2 => dPairs tp X ρ G2 fun ps G3 => QP ((x, y) :: ps) G3 := rfl
theorem dYes_e : dYes X ρ G Qb = Qb true G := rfl
theorem dLc_e : dLc I g tA te vs X ρ G Q = I X ρ G fun ds chk G1 => ds.length ≤ sizeLine ∧ dLcL chk g tA te vs ρ ds G1 fun ys G2 => ∀ p, G2 p = none → Q (.ref p) (gup G2 p (.lst ys)) := rfl
end
theorem dLoop_inv {chk : GH → Prop} {tg : TGD} {tb : TSD} {E : DEnds} (I : Ro → GH → Prop) : ∀ ds : List D, (∀ ρ G, I ρ G → chk G) →
    (∀ d ∈ ds, ∀ J : Ro → GH → Prop, (∀ ρ G, I ρ G → J ρ G) → ∀ ρ G, I ρ G → tg d E.ex ρ G fun ρ1 G1 => tb { E with nx := J, ct := J, bk := E.nx } ρ1 G1) →
    (∀ ρ G, I ρ G → E.nx ρ G) → ∀ ρ G, I ρ G → dLoop chk tg tb E ds ρ G
  | [], hc, _, hd, ρ, G, h => ⟨hc ρ G h, hd ρ G h⟩
  | d :: r, hc, hs, hd, ρ, G, h => ⟨hc ρ G h, hs d List.mem_cons_self _ (fun ρ' G' h' => dLoop_inv I r hc (fun d hd => hs d (List.mem_cons_of_mem _ hd)) hd ρ' G' h') ρ G h⟩
theorem dLcL_fm {chk : GH → Prop} {g : TGD} {tt : TTD} {te : TED} {vs : List Nat} {ρ : Ro} {G : GH} (f : D → Option D) (hchk : chk G) : ∀ ds : List D,
    (∀ d ∈ ds, ∀ R : Option D → GH → Prop, R (f d) G → g d noX (wipeD ρ vs) G fun ρ2 G2 => tt noX ρ2 G2 fun b G3 => dIte b (te noX ρ2 G3 fun y G4 => R (some y) G4) (R none G3)) →
    ∀ Q : List D → GH → Prop, Q (ds.filterMap f) G → dLcL chk g tt te vs ρ ds G Q
  | [], _, Q, h => ⟨hchk, h⟩
  | d :: r, st, Q, h => by
    refine ⟨hchk, st d List.mem_cons_self (fun o G' => match o with | some y => dLcL chk g tt te vs ρ r G' fun ys G5 => Q (y :: ys) G5 | none => dLcL chk g tt te vs ρ r G' Q) ?_⟩
    have ih := dLcL_fm f hchk r fun d hd => st d (List.mem_cons_of_mem _ hd)
    cases e : f d with
    | none =>
      rw [List.filterMap_cons, e] at h
      exact ih _ h
    | some y =>
      rw [List.filterMap_cons, e] at h
      exact ih _ h
theorem dLcL_map {chk : GH → Prop} {g : TGD} {te : TED} {vs : List Nat} {ρ : Ro} {G : GH} (f : D → D) (hchk : chk G) (ds : List D)
    (st : ∀ d ∈ ds, ∀ R : D → GH → Prop, R (f d) G → g d noX (wipeD ρ vs) G fun ρ2 G2 => te noX ρ2 G2 R) (Q : List D → GH → Prop) (h : Q (ds.map f) G) : dLcL chk g dYes te vs ρ ds G Q :=
  dLcL_fm (fun d => some (f d)) hchk ds (fun d hd R hR => by
    have e : ∀ ρ2 G2, (te noX ρ2 G2 fun y G4 => R (some y) G4) → dYes noX ρ2 G2 fun b G3 => dIte b (te noX ρ2 G3 fun y G4 => R (some y) G4) (R none G3) := fun ρ2 G2 q => ⟨fun _ => q, fun z => absurd z.symm Bool.false_ne_true⟩
    have q := st d hd (fun y G4 => R (some y) G4) hR
    have ee : (fun ρ2 G2 => dYes noX ρ2 G2 fun b G3 => dIte b (te noX ρ2 G3 fun y G4 => R (some y) G4) (R none G3)) = fun ρ2 G2 => te noX ρ2 G2 fun y G4 => R (some y) G4 := by
      funext ρ2 G2
      exact dIte_t
    rw [ee]
    exact q) Q (by rw [List.filterMap_eq_map' (f := f)] ; exact h)
theorem boolsOf_f (f : D → Bool) : ∀ ds : List D, boolsOf (ds.map fun d => D.bl (f d)) = some (ds.map f)
  | [] => rfl
  | d :: r => by rw [List.map_cons, boolsOf, boolsOf_f f r]; rfl
/-- all of a new list of bools -/
theorem rAll_of {G : GH} {Q : DK} {x : D} {ds : List D} (f : D → Bool) (h : lstOf G x = some (ds.map fun d => D.bl (f d))) (q : Q (.bl (ds.all f)) G) : rAll [x] G Q :=
  ⟨_, _, h, boolsOf_f f ds, by rw [List.all_map]; exact q⟩
theorem rAny_of {G : GH} {Q : DK} {x : D} {ds : List D} (f : D → Bool) (h : lstOf G x = some (ds.map fun d => D.bl (f d))) (q : Q (.bl (ds.any f)) G) : rAny [x] G Q :=
  ⟨_, _, h, boolsOf_f f ds, by rw [List.any_map]; exact q⟩
/-- the items kept and changed, of ints -/
def onI (f : Int → Option Int) : D → Option D
  | .int i => (f i).map D.int
  | _ => none
theorem onI_int {f : Int → Option Int} {i : Int} : onI f (.int i) = (f i).map D.int := rfl
theorem fm_ints (f : Int → Option Int) : ∀ ns : List Int, (ns.map D.int).filterMap (onI f) = (ns.filterMap f).map D.int
  | [] => rfl
  | n :: ns => by
    have ih := fm_ints f ns
    rw [List.map_cons, List.filterMap_cons, List.filterMap_cons, ih]
    have e : onI f (.int n) = (f n).map D.int := rfl
    rw [e]
    cases f n <;> rfl
theorem gup_none {G : GH} {p q : Addr} {o : MO} (h : gup G p o q = none) : q ≠ p ∧ G q = none := by
  by_cases e : q = p
  · subst e; rw [gup_same] at h; cases h
  · rw [gup_ne e] at h; exact ⟨e, h⟩
theorem cut_from {ds : List D} {n : Nat} : cutD ds (some (n : Int)) none = ds.drop n := by
  unfold cutD
  rw [HT.sIx_none, HT.sIx_nat]
  by_cases h : n ≤ ds.length
  · rw [Nat.min_eq_left h, List.take_of_length_le (by rw [List.length_drop]; omega)]
  · rw [Nat.min_eq_right (by omega), List.drop_of_length_le (by omega), List.drop_of_length_le (by omega)]; simp
theorem cut_to {ds : List D} {n : Nat} : cutD ds none (some (n : Int)) = ds.take n := by
  unfold cutD
  rw [HT.sIx_none, HT.sIx_nat, List.drop_zero, Nat.sub_zero]
  by_cases h : n ≤ ds.length
  · rw [Nat.min_eq_left h]
  · rw [Nat.min_eq_right (by omega), List.take_of_length_le (by omega), List.take_of_length_le (by omega)]
theorem rSl_tup {ds : List D} {lo hi : Option Int} {G : GH} {Q : DK} : rSl (.tup ds) lo hi G Q = Q (.tup (cutD ds lo hi)) G := rfl
theorem rSl_lst {ds : List D} {a : Addr} {lo hi : Option Int} {G : GH} {Q : DK} (h : lstOf G (.ref a) = some ds) : rSl (.ref a) lo hi G Q = ∀ p, G p = none → Q (.ref p) (gup G p (.lst (cutD ds lo hi))) := by simp only [rSl, h]
theorem zipD_mem {xs ys : List D} {d : D} (h : d ∈ zipD xs ys) : ∃ x, x ∈ xs ∧ ∃ y, y ∈ ys ∧ d = .tup [x, y] := by
  unfold zipD at h
  obtain ⟨i, hi, e⟩ := List.mem_iff_getElem.mp h
  rw [List.getElem_zipWith] at e
  exact ⟨_, List.getElem_mem _, _, List.getElem_mem _, e.symm⟩
theorem ixt0_at {x0 : D} {r : List D} : atI (x0 :: r) 0 = some x0 := by
  have h : ixN (x0 :: r).length 0 = some 0 := by
    simp [ixN]
    try omega
  unfold atI; rw [h]; rfl
theorem rIxt0 {x0 : D} {r : List D} {G : GH} {Q : DK} : rIx (.tup (x0 :: r)) (.int 0) G Q = Q x0 G := rIx_t ixt0_at
theorem ixt1_at {x0 x1 : D} {r : List D} : atI (x0 :: x1 :: r) 1 = some x1 := by
  have h : ixN (x0 :: x1 :: r).length 1 = some 1 := by
    simp [ixN]
    try omega
  unfold atI; rw [h]; rfl
theorem rIxt1 {x0 x1 : D} {r : List D} {G : GH} {Q : DK} : rIx (.tup (x0 :: x1 :: r)) (.int 1) G Q = Q x1 G := rIx_t ixt1_at
theorem ixt2_at {x0 x1 x2 : D} {r : List D} : atI (x0 :: x1 :: x2 :: r) 2 = some x2 := by
  have h : ixN (x0 :: x1 :: x2 :: r).length 2 = some 2 := by
    simp [ixN]
    try omega
  unfold atI; rw [h]; rfl
theorem rIxt2 {x0 x1 x2 : D} {r : List D} {G : GH} {Q : DK} : rIx (.tup (x0 :: x1 :: x2 :: r)) (.int 2) G Q = Q x2 G := rIx_t ixt2_at
theorem ixt3_at {x0 x1 x2 x3 : D} {r : List D} : atI (x0 :: x1 :: x2 :: x3 :: r) 3 = some x3 := by
  have h : ixN (x0 :: x1 :: x2 :: x3 :: r).length 3 = some 3 := by
    simp [ixN]
    try omega
  unfold atI; rw [h]; rfl
theorem rIxt3 {x0 x1 x2 x3 : D} {r : List D} {G : GH} {Q : DK} : rIx (.tup (x0 :: x1 :: x2 :: x3 :: r)) (.int 3) G Q = Q x3 G := rIx_t ixt3_at
theorem ixt4_at {x0 x1 x2 x3 x4 : D} {r : List D} : atI (x0 :: x1 :: x2 :: x3 :: x4 :: r) 4 = some x4 := by
  have h : ixN (x0 :: x1 :: x2 :: x3 :: x4 :: r).length 4 = some 4 := by
    simp [ixN]
    try omega
  unfold atI; rw [h]; rfl
theorem rIxt4 {x0 x1 x2 x3 x4 : D} {r : List D} {G : GH} {Q : DK} : rIx (.tup (x0 :: x1 :: x2 :: x3 :: x4 :: r)) (.int 4) G Q = Q x4 G := rIx_t ixt4_at
theorem ixt5_at {x0 x1 x2 x3 x4 x5 : D} {r : List D} : atI (x0 :: x1 :: x2 :: x3 :: x4 :: x5 :: r) 5 = some x5 := by
  have h : ixN (x0 :: x1 :: x2 :: x3 :: x4 :: x5 :: r).length 5 = some 5 := by
    simp [ixN]
    try omega
  unfold atI; rw [h]; rfl
theorem rIxt5 {x0 x1 x2 x3 x4 x5 : D} {r : List D} {G : GH} {Q : DK} : rIx (.tup (x0 :: x1 :: x2 :: x3 :: x4 :: x5 :: r)) (.int 5) G Q = Q x5 G := rIx_t ixt5_at
theorem ixt6_at {x0 x1 x2 x3 x4 x5 x6 : D} {r : List D} : atI (x0 :: x1 :: x2 :: x3 :: x4 :: x5 :: x6 :: r) 6 = some x6 := by
  have h : ixN (x0 :: x1 :: x2 :: x3 :: x4 :: x5 :: x6 :: r).length 6 = some 6 := by
    simp [ixN]
    try omega
  unfold atI; rw [h]; rfl
theorem rIxt6 {x0 x1 x2 x3 x4 x5 x6 : D} {r : List D} {G : GH} {Q : DK} : rIx (.tup (x0 :: x1 :: x2 :: x3 :: x4 :: x5 :: x6 :: r)) (.int 6) G Q = Q x6 G := rIx_t ixt6_at
theorem ixt7_at {x0 x1 x2 x3 x4 x5 x6 x7 : D} {r : List D} : atI (x0 :: x1 :: x2 :: x3 :: x4 :: x5 :: x6 :: x7 :: r) 7 = some x7 := by
  have h : ixN (x0 :: x1 :: x2 :: x3 :: x4 :: x5 :: x6 :: x7 :: r).length 7 = some 7 := by
    simp [ixN]
    try omega
  unfold atI; rw [h]; rfl
theorem rIxt7 {x0 x1 x2 x3 x4 x5 x6 x7 : D} {r : List D} {G : GH} {Q : DK} : rIx (.tup (x0 :: x1 :: x2 :: x3 :: x4 :: x5 :: x6 :: x7 :: r)) (.int 7) G Q = Q x7 G := rIx_t ixt7_at
theorem lst_new {G : GH} {p : Addr} {ds : List D} : lstOf (gup G p (.lst ds)) (.ref p) = some ds := by simp only [lstOf, gup_same]
theorem lst_of {G : GH} {p : Addr} {ds : List D} (h : G p = some (.lst ds)) : lstOf G (.ref p) = some ds := by simp only [lstOf, h]
theorem lst_fro {G : GH} {p : Addr} {ds : List D} (h : G p = some (.fro ds)) : lstOf G (.ref p) = some ds := by simp only [lstOf, h]
theorem ix_dct {G : GH} {s : Addr} {kvs : List (Key × D)} {x : Str} {d : D} {Q : DK} (h : G s = some (.dct kvs)) (hv : valD kvs (.inr x) = some d) : rIx (.ref s) (.str x) G Q = Q d G := by
  simp only [rIx, h, keyD]
  exact propext ⟨fun ⟨k, d', e1, e2, q⟩ => by cases e1; rw [hv] at e2; cases e2; exact q, fun q => ⟨_, _, rfl, hv, q⟩⟩
theorem ix_lst {G : GH} {s : Addr} {ds : List D} {i : Int} {d : D} {Q : DK} (h : G s = some (.lst ds)) (hv : atI ds i = some d) : rIx (.ref s) (.int i) G Q = Q d G := by
  simp only [rIx, h]
  exact propext ⟨fun ⟨d', e2, q⟩ => by rw [hv] at e2; cases e2; exact q, fun q => ⟨_, hv, q⟩⟩
theorem set_dct {G : GH} {s : Addr} {kvs : List (Key × D)} {x : Str} {d : D} {Q : GH → Prop} (h : G s = some (.dct kvs)) (hl : kvs.length < sizeLine) : rSet (.ref s) (.str x) d G Q = Q (gup G s (.dct (putD kvs (.inr x) d))) := by
  simp only [rSet, h, keyD]
  exact propext ⟨fun ⟨k, e1, _, q⟩ => by cases e1; exact q, fun q => ⟨_, rfl, hl, q⟩⟩
theorem gup_old {G : GH} {a p : Addr} {o u : MO} (h : G a = some u) (hp : G p = none) : gup G p o a = some u := by rw [gup_ne (gne h hp)]; exact h
theorem imul_l {i j : Int} (h1 : -(2 ^ 64) < i) (h2 : i < 2 ^ 64) : IMul i j := .inl (.inl ⟨h1, h2⟩)
theorem imul_r {i j : Int} (h1 : -(2 ^ 64) < j) (h2 : j < 2 ^ 64) : IMul i j := .inl (.inr ⟨h1, h2⟩)
theorem idiv_s {i j : Int} (h1 : 0 < j) (h2 : j < 1073741824) : IDiv i j := .inl ⟨by omega, by omega⟩
theorem size_le {n : Nat} (h : n ≤ 1000000) : n ≤ sizeLine := by rw [sizeLine_eq]; omega
end Dl

namespace Dl
open PySem PySem.Spec PyProof.Rows L2
/-! ### equality of data without lists inside -/
mutual
def pT : D → PyData
  | .non => .none
  | .bl b => .bool b
  | .int i => .int i
  | .str x => .str x
  | .ty _ => .none
  | .ref _ => .none
  | .tup ds => .tuple (pTL ds)
def pTL : List D → List PyData
  | [] => []
  | d :: r => pT d :: pTL r
end
mutual
def okT : Nat → D → Bool
  | _, .non => true
  | _, .bl _ => true
  | _, .int _ => true
  | _, .str x => PyData.strOk x
  | n, .tup ds => match n with
    | 0 => false
    | k + 1 => okTL k ds
  | _, .ty _ => false
  | _, .ref _ => false
def okTL : Nat → List D → Bool
  | _, [] => true
  | n, d :: r => okT n d && okTL n r
end
mutual
def eqT : D → D → Bool
  | .non, .non => true
  | .bl a, .bl b => decide (a = b)
  | .bl a, .int j => decide ((if a then 1 else 0) = j)
  | .int i, .bl b => decide (i = (if b then 1 else 0))
  | .int i, .int j => decide (i = j)
  | .str x, .str y => decide (x = y)
  | .tup xs, .tup ys => eqTL xs ys
  | _, _ => false
def eqTL : List D → List D → Bool
  | [], [] => true
  | x :: xs, y :: ys => eqT x y && eqTL xs ys
  | _, _ => false
end
theorem mapM_pTL {f : D → Option PyData} : ∀ {ds : List D}, (∀ d ∈ ds, f d = some (pT d)) → ds.mapM f = some (pTL ds)
  | [], _ => rfl
  | d :: r, h => by
    have ih := mapM_pTL (ds := r) fun d hd => h d (List.mem_cons_of_mem _ hd)
    rw [List.mapM_cons, h d List.mem_cons_self, ih]
    rfl
theorem okTL_mem {n : Nat} : ∀ {ds : List D}, okTL n ds = true → ∀ d ∈ ds, okT n d = true
  | d :: r, h, x, hx => by
    unfold okTL at h
    rw [Bool.and_eq_true] at h
    rcases List.mem_cons.mp hx with e | e
    · rw [e]; exact h.1
    · exact okTL_mem h.2 x e
theorem okTL_of {n : Nat} : ∀ {ds : List D}, (∀ d ∈ ds, okT n d = true) → okTL n ds = true
  | [], _ => rfl
  | d :: r, h => by
    unfold okTL
    rw [h d List.mem_cons_self, okTL_of fun d hd => h d (List.mem_cons_of_mem _ hd)]; rfl
theorem toP_ok2 (G : GH) : ∀ (n m : Nat) (d : D), okT n d = true → n < m → toP G m d = some (pT d) := by
  intro n
  induction n with
  | zero =>
    intro m d h hm
    obtain ⟨m, rfl⟩ : ∃ k, m = k + 1 := ⟨m - 1, by omega⟩
    cases d <;> first | rfl | (simp [okT] at h; done)
  | succ n ih =>
    intro m d h hm
    obtain ⟨m, rfl⟩ : ∃ k, m = k + 1 := ⟨m - 1, by omega⟩
    cases d with
    | tup ds =>
      have h : okTL n ds = true := by simpa [okT] using h
      show (ds.mapM (toP G m)).map PyData.tuple = _
      rw [mapM_pTL fun d hd => ih m d (okTL_mem h d hd) (by omega)]
      simp [pT]
    | ref a => simp [okT] at h
    | ty a => simp [okT] at h
    | _ => rfl
theorem pTL_lay {n : Nat} : ∀ {ds : List D}, (∀ d ∈ ds, (pT d).canLay0 = true ∧ (pT d).depth ≤ n) → PyData.canLayAll0 (pTL ds) = true ∧ PyData.depthAll (pTL ds) ≤ n
  | [], _ => ⟨rfl, Nat.zero_le _⟩
  | d :: r, h => by
    obtain ⟨h1, h2⟩ := h d List.mem_cons_self
    obtain ⟨h3, h4⟩ := pTL_lay (n := n) (ds := r) fun d hd => h d (List.mem_cons_of_mem _ hd)
    refine ⟨by simp [pTL, PyData.canLayAll0, h1, h3], ?_⟩
    simp only [pTL, PyData.depthAll]
    omega
theorem pT_lay : ∀ (n : Nat) (d : D), okT n d = true → (pT d).canLay0 = true ∧ (pT d).depth ≤ n := by
  intro n
  induction n with
  | zero =>
    intro d h
    cases d <;> first | exact ⟨rfl, Nat.le_refl _⟩ | (simp [okT] at h; done) | skip
    exact ⟨by simpa [okT, pT, PyData.canLay0] using h, Nat.le_refl _⟩
  | succ n ih =>
    intro d h
    cases d with
    | tup ds =>
      have h : okTL n ds = true := by simpa [okT] using h
      obtain ⟨h1, h2⟩ := pTL_lay fun d hd => ih d (okTL_mem h d hd)
      refine ⟨by simpa [pT, PyData.canLay0] using h1, ?_⟩
      simp only [pT, PyData.depth]
      omega
    | str x => exact ⟨by simpa [okT, pT, PyData.canLay0] using h, Nat.zero_le _⟩
    | ref a => simp [okT] at h
    | ty a => simp [okT] at h
    | _ => exact ⟨rfl, Nat.zero_le _⟩
theorem pT_shaped {n : Nat} {d : D} (h : okT n d = true) (hn : n ≤ 50) : SeqAt.shaped (pT d) = true := by
  obtain ⟨h1, h2⟩ := pT_lay n d h
  unfold SeqAt.shaped
  rw [h1, decide_eq_true (by omega : (pT d).depth ≤ 64)]; rfl
theorem pTL_shaped {n : Nat} {ds : List D} (h : okTL n ds = true) (hn : n ≤ 50) : SeqAt.shaped (.list (pTL ds)) = true := by
  obtain ⟨h1, h2⟩ := pTL_lay fun d hd => pT_lay n d (okTL_mem h d hd)
  unfold SeqAt.shaped
  rw [show (PyData.list (pTL ds)).canLay0 = true by simpa [PyData.canLay0] using h1, decide_eq_true (show (PyData.list (pTL ds)).depth ≤ 64 by simp only [PyData.depth]; omega)]; rfl
mutual
theorem eqv_pT : ∀ (x y : D) {n m : Nat}, okT n x = true → okT m y = true → PyData.eqv (pT x) (pT y) = eqT x y
  | .ty _, _, _, _, h, _ => by simp [okT] at h
  | .ref _, _, _, _, h, _ => by simp [okT] at h
  | x, .ty _, _, _, _, h => by simp [okT] at h
  | x, .ref _, _, _, _, h => by simp [okT] at h
  | .tup xs, .tup ys, n, m, h, h' => by
    obtain ⟨n, rfl⟩ : ∃ k, n = k + 1 := by
      cases n with
      | zero => simp [okT] at h
      | succ n => exact ⟨n, rfl⟩
    obtain ⟨m, rfl⟩ : ∃ k, m = k + 1 := by
      cases m with
      | zero => simp [okT] at h'
      | succ m => exact ⟨m, rfl⟩
    simp only [pT, PyData.eqv, eqT]
    exact eqv_pTL xs ys (n := n) (m := m) (by simpa [okT] using h) (by simpa [okT] using h')
  | .non, .non, _, _, _, _ => rfl
  | .non, .bl _, _, _, _, _ => rfl
  | .non, .int _, _, _, _, _ => rfl
  | .non, .str _, _, _, _, _ => rfl
  | .non, .tup _, _, _, _, _ => rfl
  | .bl _, .non, _, _, _, _ => rfl
  | .bl a, .bl b, _, _, _, _ => by simp [pT, PyData.eqv, eqT, Bool.beq_eq_decide_eq]
  | .bl _, .int _, _, _, _, _ => by simp only [pT, PyData.eqv, eqT]; exact Bool.eq_iff_iff.mpr (by simp)
  | .bl _, .str _, _, _, _, _ => rfl
  | .bl _, .tup _, _, _, _, _ => rfl
  | .int _, .non, _, _, _, _ => rfl
  | .int _, .bl _, _, _, _, _ => by simp only [pT, PyData.eqv, eqT]; exact Bool.eq_iff_iff.mpr (by simp)
  | .int _, .int _, _, _, _, _ => by simp only [pT, PyData.eqv, eqT]; exact Bool.eq_iff_iff.mpr (by simp)
  | .int _, .str _, _, _, _, _ => rfl
  | .int _, .tup _, _, _, _, _ => rfl
  | .str _, .non, _, _, _, _ => rfl
  | .str _, .bl _, _, _, _, _ => rfl
  | .str _, .int _, _, _, _, _ => rfl
  | .str _, .str _, _, _, _, _ => by simp only [pT, PyData.eqv, eqT]; exact Bool.eq_iff_iff.mpr (by simp)
  | .str _, .tup _, _, _, _, _ => rfl
  | .tup _, .non, _, _, _, _ => rfl
  | .tup _, .bl _, _, _, _, _ => rfl
  | .tup _, .int _, _, _, _, _ => rfl
  | .tup _, .str _, _, _, _, _ => rfl
theorem eqv_pTL : ∀ (xs ys : List D) {n m : Nat}, okTL n xs = true → okTL m ys = true → PyData.eqvAll (pTL xs) (pTL ys) = eqTL xs ys
  | [], [], _, _, _, _ => rfl
  | [], _ :: _, _, _, _, _ => rfl
  | _ :: _, [], _, _, _, _ => rfl
  | x :: xs, y :: ys, n, m, h, h' => by
    unfold okTL at h h'
    rw [Bool.and_eq_true] at h h'
    simp only [pTL, PyData.eqvAll, eqTL]
    rw [eqv_pT x y h.1 h'.1, eqv_pTL xs ys h.2 h'.2]
end
section
variable {G : GH} {Q : DK} {x y : D} {n m : Nat}
theorem rEq_ok (hx : okT n x = true) (hy : okT m y = true) (hn : n ≤ 50) (hm : m ≤ 50) (h : Q (.bl (eqT x y)) G) : rEq x y G Q := by
  have gen : gEq G x y fun b => Q (.bl b) G :=
    .inl ⟨_, _, toP_ok2 G n 60 x hx (by omega), toP_ok2 G m 60 y hy (by omega), pT_shaped hx hn, pT_shaped hy hm, by rw [eqv_pT x y hx hy]; exact h⟩
  cases x <;> cases y <;> first | exact gen | exact h
theorem rNe_ok (hx : okT n x = true) (hy : okT m y = true) (hn : n ≤ 50) (hm : m ≤ 50) (h : Q (.bl (!eqT x y)) G) : rNe x y G Q := by
  have gen : gEq G x y fun b => Q (.bl (!b)) G :=
    .inl ⟨_, _, toP_ok2 G n 60 x hx (by omega), toP_ok2 G m 60 y hy (by omega), pT_shaped hx hn, pT_shaped hy hm, by rw [eqv_pT x y hx hy]; exact h⟩
  cases x <;> cases y <;> first | exact gen | exact h
theorem toP_list {a : Addr} {ds : List D} (h : lstOf G (.ref a) = some ds) (ho : okTL n ds = true) (hn : n ≤ 50) : toP G 60 (.ref a) = some (.list (pTL ds)) := by
  show (match lstOf G (.ref a) with
      | some ds => (ds.mapM (toP G 59)).map PyData.list
      | none => none) = _
  rw [h]
  show (ds.mapM (toP G 59)).map PyData.list = _
  rw [mapM_pTL fun d hd => toP_ok2 G n 59 d (okTL_mem ho d hd) (by omega)]
  rfl
theorem rEq_ll {a b : Addr} {xs ys : List D} (h1 : lstOf G (.ref a) = some xs) (h2 : lstOf G (.ref b) = some ys) (hx : okTL n xs = true) (hy : okTL m ys = true) (hn : n ≤ 50) (hm : m ≤ 50) (h : Q (.bl (eqTL xs ys)) G) : rEq (.ref a) (.ref b) G Q :=
  .inl ⟨_, _, toP_list h1 hx hn, toP_list h2 hy hm, pTL_shaped hx hn, pTL_shaped hy hm, by
    show Q (.bl (PyData.eqv (.list (pTL xs)) (.list (pTL ys)))) G
    rw [PyData.eqv, eqv_pTL xs ys hx hy]; exact h⟩
theorem rNe_ll {a b : Addr} {xs ys : List D} (h1 : lstOf G (.ref a) = some xs) (h2 : lstOf G (.ref b) = some ys) (hx : okTL n xs = true) (hy : okTL m ys = true) (hn : n ≤ 50) (hm : m ≤ 50) (h : Q (.bl (!eqTL xs ys)) G) : rNe (.ref a) (.ref b) G Q :=
  .inl ⟨_, _, toP_list h1 hx hn, toP_list h2 hy hm, pTL_shaped hx hn, pTL_shaped hy hm, by
    show Q (.bl (!PyData.eqv (.list (pTL xs)) (.list (pTL ys)))) G
    rw [PyData.eqv, eqv_pTL xs ys hx hy]; exact h⟩
end
/-! things of unlike kinds -/
section
variable {G : GH} {Q : DK} {x y : D} {k l : Kd}
theorem rEq_kd (h1 : kdOf G x = some k) (h2 : kdOf G y = some l) (hn : k ≠ l) (h : Q (.bl false) G) : rEq x y G Q := by
  have gen : gEq G x y fun b => Q (.bl b) G := .inr (.inl ⟨k, l, h1, h2, hn, h⟩)
  cases x <;> cases y <;> first
    | exact gen
    | (cases h1; cases h2; exact absurd rfl hn)
theorem rNe_kd (h1 : kdOf G x = some k) (h2 : kdOf G y = some l) (hn : k ≠ l) (h : Q (.bl true) G) : rNe x y G Q := by
  have gen : gEq G x y fun b => Q (.bl (!b)) G := .inr (.inl ⟨k, l, h1, h2, hn, h⟩)
  cases x <;> cases y <;> first
    | exact gen
    | (cases h1; cases h2; exact absurd rfl hn)
theorem rEq_tn {ds : List D} (h : Q (.bl ds.isEmpty) G) : rEq (.tup ds) (.tup []) G Q := .inr (.inr ⟨ds, rfl, rfl, h⟩)
theorem rNe_tn {ds : List D} (h : Q (.bl (!ds.isEmpty)) G) : rNe (.tup ds) (.tup []) G Q := .inr (.inr ⟨ds, rfl, rfl, h⟩)
/-- is it this text -/
def strIs (w : Str) (d : D) : Bool := match d with
  | .str x => decide (x = w)
  | _ => false
theorem kd_nstr {w : Str} (h : kdOf G x = some k) (hn : k ≠ .str) : strIs w x = false := by
  cases x <;> first
    | rfl
    | (cases h; exact absurd rfl hn)
theorem rEq_str {w : Str} (h : kdOf G x = some k) (q : Q (.bl (strIs w x)) G) : rEq x (.str w) G Q := by
  by_cases hn : k = .str
  · subst hn
    cases x <;> first
      | exact q
      | (cases h; done)
      | skip
    rename_i a
    simp only [kdOf] at h
    split at h <;> cases h
  · rw [kd_nstr h hn] at q
    exact rEq_kd h rfl hn q
theorem rNe_str {w : Str} (h : kdOf G x = some k) (q : Q (.bl (!strIs w x)) G) : rNe x (.str w) G Q := by
  by_cases hn : k = .str
  · subst hn
    cases x <;> first
      | exact q
      | (cases h; done)
      | skip
    rename_i a
    simp only [kdOf] at h
    split at h <;> cases h
  · rw [kd_nstr h hn] at q
    exact rNe_kd h rfl hn q
end
mutual
theorem eqT_refl : ∀ (x : D) {n : Nat}, okT n x = true → eqT x x = true
  | .non, _, _ => rfl
  | .bl _, _, _ => by simp [eqT]
  | .int _, _, _ => by simp [eqT]
  | .str _, _, _ => by simp [eqT]
  | .ty _, _, h => by simp [okT] at h
  | .ref _, _, h => by simp [okT] at h
  | .tup xs, n, h => by
    cases n with
    | zero => simp [okT] at h
    | succ n =>
      simp only [eqT]
      exact eqTL_refl xs (n := n) (by simpa [okT] using h)
theorem eqTL_refl : ∀ (xs : List D) {n : Nat}, okTL n xs = true → eqTL xs xs = true
  | [], _, _ => rfl
  | x :: xs, n, h => by
    unfold okTL at h
    rw [Bool.and_eq_true] at h
    simp only [eqTL, eqT_refl x h.1, eqTL_refl xs h.2, Bool.and_self]
end
theorem eqTL_nil {xs : List D} : eqTL xs [] = xs.isEmpty := by cases xs <;> simp [eqTL]
theorem okTL_ints {n : Nat} (ns : List Int) : okTL n (ns.map D.int) = true := okTL_of fun d hd => by
  obtain ⟨i, _, rfl⟩ := List.mem_map.mp hd
  simp [okT]
end Dl

namespace Dl
open PySem PySem.Spec PyProof.Rows L2
/-! ### isinstance -/
section
variable {K : PySem.W.Frag} {G : GH} {Q : DK}
theorem isi_of {x c : D} {t : Value} {b : Bool} (h : TyD K G x t) (hk : kitD K t c = some b) (hu : ∀ t', TyD K G x t' → t' = t) : rIsi K [x, c] G Q = Q (.bl b) G :=
  propext ⟨fun ⟨t', b', h1, h2, q⟩ => by cases hu t' h1; rw [hk] at h2; cases h2; exact q, fun q => ⟨t, b, h, hk, q⟩⟩
theorem isi_one {x : D} {t n : String} {b : Bool} (h : (TyD K G x) = fun v => v = .type t) (hk : kitB t n = some b) : rIsi K [x, .ty n] G Q = Q (.bl b) G :=
  isi_of (t := .type t) (by rw [h]) (kit_ty hk) (fun t' h' => by rw [h] at h'; exact h')
theorem isi_non_int  : rIsi K [.non, .ty "int"] G Q = Q (.bl false) G := isi_one rfl (by kernel_rfl)
theorem isi_non_bool  : rIsi K [.non, .ty "bool"] G Q = Q (.bl false) G := isi_one rfl (by kernel_rfl)
theorem isi_non_str  : rIsi K [.non, .ty "str"] G Q = Q (.bl false) G := isi_one rfl (by kernel_rfl)
theorem isi_non_list  : rIsi K [.non, .ty "list"] G Q = Q (.bl false) G := isi_one rfl (by kernel_rfl)
theorem isi_non_tuple  : rIsi K [.non, .ty "tuple"] G Q = Q (.bl false) G := isi_one rfl (by kernel_rfl)
theorem isi_non_dict  : rIsi K [.non, .ty "dict"] G Q = Q (.bl false) G := isi_one rfl (by kernel_rfl)
theorem isi_bl_int {b : Bool} : rIsi K [.bl b, .ty "int"] G Q = Q (.bl true) G := isi_one rfl (by kernel_rfl)
theorem isi_bl_bool {b : Bool} : rIsi K [.bl b, .ty "bool"] G Q = Q (.bl true) G := isi_one rfl (by kernel_rfl)
theorem isi_bl_str {b : Bool} : rIsi K [.bl b, .ty "str"] G Q = Q (.bl false) G := isi_one rfl (by kernel_rfl)
theorem isi_bl_list {b : Bool} : rIsi K [.bl b, .ty "list"] G Q = Q (.bl false) G := isi_one rfl (by kernel_rfl)
theorem isi_bl_tuple {b : Bool} : rIsi K [.bl b, .ty "tuple"] G Q = Q (.bl false) G := isi_one rfl (by kernel_rfl)
theorem isi_bl_dict {b : Bool} : rIsi K [.bl b, .ty "dict"] G Q = Q (.bl false) G := isi_one rfl (by kernel_rfl)
theorem isi_int_int {i : Int} : rIsi K [.int i, .ty "int"] G Q = Q (.bl true) G := isi_one rfl (by kernel_rfl)
theorem isi_int_bool {i : Int} : rIsi K [.int i, .ty "bool"] G Q = Q (.bl false) G := isi_one rfl (by kernel_rfl)
theorem isi_int_str {i : Int} : rIsi K [.int i, .ty "str"] G Q = Q (.bl false) G := isi_one rfl (by kernel_rfl)
theorem isi_int_list {i : Int} : rIsi K [.int i, .ty "list"] G Q = Q (.bl false) G := isi_one rfl (by kernel_rfl)
theorem isi_int_tuple {i : Int} : rIsi K [.int i, .ty "tuple"] G Q = Q (.bl false) G := isi_one rfl (by kernel_rfl)
theorem isi_int_dict {i : Int} : rIsi K [.int i, .ty "dict"] G Q = Q (.bl false) G := isi_one rfl (by kernel_rfl)
theorem isi_str_int {x : Str} : rIsi K [.str x, .ty "int"] G Q = Q (.bl false) G := isi_one rfl (by kernel_rfl)
theorem isi_str_bool {x : Str} : rIsi K [.str x, .ty "bool"] G Q = Q (.bl false) G := isi_one rfl (by kernel_rfl)
theorem isi_str_str {x : Str} : rIsi K [.str x, .ty "str"] G Q = Q (.bl true) G := isi_one rfl (by kernel_rfl)
theorem isi_str_list {x : Str} : rIsi K [.str x, .ty "list"] G Q = Q (.bl false) G := isi_one rfl (by kernel_rfl)
theorem isi_str_tuple {x : Str} : rIsi K [.str x, .ty "tuple"] G Q = Q (.bl false) G := isi_one rfl (by kernel_rfl)
theorem isi_str_dict {x : Str} : rIsi K [.str x, .ty "dict"] G Q = Q (.bl false) G := isi_one rfl (by kernel_rfl)
theorem isi_tup_int {ds : List D} : rIsi K [.tup ds, .ty "int"] G Q = Q (.bl false) G := isi_one rfl (by kernel_rfl)
theorem isi_tup_bool {ds : List D} : rIsi K [.tup ds, .ty "bool"] G Q = Q (.bl false) G := isi_one rfl (by kernel_rfl)
theorem isi_tup_str {ds : List D} : rIsi K [.tup ds, .ty "str"] G Q = Q (.bl false) G := isi_one rfl (by kernel_rfl)
theorem isi_tup_list {ds : List D} : rIsi K [.tup ds, .ty "list"] G Q = Q (.bl false) G := isi_one rfl (by kernel_rfl)
theorem isi_tup_tuple {ds : List D} : rIsi K [.tup ds, .ty "tuple"] G Q = Q (.bl true) G := isi_one rfl (by kernel_rfl)
theorem isi_tup_dict {ds : List D} : rIsi K [.tup ds, .ty "dict"] G Q = Q (.bl false) G := isi_one rfl (by kernel_rfl)
theorem isi_lst_int {ds : List D} {a : Addr} (h : G a = some (.lst ds)) : rIsi K [.ref a, .ty "int"] G Q = Q (.bl false) G := isi_one (t := "list") (by funext v; simp only [TyD, h]) (by kernel_rfl)
theorem isi_lst_bool {ds : List D} {a : Addr} (h : G a = some (.lst ds)) : rIsi K [.ref a, .ty "bool"] G Q = Q (.bl false) G := isi_one (t := "list") (by funext v; simp only [TyD, h]) (by kernel_rfl)
theorem isi_lst_str {ds : List D} {a : Addr} (h : G a = some (.lst ds)) : rIsi K [.ref a, .ty "str"] G Q = Q (.bl false) G := isi_one (t := "list") (by funext v; simp only [TyD, h]) (by kernel_rfl)
theorem isi_lst_list {ds : List D} {a : Addr} (h : G a = some (.lst ds)) : rIsi K [.ref a, .ty "list"] G Q = Q (.bl true) G := isi_one (t := "list") (by funext v; simp only [TyD, h]) (by kernel_rfl)
theorem isi_lst_tuple {ds : List D} {a : Addr} (h : G a = some (.lst ds)) : rIsi K [.ref a, .ty "tuple"] G Q = Q (.bl false) G := isi_one (t := "list") (by funext v; simp only [TyD, h]) (by kernel_rfl)
theorem isi_lst_dict {ds : List D} {a : Addr} (h : G a = some (.lst ds)) : rIsi K [.ref a, .ty "dict"] G Q = Q (.bl false) G := isi_one (t := "list") (by funext v; simp only [TyD, h]) (by kernel_rfl)
theorem isi_fro_int {ds : List D} {a : Addr} (h : G a = some (.fro ds)) : rIsi K [.ref a, .ty "int"] G Q = Q (.bl false) G := isi_one (t := "list") (by funext v; simp only [TyD, h]) (by kernel_rfl)
theorem isi_fro_bool {ds : List D} {a : Addr} (h : G a = some (.fro ds)) : rIsi K [.ref a, .ty "bool"] G Q = Q (.bl false) G := isi_one (t := "list") (by funext v; simp only [TyD, h]) (by kernel_rfl)
theorem isi_fro_str {ds : List D} {a : Addr} (h : G a = some (.fro ds)) : rIsi K [.ref a, .ty "str"] G Q = Q (.bl false) G := isi_one (t := "list") (by funext v; simp only [TyD, h]) (by kernel_rfl)
theorem isi_fro_list {ds : List D} {a : Addr} (h : G a = some (.fro ds)) : rIsi K [.ref a, .ty "list"] G Q = Q (.bl true) G := isi_one (t := "list") (by funext v; simp only [TyD, h]) (by kernel_rfl)
theorem isi_fro_tuple {ds : List D} {a : Addr} (h : G a = some (.fro ds)) : rIsi K [.ref a, .ty "tuple"] G Q = Q (.bl false) G := isi_one (t := "list") (by funext v; simp only [TyD, h]) (by kernel_rfl)
theorem isi_fro_dict {ds : List D} {a : Addr} (h : G a = some (.fro ds)) : rIsi K [.ref a, .ty "dict"] G Q = Q (.bl false) G := isi_one (t := "list") (by funext v; simp only [TyD, h]) (by kernel_rfl)
theorem isi_dct_int {kvs : List (Key × D)} {a : Addr} (h : G a = some (.dct kvs)) : rIsi K [.ref a, .ty "int"] G Q = Q (.bl false) G := isi_one (t := "dict") (by funext v; simp only [TyD, h]) (by kernel_rfl)
theorem isi_dct_bool {kvs : List (Key × D)} {a : Addr} (h : G a = some (.dct kvs)) : rIsi K [.ref a, .ty "bool"] G Q = Q (.bl false) G := isi_one (t := "dict") (by funext v; simp only [TyD, h]) (by kernel_rfl)
theorem isi_dct_str {kvs : List (Key × D)} {a : Addr} (h : G a = some (.dct kvs)) : rIsi K [.ref a, .ty "str"] G Q = Q (.bl false) G := isi_one (t := "dict") (by funext v; simp only [TyD, h]) (by kernel_rfl)
theorem isi_dct_list {kvs : List (Key × D)} {a : Addr} (h : G a = some (.dct kvs)) : rIsi K [.ref a, .ty "list"] G Q = Q (.bl false) G := isi_one (t := "dict") (by funext v; simp only [TyD, h]) (by kernel_rfl)
theorem isi_dct_tuple {kvs : List (Key × D)} {a : Addr} (h : G a = some (.dct kvs)) : rIsi K [.ref a, .ty "tuple"] G Q = Q (.bl false) G := isi_one (t := "dict") (by funext v; simp only [TyD, h]) (by kernel_rfl)
theorem isi_dct_dict {kvs : List (Key × D)} {a : Addr} (h : G a = some (.dct kvs)) : rIsi K [.ref a, .ty "dict"] G Q = Q (.bl true) G := isi_one (t := "dict") (by funext v; simp only [TyD, h]) (by kernel_rfl)
end
end Dl

namespace Dl
open PySem PySem.Spec PyProof.Rows L2
theorem v_turn {g c : Addr} {l t : Int} : valD (sD g c l t) (.inr "turn") = some (.int t) := by kernel_rfl
theorem v_left {g c : Addr} {l t : Int} : valD (sD g c l t) (.inr "left") = some (.int l) := by kernel_rfl
theorem v_great {g c : Addr} {l t : Int} : valD (sD g c l t) (.inr "great") = some (.ref g) := by kernel_rfl
theorem v_cells {g c : Addr} {l t : Int} : valD (sD g c l t) (.inr "cells") = some (.ref c) := by kernel_rfl
theorem p_turn {g c : Addr} {l t u : Int} : putD (sD g c l t) (.inr "turn") (.int u) = sD g c l u := by kernel_rfl
theorem p_left {g c : Addr} {l t u : Int} : putD (sD g c l t) (.inr "left") (.int u) = sD g c u t := by kernel_rfl
theorem sD_len {g c : Addr} {l t : Int} : (sD g c l t).length < sizeLine := by show 4 < sizeLine; rw [sizeLine_eq]; omega
def spBlended : DSp := fun ds G Q X => match ds with
  | [.ref s] => ∃ (g c : Addr) (cs : List Int) (l t : Int), G s = some (.dct (sD g c l t)) ∧ G c = some (.lst (cs.map D.int)) ∧ c ≠ s ∧ 0 ≤ t ∧ t < 2 ^ 40 ∧ ∀ v, Q (.int v) (gup G s (.dct (sD g c l (t + 1))))
  | _ => False
section
variable {Θ : AbsI} {K : PySem.W.Frag} {Γ : GEnv}
theorem p_blended (hi : Γ.g "int" = .blt) (G : GH) (s : Addr) (DQ : DK) (DX : DE → GH → Prop) (h : spBlended [.ref s] G DQ DX) : T_blended Γ K (dEnds Θ K DQ DX) (startD ["state", "turn", "found", "prime", "blend", "cell"] [.ref s]) G := by
  obtain ⟨g, c, cs, l, t, h1, h2, h3, t1, t2, h4⟩ := h
  simp only [T_blended, ↓dSeq_e, ↓dDrop_e, ↓dRet_e, ↓dRetN_e, ↓dIfS_e, ↓dgName_e, ↓dgNil_nil, ↓dgCons_cons, ↓dgTup_tup, ↓dAsg_e, ↓dPar_e, ↓dPar3_e, ↓dgSub_e, ↓dFor_e, ↓dVar_0, ↓dVar_s, ↓dC_e, ↓dBin_e, ↓dUn_e, ↓dChain_i, ↓chN_bl, ↓rt_cond, c_and, c_or, c_nand, c_self, c_self2, Int.cast_ofNat_Int, Int.reduceEq, Int.reduceLT, Int.reduceLE, Int.reduceAdd, Int.reduceSub, Int.reduceMul, Int.reduceNeg, Int.reduceNe, decide_true, decide_false, eq_self, ↓rTru_bl, ↓rTru_int, ↓rTru_non, ↓rTru_tup, ↓dTru_e, ↓dTAnd_e, ↓dTOr_e, ↓dTNot_e, ↓dAnd_e, ↓dOr_e, ↓dNot_e, ↓dIf_e, ↓dNil_e, ↓dCons_e, ↓dTup_e, ↓dLst_e, ↓dBc_e, ↓dBty_e, ↓dBi_e, ↓dGlob_con, ↓dGlob_fn, ↓dGlob_cls, ↓dGlob_exc, ↓dRaise_exc, ↓dCall_fn, ↓dCall_cls, ↓dCallK_fn, ↓dNoPart_e, ↓dPart_i, ↓pPart_int, ↓dSlice_e, ↓rSl_tup, ↓dISeq_i, ↓dIRng1_i, ↓dIRng2_i, ↓dIZip_i, ↓dIEnum_i, ↓dFld_i, ↓dFldSet_i, ↓dMeth_i, ↓dMethK_i, ↓iSeq_tup, ↓iR1_int, ↓iR2_int, ↓iZp_tup, ↓dLM_e, ↓dNext_e, ↓dBreak_e, ↓dCont_e, ↓dDisp_e, ↓dPairs_n, ↓dPairs_c, ↓dYes_e, ↓dLc_e, ↓arg0_nil, ↓arg1_one, ↓arg2_two, ↓arg3_three, ↓isBlt_b, startD, ↓dIte_t, ↓dIte_f, ↓rAdd_ii, ↓rSub_ii, ↓rMul_ii, ↓rFdiv_ii, ↓rMod_ii, ↓rPow_ii, ↓rIAdd_ii, ↓rISub_ii, ↓rNeg_i, ↓rLt_ii, ↓rLe_ii, ↓rGt_ii, ↓rGe_ii, ↓rEq_ii, ↓rEq_ss, ↓rEq_bb, ↓rNe_ii, ↓rNe_ss, ↓rInt_i, ↓rAbs_i, ↓rLen_t, ↓rIxt0, ↓rIxt1, ↓rIxt2, ↓rIxt3, ↓rIxt4, ↓rIxt5, ↓rIxt6, ↓rIxt7, ↓isi_non_int, ↓isi_non_bool, ↓isi_non_str, ↓isi_non_list, ↓isi_non_tuple, ↓isi_non_dict, ↓isi_bl_int, ↓isi_bl_bool, ↓isi_bl_str, ↓isi_bl_list, ↓isi_bl_tuple, ↓isi_bl_dict, ↓isi_int_int, ↓isi_int_bool, ↓isi_int_str, ↓isi_int_list, ↓isi_int_tuple, ↓isi_int_dict, ↓isi_str_int, ↓isi_str_bool, ↓isi_str_str, ↓isi_str_list, ↓isi_str_tuple, ↓isi_str_dict, ↓isi_tup_int, ↓isi_tup_bool, ↓isi_tup_str, ↓isi_tup_list, ↓isi_tup_tuple, ↓isi_tup_dict, List.map_cons, List.map_nil, List.length_cons, List.length_nil, List.cons_append, List.nil_append, List.getElem?_cons_zero, List.getElem?_cons_succ, List.set_cons_zero, List.set_cons_succ, List.replicate_succ, List.replicate_zero, Int.reduceToNat, Nat.reduceSub, Nat.reduceAdd, true_and, and_true, Bool.not_true, Bool.not_false, Bool.true_and, Bool.and_true, Bool.false_and, Bool.and_false, Bool.false_or, Bool.or_false, Bool.true_or, Bool.or_true, Bool.not_not, ix_dct h1 v_turn, set_dct h1 sD_len, p_turn]
  refine ⟨size_le (by decide), fun p hp => ?_⟩
  have hsp : s ≠ p := fun e => by rw [← e, gup_same] at hp; cases hp
  have hcp : c ≠ p := fun e => by rw [← e, gup_ne h3, h2] at hp; cases hp
  have e1 : (gup (gup G s (.dct (sD g c l (t + 1)))) p (.lst [.int 2147483477, .int 2147483423, .int 2147483399])) s = some (.dct (sD g c l (t + 1))) := by rw [gup_ne hsp, gup_same]
  have e2 : lstOf (gup (gup G s (.dct (sD g c l (t + 1)))) p (.lst [.int 2147483477, .int 2147483423, .int 2147483399])) (.ref c) = some (cs.map D.int) := by simp only [lstOf, gup_ne hcp, gup_ne h3, h2]
  have e3 := RepTo.sub (Θ := Θ) (K := K) (GSub.new (o := .lst [.int 2147483477, .int 2147483423, .int 2147483399]) hp)
  have e4 : lstOf (gup (gup G s (.dct (sD g c l (t + 1)))) p (.lst [.int 2147483477, .int 2147483423, .int 2147483399])) (.ref p) = some [.int 2147483477, .int 2147483423, .int 2147483399] := lst_new
  generalize hG1 : gup (gup G s (.dct (sD g c l (t + 1)))) p (.lst [.int 2147483477, .int 2147483423, .int 2147483399]) = G1 at e1 e2 e3 e4 ⊢
  rw [iSeq_lst e4]
  refine dLoop_inv (fun ρ G2 => ∃ f x y z, ρ = [some (.ref s), some (.int (t + 1)), some (.int f), x, y, z] ∧ G1 = G2) _ ?_ ?_ ?_ _ _ ⟨_, _, _, _, rfl, rfl⟩
  · rintro ρ _ ⟨f, x, y, z, rfl, rfl⟩
    exact e4
  · rintro d hd J hJ ρ _ ⟨f, x, y, z, rfl, rfl⟩
    obtain ⟨m, rfl, hm1, hm2⟩ : ∃ m : Int, d = .int m ∧ 67 ≤ m ∧ m < 2 ^ 31 := by
      simp only [List.mem_cons, List.not_mem_nil, or_false] at hd
      rcases hd with rfl | rfl | rfl <;> exact ⟨_, rfl, by decide, by decide⟩
    simp only [↓dSeq_e, ↓dDrop_e, ↓dRet_e, ↓dRetN_e, ↓dIfS_e, ↓dgName_e, ↓dgNil_nil, ↓dgCons_cons, ↓dgTup_tup, ↓dAsg_e, ↓dPar_e, ↓dPar3_e, ↓dgSub_e, ↓dFor_e, ↓dVar_0, ↓dVar_s, ↓dC_e, ↓dBin_e, ↓dUn_e, ↓dChain_i, ↓chN_bl, ↓rt_cond, c_and, c_or, c_nand, c_self, c_self2, Int.cast_ofNat_Int, Int.reduceEq, Int.reduceLT, Int.reduceLE, Int.reduceAdd, Int.reduceSub, Int.reduceMul, Int.reduceNeg, Int.reduceNe, decide_true, decide_false, eq_self, ↓rTru_bl, ↓rTru_int, ↓rTru_non, ↓rTru_tup, ↓dTru_e, ↓dTAnd_e, ↓dTOr_e, ↓dTNot_e, ↓dAnd_e, ↓dOr_e, ↓dNot_e, ↓dIf_e, ↓dNil_e, ↓dCons_e, ↓dTup_e, ↓dLst_e, ↓dBc_e, ↓dBty_e, ↓dBi_e, ↓dGlob_con, ↓dGlob_fn, ↓dGlob_cls, ↓dGlob_exc, ↓dRaise_exc, ↓dCall_fn, ↓dCall_cls, ↓dCallK_fn, ↓dNoPart_e, ↓dPart_i, ↓pPart_int, ↓dSlice_e, ↓rSl_tup, ↓dISeq_i, ↓dIRng1_i, ↓dIRng2_i, ↓dIZip_i, ↓dIEnum_i, ↓dFld_i, ↓dFldSet_i, ↓dMeth_i, ↓dMethK_i, ↓iSeq_tup, ↓iR1_int, ↓iR2_int, ↓iZp_tup, ↓dLM_e, ↓dNext_e, ↓dBreak_e, ↓dCont_e, ↓dDisp_e, ↓dPairs_n, ↓dPairs_c, ↓dYes_e, ↓dLc_e, ↓arg0_nil, ↓arg1_one, ↓arg2_two, ↓arg3_three, ↓isBlt_b, startD, ↓dIte_t, ↓dIte_f, ↓rAdd_ii, ↓rSub_ii, ↓rMul_ii, ↓rFdiv_ii, ↓rMod_ii, ↓rPow_ii, ↓rIAdd_ii, ↓rISub_ii, ↓rNeg_i, ↓rLt_ii, ↓rLe_ii, ↓rGt_ii, ↓rGe_ii, ↓rEq_ii, ↓rEq_ss, ↓rEq_bb, ↓rNe_ii, ↓rNe_ss, ↓rInt_i, ↓rAbs_i, ↓rLen_t, ↓rIxt0, ↓rIxt1, ↓rIxt2, ↓rIxt3, ↓rIxt4, ↓rIxt5, ↓rIxt6, ↓rIxt7, ↓isi_non_int, ↓isi_non_bool, ↓isi_non_str, ↓isi_non_list, ↓isi_non_tuple, ↓isi_non_dict, ↓isi_bl_int, ↓isi_bl_bool, ↓isi_bl_str, ↓isi_bl_list, ↓isi_bl_tuple, ↓isi_bl_dict, ↓isi_int_int, ↓isi_int_bool, ↓isi_int_str, ↓isi_int_list, ↓isi_int_tuple, ↓isi_int_dict, ↓isi_str_int, ↓isi_str_bool, ↓isi_str_str, ↓isi_str_list, ↓isi_str_tuple, ↓isi_str_dict, ↓isi_tup_int, ↓isi_tup_bool, ↓isi_tup_str, ↓isi_tup_list, ↓isi_tup_tuple, ↓isi_tup_dict, List.map_cons, List.map_nil, List.length_cons, List.length_nil, List.cons_append, List.nil_append, List.getElem?_cons_zero, List.getElem?_cons_succ, List.set_cons_zero, List.set_cons_succ, List.replicate_succ, List.replicate_zero, Int.reduceToNat, Nat.reduceSub, Nat.reduceAdd, true_and, and_true, Bool.not_true, Bool.not_false, Bool.true_and, Bool.and_true, Bool.false_and, Bool.and_false, Bool.false_or, Bool.or_false, Bool.true_or, Bool.or_true, Bool.not_not, ix_dct e1 v_cells]
    refine ⟨imul_l (by decide) (by decide), idiv_s (by decide) (by decide), ?_⟩
    rw [iSeq_lst e2]
    refine dLoop_inv (fun ρ G2 => ∃ b z, ρ = [some (.ref s), some (.int (t + 1)), some (.int f), some (.int m), some (.int b), z] ∧ G1 = G2 ∧ 0 ≤ b ∧ b < 2 ^ 60) _ ?_ ?_ ?_ _ _ ⟨_, _, rfl, rfl, by omega, by omega⟩
    · rintro ρ _ ⟨b, z, rfl, rfl, b1, b2⟩
      exact e2
    · rintro d hd J hJ ρ _ ⟨b, z, rfl, rfl, b1, b2⟩
      obtain ⟨v, _, rfl⟩ := List.mem_map.mp hd
      simp only [↓dSeq_e, ↓dDrop_e, ↓dRet_e, ↓dRetN_e, ↓dIfS_e, ↓dgName_e, ↓dgNil_nil, ↓dgCons_cons, ↓dgTup_tup, ↓dAsg_e, ↓dPar_e, ↓dPar3_e, ↓dgSub_e, ↓dFor_e, ↓dVar_0, ↓dVar_s, ↓dC_e, ↓dBin_e, ↓dUn_e, ↓dChain_i, ↓chN_bl, ↓rt_cond, c_and, c_or, c_nand, c_self, c_self2, Int.cast_ofNat_Int, Int.reduceEq, Int.reduceLT, Int.reduceLE, Int.reduceAdd, Int.reduceSub, Int.reduceMul, Int.reduceNeg, Int.reduceNe, decide_true, decide_false, eq_self, ↓rTru_bl, ↓rTru_int, ↓rTru_non, ↓rTru_tup, ↓dTru_e, ↓dTAnd_e, ↓dTOr_e, ↓dTNot_e, ↓dAnd_e, ↓dOr_e, ↓dNot_e, ↓dIf_e, ↓dNil_e, ↓dCons_e, ↓dTup_e, ↓dLst_e, ↓dBc_e, ↓dBty_e, ↓dBi_e, ↓dGlob_con, ↓dGlob_fn, ↓dGlob_cls, ↓dGlob_exc, ↓dRaise_exc, ↓dCall_fn, ↓dCall_cls, ↓dCallK_fn, ↓dNoPart_e, ↓dPart_i, ↓pPart_int, ↓dSlice_e, ↓rSl_tup, ↓dISeq_i, ↓dIRng1_i, ↓dIRng2_i, ↓dIZip_i, ↓dIEnum_i, ↓dFld_i, ↓dFldSet_i, ↓dMeth_i, ↓dMethK_i, ↓iSeq_tup, ↓iR1_int, ↓iR2_int, ↓iZp_tup, ↓dLM_e, ↓dNext_e, ↓dBreak_e, ↓dCont_e, ↓dDisp_e, ↓dPairs_n, ↓dPairs_c, ↓dYes_e, ↓dLc_e, ↓arg0_nil, ↓arg1_one, ↓arg2_two, ↓arg3_three, ↓isBlt_b, startD, ↓dIte_t, ↓dIte_f, ↓rAdd_ii, ↓rSub_ii, ↓rMul_ii, ↓rFdiv_ii, ↓rMod_ii, ↓rPow_ii, ↓rIAdd_ii, ↓rISub_ii, ↓rNeg_i, ↓rLt_ii, ↓rLe_ii, ↓rGt_ii, ↓rGe_ii, ↓rEq_ii, ↓rEq_ss, ↓rEq_bb, ↓rNe_ii, ↓rNe_ss, ↓rInt_i, ↓rAbs_i, ↓rLen_t, ↓rIxt0, ↓rIxt1, ↓rIxt2, ↓rIxt3, ↓rIxt4, ↓rIxt5, ↓rIxt6, ↓rIxt7, ↓isi_non_int, ↓isi_non_bool, ↓isi_non_str, ↓isi_non_list, ↓isi_non_tuple, ↓isi_non_dict, ↓isi_bl_int, ↓isi_bl_bool, ↓isi_bl_str, ↓isi_bl_list, ↓isi_bl_tuple, ↓isi_bl_dict, ↓isi_int_int, ↓isi_int_bool, ↓isi_int_str, ↓isi_int_list, ↓isi_int_tuple, ↓isi_int_dict, ↓isi_str_int, ↓isi_str_bool, ↓isi_str_str, ↓isi_str_list, ↓isi_str_tuple, ↓isi_str_dict, ↓isi_tup_int, ↓isi_tup_bool, ↓isi_tup_str, ↓isi_tup_list, ↓isi_tup_tuple, ↓isi_tup_dict, List.map_cons, List.map_nil, List.length_cons, List.length_nil, List.cons_append, List.nil_append, List.getElem?_cons_zero, List.getElem?_cons_succ, List.set_cons_zero, List.set_cons_succ, List.replicate_succ, List.replicate_zero, Int.reduceToNat, Nat.reduceSub, Nat.reduceAdd, true_and, and_true, Bool.not_true, Bool.not_false, Bool.true_and, Bool.and_true, Bool.false_and, Bool.and_false, Bool.false_or, Bool.or_false, Bool.true_or, Bool.or_true, Bool.not_not, hi]
      have q1 := Int.emod_nonneg (b * 69621 + v + (t + 1)) (show m ≠ 0 by omega)
      have q2 := Int.emod_lt_of_pos (b * 69621 + v + (t + 1)) (show 0 < m by omega)
      exact ⟨imul_r (by decide) (by decide), by omega, hJ _ _ ⟨_, _, rfl, rfl, q1, by omega⟩⟩
    · rintro ρ _ ⟨b, z, rfl, rfl, b1, b2⟩
      simp only [↓dSeq_e, ↓dDrop_e, ↓dRet_e, ↓dRetN_e, ↓dIfS_e, ↓dgName_e, ↓dgNil_nil, ↓dgCons_cons, ↓dgTup_tup, ↓dAsg_e, ↓dPar_e, ↓dPar3_e, ↓dgSub_e, ↓dFor_e, ↓dVar_0, ↓dVar_s, ↓dC_e, ↓dBin_e, ↓dUn_e, ↓dChain_i, ↓chN_bl, ↓rt_cond, c_and, c_or, c_nand, c_self, c_self2, Int.cast_ofNat_Int, Int.reduceEq, Int.reduceLT, Int.reduceLE, Int.reduceAdd, Int.reduceSub, Int.reduceMul, Int.reduceNeg, Int.reduceNe, decide_true, decide_false, eq_self, ↓rTru_bl, ↓rTru_int, ↓rTru_non, ↓rTru_tup, ↓dTru_e, ↓dTAnd_e, ↓dTOr_e, ↓dTNot_e, ↓dAnd_e, ↓dOr_e, ↓dNot_e, ↓dIf_e, ↓dNil_e, ↓dCons_e, ↓dTup_e, ↓dLst_e, ↓dBc_e, ↓dBty_e, ↓dBi_e, ↓dGlob_con, ↓dGlob_fn, ↓dGlob_cls, ↓dGlob_exc, ↓dRaise_exc, ↓dCall_fn, ↓dCall_cls, ↓dCallK_fn, ↓dNoPart_e, ↓dPart_i, ↓pPart_int, ↓dSlice_e, ↓rSl_tup, ↓dISeq_i, ↓dIRng1_i, ↓dIRng2_i, ↓dIZip_i, ↓dIEnum_i, ↓dFld_i, ↓dFldSet_i, ↓dMeth_i, ↓dMethK_i, ↓iSeq_tup, ↓iR1_int, ↓iR2_int, ↓iZp_tup, ↓dLM_e, ↓dNext_e, ↓dBreak_e, ↓dCont_e, ↓dDisp_e, ↓dPairs_n, ↓dPairs_c, ↓dYes_e, ↓dLc_e, ↓arg0_nil, ↓arg1_one, ↓arg2_two, ↓arg3_three, ↓isBlt_b, startD, ↓dIte_t, ↓dIte_f, ↓rAdd_ii, ↓rSub_ii, ↓rMul_ii, ↓rFdiv_ii, ↓rMod_ii, ↓rPow_ii, ↓rIAdd_ii, ↓rISub_ii, ↓rNeg_i, ↓rLt_ii, ↓rLe_ii, ↓rGt_ii, ↓rGe_ii, ↓rEq_ii, ↓rEq_ss, ↓rEq_bb, ↓rNe_ii, ↓rNe_ss, ↓rInt_i, ↓rAbs_i, ↓rLen_t, ↓rIxt0, ↓rIxt1, ↓rIxt2, ↓rIxt3, ↓rIxt4, ↓rIxt5, ↓rIxt6, ↓rIxt7, ↓isi_non_int, ↓isi_non_bool, ↓isi_non_str, ↓isi_non_list, ↓isi_non_tuple, ↓isi_non_dict, ↓isi_bl_int, ↓isi_bl_bool, ↓isi_bl_str, ↓isi_bl_list, ↓isi_bl_tuple, ↓isi_bl_dict, ↓isi_int_int, ↓isi_int_bool, ↓isi_int_str, ↓isi_int_list, ↓isi_int_tuple, ↓isi_int_dict, ↓isi_str_int, ↓isi_str_bool, ↓isi_str_str, ↓isi_str_list, ↓isi_str_tuple, ↓isi_str_dict, ↓isi_tup_int, ↓isi_tup_bool, ↓isi_tup_str, ↓isi_tup_list, ↓isi_tup_tuple, ↓isi_tup_dict, List.map_cons, List.map_nil, List.length_cons, List.length_nil, List.cons_append, List.nil_append, List.getElem?_cons_zero, List.getElem?_cons_succ, List.set_cons_zero, List.set_cons_succ, List.replicate_succ, List.replicate_zero, Int.reduceToNat, Nat.reduceSub, Nat.reduceAdd, true_and, and_true, Bool.not_true, Bool.not_false, Bool.true_and, Bool.and_true, Bool.false_and, Bool.and_false, Bool.false_or, Bool.or_false, Bool.true_or, Bool.or_true, Bool.not_not, hi]
      exact ⟨imul_r (by decide) (by decide), ⟨by decide, by decide, by omega⟩, by omega, hJ _ _ ⟨_, _, _, _, rfl, rfl⟩⟩
  · rintro ρ _ ⟨f, x, y, z, rfl, rfl⟩
    simp only [↓dSeq_e, ↓dDrop_e, ↓dRet_e, ↓dRetN_e, ↓dIfS_e, ↓dgName_e, ↓dgNil_nil, ↓dgCons_cons, ↓dgTup_tup, ↓dAsg_e, ↓dPar_e, ↓dPar3_e, ↓dgSub_e, ↓dFor_e, ↓dVar_0, ↓dVar_s, ↓dC_e, ↓dBin_e, ↓dUn_e, ↓dChain_i, ↓chN_bl, ↓rt_cond, c_and, c_or, c_nand, c_self, c_self2, Int.cast_ofNat_Int, Int.reduceEq, Int.reduceLT, Int.reduceLE, Int.reduceAdd, Int.reduceSub, Int.reduceMul, Int.reduceNeg, Int.reduceNe, decide_true, decide_false, eq_self, ↓rTru_bl, ↓rTru_int, ↓rTru_non, ↓rTru_tup, ↓dTru_e, ↓dTAnd_e, ↓dTOr_e, ↓dTNot_e, ↓dAnd_e, ↓dOr_e, ↓dNot_e, ↓dIf_e, ↓dNil_e, ↓dCons_e, ↓dTup_e, ↓dLst_e, ↓dBc_e, ↓dBty_e, ↓dBi_e, ↓dGlob_con, ↓dGlob_fn, ↓dGlob_cls, ↓dGlob_exc, ↓dRaise_exc, ↓dCall_fn, ↓dCall_cls, ↓dCallK_fn, ↓dNoPart_e, ↓dPart_i, ↓pPart_int, ↓dSlice_e, ↓rSl_tup, ↓dISeq_i, ↓dIRng1_i, ↓dIRng2_i, ↓dIZip_i, ↓dIEnum_i, ↓dFld_i, ↓dFldSet_i, ↓dMeth_i, ↓dMethK_i, ↓iSeq_tup, ↓iR1_int, ↓iR2_int, ↓iZp_tup, ↓dLM_e, ↓dNext_e, ↓dBreak_e, ↓dCont_e, ↓dDisp_e, ↓dPairs_n, ↓dPairs_c, ↓dYes_e, ↓dLc_e, ↓arg0_nil, ↓arg1_one, ↓arg2_two, ↓arg3_three, ↓isBlt_b, startD, ↓dIte_t, ↓dIte_f, ↓rAdd_ii, ↓rSub_ii, ↓rMul_ii, ↓rFdiv_ii, ↓rMod_ii, ↓rPow_ii, ↓rIAdd_ii, ↓rISub_ii, ↓rNeg_i, ↓rLt_ii, ↓rLe_ii, ↓rGt_ii, ↓rGe_ii, ↓rEq_ii, ↓rEq_ss, ↓rEq_bb, ↓rNe_ii, ↓rNe_ss, ↓rInt_i, ↓rAbs_i, ↓rLen_t, ↓rIxt0, ↓rIxt1, ↓rIxt2, ↓rIxt3, ↓rIxt4, ↓rIxt5, ↓rIxt6, ↓rIxt7, ↓isi_non_int, ↓isi_non_bool, ↓isi_non_str, ↓isi_non_list, ↓isi_non_tuple, ↓isi_non_dict, ↓isi_bl_int, ↓isi_bl_bool, ↓isi_bl_str, ↓isi_bl_list, ↓isi_bl_tuple, ↓isi_bl_dict, ↓isi_int_int, ↓isi_int_bool, ↓isi_int_str, ↓isi_int_list, ↓isi_int_tuple, ↓isi_int_dict, ↓isi_str_int, ↓isi_str_bool, ↓isi_str_str, ↓isi_str_list, ↓isi_str_tuple, ↓isi_str_dict, ↓isi_tup_int, ↓isi_tup_bool, ↓isi_tup_str, ↓isi_tup_list, ↓isi_tup_tuple, ↓isi_tup_dict, List.map_cons, List.map_nil, List.length_cons, List.length_nil, List.cons_append, List.nil_append, List.getElem?_cons_zero, List.getElem?_cons_succ, List.set_cons_zero, List.set_cons_succ, List.replicate_succ, List.replicate_zero, Int.reduceToNat, Nat.reduceSub, Nat.reduceAdd, true_and, and_true, Bool.not_true, Bool.not_false, Bool.true_and, Bool.and_true, Bool.false_and, Bool.and_false, Bool.false_or, Bool.or_false, Bool.true_or, Bool.or_true, Bool.not_not]
    exact ⟨_, e3, h4 _⟩
def spBegun : DSp := fun ds G Q X => match ds with
  | [x] => ∃ ns : List Int, lstOf G x = some (ns.map D.int) ∧ ns.length ≤ 1000 ∧ ∀ s, G s = none → Q (.ref s) (gup G s (.abs 0 []))
  | _ => False
theorem p_begun {T : List (Addr × Str)} (hi : Γ.g "abs" = .blt) (G : GH) (x : D) (DQ : DK) (DX : DE → GH → Prop) (h : spBegun [x] G DQ DX) : T_begun Γ K (dEnds (drawI T) K DQ DX) (startD ["script", "great", ".0", "cell"] [x]) G := by
  obtain ⟨ns, h1, h2, h3⟩ := h
  obtain ⟨a, rfl⟩ : ∃ a, x = .ref a := by
    cases x <;> first | exact ⟨_, rfl⟩ | cases h1
  simp only [T_begun, ↓dSeq_e, ↓dDrop_e, ↓dRet_e, ↓dRetN_e, ↓dIfS_e, ↓dgName_e, ↓dgNil_nil, ↓dgCons_cons, ↓dgTup_tup, ↓dAsg_e, ↓dPar_e, ↓dPar3_e, ↓dgSub_e, ↓dFor_e, ↓dVar_0, ↓dVar_s, ↓dC_e, ↓dBin_e, ↓dUn_e, ↓dChain_i, ↓chN_bl, ↓rt_cond, c_and, c_or, c_nand, c_self, c_self2, Int.cast_ofNat_Int, Int.reduceEq, Int.reduceLT, Int.reduceLE, Int.reduceAdd, Int.reduceSub, Int.reduceMul, Int.reduceNeg, Int.reduceNe, decide_true, decide_false, eq_self, ↓rTru_bl, ↓rTru_int, ↓rTru_non, ↓rTru_tup, ↓dTru_e, ↓dTAnd_e, ↓dTOr_e, ↓dTNot_e, ↓dAnd_e, ↓dOr_e, ↓dNot_e, ↓dIf_e, ↓dNil_e, ↓dCons_e, ↓dTup_e, ↓dLst_e, ↓dBc_e, ↓dBty_e, ↓dBi_e, ↓dGlob_con, ↓dGlob_fn, ↓dGlob_cls, ↓dGlob_exc, ↓dRaise_exc, ↓dCall_fn, ↓dCall_cls, ↓dCallK_fn, ↓dNoPart_e, ↓dPart_i, ↓pPart_int, ↓dSlice_e, ↓rSl_tup, ↓dISeq_i, ↓dIRng1_i, ↓dIRng2_i, ↓dIZip_i, ↓dIEnum_i, ↓dFld_i, ↓dFldSet_i, ↓dMeth_i, ↓dMethK_i, ↓iSeq_tup, ↓iR1_int, ↓iR2_int, ↓iZp_tup, ↓dLM_e, ↓dNext_e, ↓dBreak_e, ↓dCont_e, ↓dDisp_e, ↓dPairs_n, ↓dPairs_c, ↓dYes_e, ↓dLc_e, ↓arg0_nil, ↓arg1_one, ↓arg2_two, ↓arg3_three, ↓isBlt_b, startD, ↓dIte_t, ↓dIte_f, ↓rAdd_ii, ↓rSub_ii, ↓rMul_ii, ↓rFdiv_ii, ↓rMod_ii, ↓rPow_ii, ↓rIAdd_ii, ↓rISub_ii, ↓rNeg_i, ↓rLt_ii, ↓rLe_ii, ↓rGt_ii, ↓rGe_ii, ↓rEq_ii, ↓rEq_ss, ↓rEq_bb, ↓rNe_ii, ↓rNe_ss, ↓rInt_i, ↓rAbs_i, ↓rLen_t, ↓rIxt0, ↓rIxt1, ↓rIxt2, ↓rIxt3, ↓rIxt4, ↓rIxt5, ↓rIxt6, ↓rIxt7, ↓isi_non_int, ↓isi_non_bool, ↓isi_non_str, ↓isi_non_list, ↓isi_non_tuple, ↓isi_non_dict, ↓isi_bl_int, ↓isi_bl_bool, ↓isi_bl_str, ↓isi_bl_list, ↓isi_bl_tuple, ↓isi_bl_dict, ↓isi_int_int, ↓isi_int_bool, ↓isi_int_str, ↓isi_int_list, ↓isi_int_tuple, ↓isi_int_dict, ↓isi_str_int, ↓isi_str_bool, ↓isi_str_str, ↓isi_str_list, ↓isi_str_tuple, ↓isi_str_dict, ↓isi_tup_int, ↓isi_tup_bool, ↓isi_tup_str, ↓isi_tup_list, ↓isi_tup_tuple, ↓isi_tup_dict, List.map_cons, List.map_nil, List.length_cons, List.length_nil, List.cons_append, List.nil_append, List.getElem?_cons_zero, List.getElem?_cons_succ, List.set_cons_zero, List.set_cons_succ, List.replicate_succ, List.replicate_zero, Int.reduceToNat, Nat.reduceSub, Nat.reduceAdd, true_and, and_true, Bool.not_true, Bool.not_false, Bool.true_and, Bool.and_true, Bool.false_and, Bool.and_false, Bool.false_or, Bool.or_false, Bool.true_or, Bool.or_true, Bool.not_not, dLc, iSeq_lst h1]
  refine ⟨size_le (by rw [List.length_map]; omega), dLcL_fm (onI fun i => if (10 : Int) ^ 18 ≤ (if i < 0 then -i else i) then some ((if i < 0 then -i else i) - 10 ^ 18) else none) h1 _ ?_ _ ?_⟩
  · intro d hd R hR
    obtain ⟨i, _, rfl⟩ := List.mem_map.mp hd
    simp only [wipeD, ↓dSeq_e, ↓dDrop_e, ↓dRet_e, ↓dRetN_e, ↓dIfS_e, ↓dgName_e, ↓dgNil_nil, ↓dgCons_cons, ↓dgTup_tup, ↓dAsg_e, ↓dPar_e, ↓dPar3_e, ↓dgSub_e, ↓dFor_e, ↓dVar_0, ↓dVar_s, ↓dC_e, ↓dBin_e, ↓dUn_e, ↓dChain_i, ↓chN_bl, ↓rt_cond, c_and, c_or, c_nand, c_self, c_self2, Int.cast_ofNat_Int, Int.reduceEq, Int.reduceLT, Int.reduceLE, Int.reduceAdd, Int.reduceSub, Int.reduceMul, Int.reduceNeg, Int.reduceNe, decide_true, decide_false, eq_self, ↓rTru_bl, ↓rTru_int, ↓rTru_non, ↓rTru_tup, ↓dTru_e, ↓dTAnd_e, ↓dTOr_e, ↓dTNot_e, ↓dAnd_e, ↓dOr_e, ↓dNot_e, ↓dIf_e, ↓dNil_e, ↓dCons_e, ↓dTup_e, ↓dLst_e, ↓dBc_e, ↓dBty_e, ↓dBi_e, ↓dGlob_con, ↓dGlob_fn, ↓dGlob_cls, ↓dGlob_exc, ↓dRaise_exc, ↓dCall_fn, ↓dCall_cls, ↓dCallK_fn, ↓dNoPart_e, ↓dPart_i, ↓pPart_int, ↓dSlice_e, ↓rSl_tup, ↓dISeq_i, ↓dIRng1_i, ↓dIRng2_i, ↓dIZip_i, ↓dIEnum_i, ↓dFld_i, ↓dFldSet_i, ↓dMeth_i, ↓dMethK_i, ↓iSeq_tup, ↓iR1_int, ↓iR2_int, ↓iZp_tup, ↓dLM_e, ↓dNext_e, ↓dBreak_e, ↓dCont_e, ↓dDisp_e, ↓dPairs_n, ↓dPairs_c, ↓dYes_e, ↓dLc_e, ↓arg0_nil, ↓arg1_one, ↓arg2_two, ↓arg3_three, ↓isBlt_b, startD, ↓dIte_t, ↓dIte_f, ↓rAdd_ii, ↓rSub_ii, ↓rMul_ii, ↓rFdiv_ii, ↓rMod_ii, ↓rPow_ii, ↓rIAdd_ii, ↓rISub_ii, ↓rNeg_i, ↓rLt_ii, ↓rLe_ii, ↓rGt_ii, ↓rGe_ii, ↓rEq_ii, ↓rEq_ss, ↓rEq_bb, ↓rNe_ii, ↓rNe_ss, ↓rInt_i, ↓rAbs_i, ↓rLen_t, ↓rIxt0, ↓rIxt1, ↓rIxt2, ↓rIxt3, ↓rIxt4, ↓rIxt5, ↓rIxt6, ↓rIxt7, ↓isi_non_int, ↓isi_non_bool, ↓isi_non_str, ↓isi_non_list, ↓isi_non_tuple, ↓isi_non_dict, ↓isi_bl_int, ↓isi_bl_bool, ↓isi_bl_str, ↓isi_bl_list, ↓isi_bl_tuple, ↓isi_bl_dict, ↓isi_int_int, ↓isi_int_bool, ↓isi_int_str, ↓isi_int_list, ↓isi_int_tuple, ↓isi_int_dict, ↓isi_str_int, ↓isi_str_bool, ↓isi_str_str, ↓isi_str_list, ↓isi_str_tuple, ↓isi_str_dict, ↓isi_tup_int, ↓isi_tup_bool, ↓isi_tup_str, ↓isi_tup_list, ↓isi_tup_tuple, ↓isi_tup_dict, List.map_cons, List.map_nil, List.length_cons, List.length_nil, List.cons_append, List.nil_append, List.getElem?_cons_zero, List.getElem?_cons_succ, List.set_cons_zero, List.set_cons_succ, List.replicate_succ, List.replicate_zero, Int.reduceToNat, Nat.reduceSub, Nat.reduceAdd, true_and, and_true, Bool.not_true, Bool.not_false, Bool.true_and, Bool.and_true, Bool.false_and, Bool.and_false, Bool.false_or, Bool.or_false, Bool.true_or, Bool.or_true, Bool.not_not, hi]
    have cp : CPow 10 18 := ⟨by decide, by decide, by decide⟩
    refine ⟨cp, fun hb => ⟨cp, ?_⟩, fun hb => ?_⟩
    · have hb := of_decide_eq_true hb
      have e : onI (fun i => if (10 : Int) ^ 18 ≤ (if i < 0 then -i else i) then some ((if i < 0 then -i else i) - 10 ^ 18) else none) (.int i) = some (.int ((if i < 0 then -i else i) - 10 ^ 18)) := by
        simp only [onI_int, if_pos hb, Option.map_some]
      rw [e] at hR
      exact hR
    · have hb := of_decide_eq_false hb
      have e : onI (fun i => if (10 : Int) ^ 18 ≤ (if i < 0 then -i else i) then some ((if i < 0 then -i else i) - 10 ^ 18) else none) (.int i) = none := by
        simp only [onI_int, if_neg hb, Option.map_none]
      rw [e] at hR
      exact hR
  · rw [fm_ints]
    intro p hp s hs
    obtain ⟨sp, sG⟩ := gup_none hs
    have h1' : lstOf (gup (gup G p (.lst ((ns.filterMap fun i => if (10 : Int) ^ 18 ≤ (if i < 0 then -i else i) then some ((if i < 0 then -i else i) - 10 ^ 18) else none).map D.int))) s (.dct [])) (.ref a) = some (ns.map D.int) := by
      have pa : a ≠ p := fun e => by subst e; simp only [lstOf, hp] at h1; cases h1
      have sa : a ≠ s := fun e => by subst e; simp only [lstOf, sG] at h1; cases h1
      simp only [lstOf, gup_ne sa, gup_ne pa]
      exact h1
    generalize hg : (ns.filterMap fun i => if (10 : Int) ^ 18 ≤ (if i < 0 then -i else i) then some ((if i < 0 then -i else i) - 10 ^ 18) else none) = gs at h1' ⊢
    rw [iSeq_lst h1']
    refine ⟨size_le (by rw [List.length_map]; omega), dLcL_fm (onI fun i => some (if i < 0 then -i else i)) h1' _ ?_ _ ?_⟩
    · intro d hd R hR
      obtain ⟨i, _, rfl⟩ := List.mem_map.mp hd
      simp only [wipeD, ↓dSeq_e, ↓dDrop_e, ↓dRet_e, ↓dRetN_e, ↓dIfS_e, ↓dgName_e, ↓dgNil_nil, ↓dgCons_cons, ↓dgTup_tup, ↓dAsg_e, ↓dPar_e, ↓dPar3_e, ↓dgSub_e, ↓dFor_e, ↓dVar_0, ↓dVar_s, ↓dC_e, ↓dBin_e, ↓dUn_e, ↓dChain_i, ↓chN_bl, ↓rt_cond, c_and, c_or, c_nand, c_self, c_self2, Int.cast_ofNat_Int, Int.reduceEq, Int.reduceLT, Int.reduceLE, Int.reduceAdd, Int.reduceSub, Int.reduceMul, Int.reduceNeg, Int.reduceNe, decide_true, decide_false, eq_self, ↓rTru_bl, ↓rTru_int, ↓rTru_non, ↓rTru_tup, ↓dTru_e, ↓dTAnd_e, ↓dTOr_e, ↓dTNot_e, ↓dAnd_e, ↓dOr_e, ↓dNot_e, ↓dIf_e, ↓dNil_e, ↓dCons_e, ↓dTup_e, ↓dLst_e, ↓dBc_e, ↓dBty_e, ↓dBi_e, ↓dGlob_con, ↓dGlob_fn, ↓dGlob_cls, ↓dGlob_exc, ↓dRaise_exc, ↓dCall_fn, ↓dCall_cls, ↓dCallK_fn, ↓dNoPart_e, ↓dPart_i, ↓pPart_int, ↓dSlice_e, ↓rSl_tup, ↓dISeq_i, ↓dIRng1_i, ↓dIRng2_i, ↓dIZip_i, ↓dIEnum_i, ↓dFld_i, ↓dFldSet_i, ↓dMeth_i, ↓dMethK_i, ↓iSeq_tup, ↓iR1_int, ↓iR2_int, ↓iZp_tup, ↓dLM_e, ↓dNext_e, ↓dBreak_e, ↓dCont_e, ↓dDisp_e, ↓dPairs_n, ↓dPairs_c, ↓dYes_e, ↓dLc_e, ↓arg0_nil, ↓arg1_one, ↓arg2_two, ↓arg3_three, ↓isBlt_b, startD, ↓dIte_t, ↓dIte_f, ↓rAdd_ii, ↓rSub_ii, ↓rMul_ii, ↓rFdiv_ii, ↓rMod_ii, ↓rPow_ii, ↓rIAdd_ii, ↓rISub_ii, ↓rNeg_i, ↓rLt_ii, ↓rLe_ii, ↓rGt_ii, ↓rGe_ii, ↓rEq_ii, ↓rEq_ss, ↓rEq_bb, ↓rNe_ii, ↓rNe_ss, ↓rInt_i, ↓rAbs_i, ↓rLen_t, ↓rIxt0, ↓rIxt1, ↓rIxt2, ↓rIxt3, ↓rIxt4, ↓rIxt5, ↓rIxt6, ↓rIxt7, ↓isi_non_int, ↓isi_non_bool, ↓isi_non_str, ↓isi_non_list, ↓isi_non_tuple, ↓isi_non_dict, ↓isi_bl_int, ↓isi_bl_bool, ↓isi_bl_str, ↓isi_bl_list, ↓isi_bl_tuple, ↓isi_bl_dict, ↓isi_int_int, ↓isi_int_bool, ↓isi_int_str, ↓isi_int_list, ↓isi_int_tuple, ↓isi_int_dict, ↓isi_str_int, ↓isi_str_bool, ↓isi_str_str, ↓isi_str_list, ↓isi_str_tuple, ↓isi_str_dict, ↓isi_tup_int, ↓isi_tup_bool, ↓isi_tup_str, ↓isi_tup_list, ↓isi_tup_tuple, ↓isi_tup_dict, List.map_cons, List.map_nil, List.length_cons, List.length_nil, List.cons_append, List.nil_append, List.getElem?_cons_zero, List.getElem?_cons_succ, List.set_cons_zero, List.set_cons_succ, List.replicate_succ, List.replicate_zero, Int.reduceToNat, Nat.reduceSub, Nat.reduceAdd, true_and, and_true, Bool.not_true, Bool.not_false, Bool.true_and, Bool.and_true, Bool.false_and, Bool.and_false, Bool.false_or, Bool.or_false, Bool.true_or, Bool.or_true, Bool.not_not, hi]
      exact hR
    · rw [fm_ints]
      intro c hc
      obtain ⟨cs', hc⟩ := gup_none hc
      obtain ⟨cp, cG⟩ := gup_none hc
      refine ⟨by rw [gup_ne cs'.symm, gup_same], _, rfl, ?_⟩
      refine ⟨_, draw_close (s := s) (g := p) (c := c) (k := 0) (l := 0) (t := 0) (gs := gs) ⟨by omega, by omega⟩ cp.symm sp.symm cs' gup_same (by rw [gup_ne sp.symm, gup_ne cp.symm, gup_ne sp.symm, gup_same]) (by rw [gup_ne cs', gup_same]), ?_⟩
      have e : closeG (gup (gup (gup (gup G p (.lst (gs.map D.int))) s (.dct [])) c (.lst ((ns.filterMap fun i => some (if i < 0 then -i else i)).map D.int))) s (.dct (sD p c 0 0))) s p c 0 = gup G s (.abs 0 []) := by
        funext b
        unfold closeG
        by_cases b1 : b = p
        · subst b1
          rw [if_pos (.inl rfl), gup_ne sp.symm, hp]
        by_cases b2 : b = c
        · subst b2
          rw [if_pos (.inr rfl), gup_ne cs', cG]
        rw [if_neg (by rintro (z | z) <;> contradiction)]
        by_cases b3 : b = s
        · rw [if_pos b3, b3, gup_same]
        · rw [if_neg b3, gup_ne b3, gup_ne b2, gup_ne b3, gup_ne b1, gup_ne b3]
      have hq := h3 s sG
      rw [← e] at hq
      exact hq
def spDraw : DSp := fun ds G Q X => match ds with
  | [.ref s, .int n] => ∃ k, G s = some (.abs k []) ∧ k < 2 ^ 40 ∧ 0 < n ∧ n < 2 ^ 30 ∧ ∀ m, 0 ≤ m → m < n → Q (.int m) (gup G s (.abs (k + 1) []))
  | _ => False
theorem draw_back {T : List (Addr × Str)} {G G4 : GH} {s g c : Addr} {j : Nat} {gs cs : List Int} {l t : Int} (gN : G g = none) (cN : G c = none) (ht : 0 ≤ t ∧ t ≤ j) (hgc : g ≠ c) (hg : g ≠ s) (hc : c ≠ s)
    (e1 : G4 s = some (.dct (sD g c l t))) (e2 : G4 g = some (.lst (gs.map D.int))) (e3 : G4 c = some (.lst (cs.map D.int))) (e4 : ∀ b u, b ≠ s → G b = some u → G4 b = some u) : RepTo (drawI T) K G4 (gup G s (.abs j [])) := by
  refine (draw_close (k := j) ht hgc hg hc e1 e2 e3).trans (RepTo.sub fun b u hb => ?_)
  unfold closeG
  by_cases b3 : b = s
  · rw [b3, gup_same] at hb
    have nn : ¬ (b = g ∨ b = c) := by
      rintro (z | z)
      · exact hg (z.symm.trans b3)
      · exact hc (z.symm.trans b3)
    rw [if_neg nn, if_pos b3]
    exact hb
  · rw [gup_ne b3] at hb
    have nn : ¬ (b = g ∨ b = c) := by
      rintro (z | z)
      · rw [z, gN] at hb; cases hb
      · rw [z, cN] at hb; cases hb
    rw [if_neg nn, if_neg b3]
    exact e4 b u b3 hb
theorem p_draw {T : List (Addr × Str)} {fb : Addr} (hi : Γ.g "int" = .blt) (hb : Γ.g "_law_blended" = .fn fb ["state"] spBlended []) (G : GH) (s : Addr) (n : Int) (DQ : DK) (DX : DE → GH → Prop) (h : spDraw [.ref s, .int n] G DQ DX) :
    Opens (drawI T) K G fun G0 => T_draw Γ K (dEnds (drawI T) K DQ DX) (startD ["state", "size_here", "found"] [.ref s, .int n]) G0 := by
  obtain ⟨k, h1, hk, n1, n2, h2⟩ := h
  intro H F r
  obtain ⟨g, c, gs, cs, l, t, ht, hgc, hgs, hcs, gN, cN, r0⟩ := draw_open r h1
  refine ⟨_, r0, ?_⟩
  have e1 : (gup (gup (gup G s (.dct (sD g c l t))) g (.lst (gs.map D.int))) c (.lst (cs.map D.int))) s = some (.dct (sD g c l t)) := by rw [gup_ne hcs.symm, gup_ne hgs.symm, gup_same]
  have e2 : (gup (gup (gup G s (.dct (sD g c l t))) g (.lst (gs.map D.int))) c (.lst (cs.map D.int))) g = some (.lst (gs.map D.int)) := by rw [gup_ne hgc, gup_same]
  have e3 : (gup (gup (gup G s (.dct (sD g c l t))) g (.lst (gs.map D.int))) c (.lst (cs.map D.int))) c = some (.lst (cs.map D.int)) := gup_same
  have e4 : ∀ b u, b ≠ s → G b = some u → (gup (gup (gup G s (.dct (sD g c l t))) g (.lst (gs.map D.int))) c (.lst (cs.map D.int))) b = some u := fun b u b1 hb => by
    have b2 : b ≠ g := fun z => by rw [z, gN] at hb; cases hb
    have b3 : b ≠ c := fun z => by rw [z, cN] at hb; cases hb
    rw [gup_ne b3, gup_ne b2, gup_ne b1]; exact hb
  generalize gup (gup (gup G s (.dct (sD g c l t))) g (.lst (gs.map D.int))) c (.lst (cs.map D.int)) = G0 at e1 e2 e3 e4 ⊢
  -- the end, from any such store
  have tail : ∀ (G3 : GH) (gs' : List Int) (l' t' : Int), (0 ≤ t' ∧ t' ≤ (k + 1 : Nat)) → G3 s = some (.dct (sD g c l' t')) → G3 g = some (.lst (gs'.map D.int)) → G3 c = some (.lst (cs.map D.int)) → (∀ b u, b ≠ s → G b = some u → G3 b = some u) →
      (rIx (D.ref s) (D.str "left") G3 fun x G1 => rInt [x] G1 fun x G1 => rMod x (D.int n) G1 fun d G1 => rIx (D.ref s) (D.str "left") G1 fun x G1 => rFdiv x (D.int n) G1 fun d_1 G1 => rSet (D.ref s) (D.str "left") d_1 G1 fun G3 => (dEnds (drawI T) K DQ DX).rt d G3) := by
    intro G3 gs' l' t' ht' f1 f2 f3 f4
    simp only [↓dSeq_e, ↓dDrop_e, ↓dRet_e, ↓dRetN_e, ↓dIfS_e, ↓dgName_e, ↓dgNil_nil, ↓dgCons_cons, ↓dgTup_tup, ↓dAsg_e, ↓dPar_e, ↓dPar3_e, ↓dgSub_e, ↓dFor_e, ↓dVar_0, ↓dVar_s, ↓dC_e, ↓dBin_e, ↓dUn_e, ↓dChain_i, ↓chN_bl, ↓rt_cond, c_and, c_or, c_nand, c_self, c_self2, Int.cast_ofNat_Int, Int.reduceEq, Int.reduceLT, Int.reduceLE, Int.reduceAdd, Int.reduceSub, Int.reduceMul, Int.reduceNeg, Int.reduceNe, decide_true, decide_false, eq_self, ↓rTru_bl, ↓rTru_int, ↓rTru_non, ↓rTru_tup, ↓dTru_e, ↓dTAnd_e, ↓dTOr_e, ↓dTNot_e, ↓dAnd_e, ↓dOr_e, ↓dNot_e, ↓dIf_e, ↓dNil_e, ↓dCons_e, ↓dTup_e, ↓dLst_e, ↓dBc_e, ↓dBty_e, ↓dBi_e, ↓dGlob_con, ↓dGlob_fn, ↓dGlob_cls, ↓dGlob_exc, ↓dRaise_exc, ↓dCall_fn, ↓dCall_cls, ↓dCallK_fn, ↓dNoPart_e, ↓dPart_i, ↓pPart_int, ↓dSlice_e, ↓rSl_tup, ↓dISeq_i, ↓dIRng1_i, ↓dIRng2_i, ↓dIZip_i, ↓dIEnum_i, ↓dFld_i, ↓dFldSet_i, ↓dMeth_i, ↓dMethK_i, ↓iSeq_tup, ↓iR1_int, ↓iR2_int, ↓iZp_tup, ↓dLM_e, ↓dNext_e, ↓dBreak_e, ↓dCont_e, ↓dDisp_e, ↓dPairs_n, ↓dPairs_c, ↓dYes_e, ↓dLc_e, ↓arg0_nil, ↓arg1_one, ↓arg2_two, ↓arg3_three, ↓isBlt_b, startD, ↓dIte_t, ↓dIte_f, ↓rAdd_ii, ↓rSub_ii, ↓rMul_ii, ↓rFdiv_ii, ↓rMod_ii, ↓rPow_ii, ↓rIAdd_ii, ↓rISub_ii, ↓rNeg_i, ↓rLt_ii, ↓rLe_ii, ↓rGt_ii, ↓rGe_ii, ↓rEq_ii, ↓rEq_ss, ↓rEq_bb, ↓rNe_ii, ↓rNe_ss, ↓rInt_i, ↓rAbs_i, ↓rLen_t, ↓rIxt0, ↓rIxt1, ↓rIxt2, ↓rIxt3, ↓rIxt4, ↓rIxt5, ↓rIxt6, ↓rIxt7, ↓isi_non_int, ↓isi_non_bool, ↓isi_non_str, ↓isi_non_list, ↓isi_non_tuple, ↓isi_non_dict, ↓isi_bl_int, ↓isi_bl_bool, ↓isi_bl_str, ↓isi_bl_list, ↓isi_bl_tuple, ↓isi_bl_dict, ↓isi_int_int, ↓isi_int_bool, ↓isi_int_str, ↓isi_int_list, ↓isi_int_tuple, ↓isi_int_dict, ↓isi_str_int, ↓isi_str_bool, ↓isi_str_str, ↓isi_str_list, ↓isi_str_tuple, ↓isi_str_dict, ↓isi_tup_int, ↓isi_tup_bool, ↓isi_tup_str, ↓isi_tup_list, ↓isi_tup_tuple, ↓isi_tup_dict, List.map_cons, List.map_nil, List.length_cons, List.length_nil, List.cons_append, List.nil_append, List.getElem?_cons_zero, List.getElem?_cons_succ, List.set_cons_zero, List.set_cons_succ, List.replicate_succ, List.replicate_zero, Int.reduceToNat, Nat.reduceSub, Nat.reduceAdd, true_and, and_true, Bool.not_true, Bool.not_false, Bool.true_and, Bool.and_true, Bool.false_and, Bool.and_false, Bool.false_or, Bool.or_false, Bool.true_or, Bool.or_true, Bool.not_not, ix_dct f1 v_left, set_dct f1 sD_len, p_left]
    refine ⟨n1, n1, idiv_s n1 (by omega), gup G s (.abs (k + 1) []), ?_, h2 _ (Int.emod_nonneg _ (by omega)) (Int.emod_lt_of_pos _ n1)⟩
    exact draw_back gN cN ht' hgc hgs hcs gup_same (by rw [gup_ne hgs]; exact f2) (by rw [gup_ne hcs]; exact f3) fun b u b1 hb => by rw [gup_ne b1]; exact f4 b u b1 hb
  simp only [T_draw, ↓dSeq_e, ↓dDrop_e, ↓dRet_e, ↓dRetN_e, ↓dIfS_e, ↓dgName_e, ↓dgNil_nil, ↓dgCons_cons, ↓dgTup_tup, ↓dAsg_e, ↓dPar_e, ↓dPar3_e, ↓dgSub_e, ↓dFor_e, ↓dVar_0, ↓dVar_s, ↓dC_e, ↓dBin_e, ↓dUn_e, ↓dChain_i, ↓chN_bl, ↓rt_cond, c_and, c_or, c_nand, c_self, c_self2, Int.cast_ofNat_Int, Int.reduceEq, Int.reduceLT, Int.reduceLE, Int.reduceAdd, Int.reduceSub, Int.reduceMul, Int.reduceNeg, Int.reduceNe, decide_true, decide_false, eq_self, ↓rTru_bl, ↓rTru_int, ↓rTru_non, ↓rTru_tup, ↓dTru_e, ↓dTAnd_e, ↓dTOr_e, ↓dTNot_e, ↓dAnd_e, ↓dOr_e, ↓dNot_e, ↓dIf_e, ↓dNil_e, ↓dCons_e, ↓dTup_e, ↓dLst_e, ↓dBc_e, ↓dBty_e, ↓dBi_e, ↓dGlob_con, ↓dGlob_fn, ↓dGlob_cls, ↓dGlob_exc, ↓dRaise_exc, ↓dCall_fn, ↓dCall_cls, ↓dCallK_fn, ↓dNoPart_e, ↓dPart_i, ↓pPart_int, ↓dSlice_e, ↓rSl_tup, ↓dISeq_i, ↓dIRng1_i, ↓dIRng2_i, ↓dIZip_i, ↓dIEnum_i, ↓dFld_i, ↓dFldSet_i, ↓dMeth_i, ↓dMethK_i, ↓iSeq_tup, ↓iR1_int, ↓iR2_int, ↓iZp_tup, ↓dLM_e, ↓dNext_e, ↓dBreak_e, ↓dCont_e, ↓dDisp_e, ↓dPairs_n, ↓dPairs_c, ↓dYes_e, ↓dLc_e, ↓arg0_nil, ↓arg1_one, ↓arg2_two, ↓arg3_three, ↓isBlt_b, startD, ↓dIte_t, ↓dIte_f, ↓rAdd_ii, ↓rSub_ii, ↓rMul_ii, ↓rFdiv_ii, ↓rMod_ii, ↓rPow_ii, ↓rIAdd_ii, ↓rISub_ii, ↓rNeg_i, ↓rLt_ii, ↓rLe_ii, ↓rGt_ii, ↓rGe_ii, ↓rEq_ii, ↓rEq_ss, ↓rEq_bb, ↓rNe_ii, ↓rNe_ss, ↓rInt_i, ↓rAbs_i, ↓rLen_t, ↓rIxt0, ↓rIxt1, ↓rIxt2, ↓rIxt3, ↓rIxt4, ↓rIxt5, ↓rIxt6, ↓rIxt7, ↓isi_non_int, ↓isi_non_bool, ↓isi_non_str, ↓isi_non_list, ↓isi_non_tuple, ↓isi_non_dict, ↓isi_bl_int, ↓isi_bl_bool, ↓isi_bl_str, ↓isi_bl_list, ↓isi_bl_tuple, ↓isi_bl_dict, ↓isi_int_int, ↓isi_int_bool, ↓isi_int_str, ↓isi_int_list, ↓isi_int_tuple, ↓isi_int_dict, ↓isi_str_int, ↓isi_str_bool, ↓isi_str_str, ↓isi_str_list, ↓isi_str_tuple, ↓isi_str_dict, ↓isi_tup_int, ↓isi_tup_bool, ↓isi_tup_str, ↓isi_tup_list, ↓isi_tup_tuple, ↓isi_tup_dict, List.map_cons, List.map_nil, List.length_cons, List.length_nil, List.cons_append, List.nil_append, List.getElem?_cons_zero, List.getElem?_cons_succ, List.set_cons_zero, List.set_cons_succ, List.replicate_succ, List.replicate_zero, Int.reduceToNat, Nat.reduceSub, Nat.reduceAdd, true_and, and_true, Bool.not_true, Bool.not_false, Bool.true_and, Bool.and_true, Bool.false_and, Bool.and_false, Bool.false_or, Bool.or_false, Bool.true_or, Bool.or_true, Bool.not_not, ix_dct e1 v_left, ix_dct e1 v_great, hi]
  refine ⟨fun hl => ⟨size_le (by decide), fun p hp => ?_⟩, fun hl => ?_⟩
  · have ps : s ≠ p := gne e1 hp
    have pg : g ≠ p := gne e2 hp
    have pc : c ≠ p := gne e3 hp
    have f1 : gup G0 p (.lst []) s = some (.dct (sD g c l t)) := by rw [gup_ne ps]; exact e1
    have f2 : gup G0 p (.lst []) g = some (.lst (gs.map D.int)) := by rw [gup_ne pg]; exact e2
    have f3 : gup G0 p (.lst []) c = some (.lst (cs.map D.int)) := by rw [gup_ne pc]; exact e3
    have f4 : ∀ b u, b ≠ s → G b = some u → gup G0 p (.lst []) b = some u := fun b u b1 hb => by
      have := e4 b u b1 hb
      rw [gup_ne (gne this hp)]; exact this
    have f5 : lstOf (gup G0 p (.lst [])) (.ref p) = some [] := lst_new
    generalize gup G0 p (.lst []) = G1 at f1 f2 f3 f4 f5 ⊢
    refine rNe_ll (n := 0) (m := 0) (lst_of f2) f5 (okTL_ints gs) rfl (by omega) (by omega) ?_
    rw [eqTL_nil, rTru_bl]
    refine ⟨fun hq => ?_, fun hq => ?_⟩
    · obtain ⟨v, gs', rfl⟩ : ∃ v gs', gs = v :: gs' := by
        cases gs with
        | nil => simp at hq
        | cons v gs' => exact ⟨v, gs', rfl⟩
      simp only [ix_dct f1 v_great]
      refine ⟨⟨_, lst_of f2⟩, ?_⟩
      refine ⟨_, 0, .int v, f2, ⟨by decide, by decide⟩, by simp [seqIndex?], rfl, ?_⟩
      have g1 : gup G1 g (.lst ((D.int v :: gs'.map D.int).eraseIdx 0)) s = some (.dct (sD g c l t)) := by rw [gup_ne hgs.symm]; exact f1
      simp only [↓dSeq_e, ↓dDrop_e, ↓dRet_e, ↓dRetN_e, ↓dIfS_e, ↓dgName_e, ↓dgNil_nil, ↓dgCons_cons, ↓dgTup_tup, ↓dAsg_e, ↓dPar_e, ↓dPar3_e, ↓dgSub_e, ↓dFor_e, ↓dVar_0, ↓dVar_s, ↓dC_e, ↓dBin_e, ↓dUn_e, ↓dChain_i, ↓chN_bl, ↓rt_cond, c_and, c_or, c_nand, c_self, c_self2, Int.cast_ofNat_Int, Int.reduceEq, Int.reduceLT, Int.reduceLE, Int.reduceAdd, Int.reduceSub, Int.reduceMul, Int.reduceNeg, Int.reduceNe, decide_true, decide_false, eq_self, ↓rTru_bl, ↓rTru_int, ↓rTru_non, ↓rTru_tup, ↓dTru_e, ↓dTAnd_e, ↓dTOr_e, ↓dTNot_e, ↓dAnd_e, ↓dOr_e, ↓dNot_e, ↓dIf_e, ↓dNil_e, ↓dCons_e, ↓dTup_e, ↓dLst_e, ↓dBc_e, ↓dBty_e, ↓dBi_e, ↓dGlob_con, ↓dGlob_fn, ↓dGlob_cls, ↓dGlob_exc, ↓dRaise_exc, ↓dCall_fn, ↓dCall_cls, ↓dCallK_fn, ↓dNoPart_e, ↓dPart_i, ↓pPart_int, ↓dSlice_e, ↓rSl_tup, ↓dISeq_i, ↓dIRng1_i, ↓dIRng2_i, ↓dIZip_i, ↓dIEnum_i, ↓dFld_i, ↓dFldSet_i, ↓dMeth_i, ↓dMethK_i, ↓iSeq_tup, ↓iR1_int, ↓iR2_int, ↓iZp_tup, ↓dLM_e, ↓dNext_e, ↓dBreak_e, ↓dCont_e, ↓dDisp_e, ↓dPairs_n, ↓dPairs_c, ↓dYes_e, ↓dLc_e, ↓arg0_nil, ↓arg1_one, ↓arg2_two, ↓arg3_three, ↓isBlt_b, startD, ↓dIte_t, ↓dIte_f, ↓rAdd_ii, ↓rSub_ii, ↓rMul_ii, ↓rFdiv_ii, ↓rMod_ii, ↓rPow_ii, ↓rIAdd_ii, ↓rISub_ii, ↓rNeg_i, ↓rLt_ii, ↓rLe_ii, ↓rGt_ii, ↓rGe_ii, ↓rEq_ii, ↓rEq_ss, ↓rEq_bb, ↓rNe_ii, ↓rNe_ss, ↓rInt_i, ↓rAbs_i, ↓rLen_t, ↓rIxt0, ↓rIxt1, ↓rIxt2, ↓rIxt3, ↓rIxt4, ↓rIxt5, ↓rIxt6, ↓rIxt7, ↓isi_non_int, ↓isi_non_bool, ↓isi_non_str, ↓isi_non_list, ↓isi_non_tuple, ↓isi_non_dict, ↓isi_bl_int, ↓isi_bl_bool, ↓isi_bl_str, ↓isi_bl_list, ↓isi_bl_tuple, ↓isi_bl_dict, ↓isi_int_int, ↓isi_int_bool, ↓isi_int_str, ↓isi_int_list, ↓isi_int_tuple, ↓isi_int_dict, ↓isi_str_int, ↓isi_str_bool, ↓isi_str_str, ↓isi_str_list, ↓isi_str_tuple, ↓isi_str_dict, ↓isi_tup_int, ↓isi_tup_bool, ↓isi_tup_str, ↓isi_tup_list, ↓isi_tup_tuple, ↓isi_tup_dict, List.map_cons, List.map_nil, List.length_cons, List.length_nil, List.cons_append, List.nil_append, List.getElem?_cons_zero, List.getElem?_cons_succ, List.set_cons_zero, List.set_cons_succ, List.replicate_succ, List.replicate_zero, Int.reduceToNat, Nat.reduceSub, Nat.reduceAdd, true_and, and_true, Bool.not_true, Bool.not_false, Bool.true_and, Bool.and_true, Bool.false_and, Bool.and_false, Bool.false_or, Bool.or_false, Bool.true_or, Bool.or_true, Bool.not_not, set_dct g1 sD_len, p_left]
      refine tail (gup (gup G1 g (.lst ((D.int v :: gs'.map D.int).eraseIdx 0))) s (.dct (sD g c v t))) gs' v t ⟨ht.1, by have := ht.2; push_cast; omega⟩ gup_same (by rw [gup_ne hgs, gup_same]; rfl) (by rw [gup_ne hcs, gup_ne hgc.symm]; exact f3) fun b u b1 hb => ?_
      have b2 : b ≠ g := fun z => by rw [z, gN] at hb; cases hb
      rw [gup_ne b1, gup_ne b2]; exact f4 b u b1 hb
    · simp only [hb, ↓dSeq_e, ↓dDrop_e, ↓dRet_e, ↓dRetN_e, ↓dIfS_e, ↓dgName_e, ↓dgNil_nil, ↓dgCons_cons, ↓dgTup_tup, ↓dAsg_e, ↓dPar_e, ↓dPar3_e, ↓dgSub_e, ↓dFor_e, ↓dVar_0, ↓dVar_s, ↓dC_e, ↓dBin_e, ↓dUn_e, ↓dChain_i, ↓chN_bl, ↓rt_cond, c_and, c_or, c_nand, c_self, c_self2, Int.cast_ofNat_Int, Int.reduceEq, Int.reduceLT, Int.reduceLE, Int.reduceAdd, Int.reduceSub, Int.reduceMul, Int.reduceNeg, Int.reduceNe, decide_true, decide_false, eq_self, ↓rTru_bl, ↓rTru_int, ↓rTru_non, ↓rTru_tup, ↓dTru_e, ↓dTAnd_e, ↓dTOr_e, ↓dTNot_e, ↓dAnd_e, ↓dOr_e, ↓dNot_e, ↓dIf_e, ↓dNil_e, ↓dCons_e, ↓dTup_e, ↓dLst_e, ↓dBc_e, ↓dBty_e, ↓dBi_e, ↓dGlob_con, ↓dGlob_fn, ↓dGlob_cls, ↓dGlob_exc, ↓dRaise_exc, ↓dCall_fn, ↓dCall_cls, ↓dCallK_fn, ↓dNoPart_e, ↓dPart_i, ↓pPart_int, ↓dSlice_e, ↓rSl_tup, ↓dISeq_i, ↓dIRng1_i, ↓dIRng2_i, ↓dIZip_i, ↓dIEnum_i, ↓dFld_i, ↓dFldSet_i, ↓dMeth_i, ↓dMethK_i, ↓iSeq_tup, ↓iR1_int, ↓iR2_int, ↓iZp_tup, ↓dLM_e, ↓dNext_e, ↓dBreak_e, ↓dCont_e, ↓dDisp_e, ↓dPairs_n, ↓dPairs_c, ↓dYes_e, ↓dLc_e, ↓arg0_nil, ↓arg1_one, ↓arg2_two, ↓arg3_three, ↓isBlt_b, startD, ↓dIte_t, ↓dIte_f, ↓rAdd_ii, ↓rSub_ii, ↓rMul_ii, ↓rFdiv_ii, ↓rMod_ii, ↓rPow_ii, ↓rIAdd_ii, ↓rISub_ii, ↓rNeg_i, ↓rLt_ii, ↓rLe_ii, ↓rGt_ii, ↓rGe_ii, ↓rEq_ii, ↓rEq_ss, ↓rEq_bb, ↓rNe_ii, ↓rNe_ss, ↓rInt_i, ↓rAbs_i, ↓rLen_t, ↓rIxt0, ↓rIxt1, ↓rIxt2, ↓rIxt3, ↓rIxt4, ↓rIxt5, ↓rIxt6, ↓rIxt7, ↓isi_non_int, ↓isi_non_bool, ↓isi_non_str, ↓isi_non_list, ↓isi_non_tuple, ↓isi_non_dict, ↓isi_bl_int, ↓isi_bl_bool, ↓isi_bl_str, ↓isi_bl_list, ↓isi_bl_tuple, ↓isi_bl_dict, ↓isi_int_int, ↓isi_int_bool, ↓isi_int_str, ↓isi_int_list, ↓isi_int_tuple, ↓isi_int_dict, ↓isi_str_int, ↓isi_str_bool, ↓isi_str_str, ↓isi_str_list, ↓isi_str_tuple, ↓isi_str_dict, ↓isi_tup_int, ↓isi_tup_bool, ↓isi_tup_str, ↓isi_tup_list, ↓isi_tup_tuple, ↓isi_tup_dict, List.map_cons, List.map_nil, List.length_cons, List.length_nil, List.cons_append, List.nil_append, List.getElem?_cons_zero, List.getElem?_cons_succ, List.set_cons_zero, List.set_cons_succ, List.replicate_succ, List.replicate_zero, Int.reduceToNat, Nat.reduceSub, Nat.reduceAdd, true_and, and_true, Bool.not_true, Bool.not_false, Bool.true_and, Bool.and_true, Bool.false_and, Bool.and_false, Bool.false_or, Bool.or_false, Bool.true_or, Bool.or_true, Bool.not_not]
      refine ⟨g, c, cs, l, t, f1, f3, hcs, ht.1, by omega, fun v => ?_⟩
      dsimp only
      rw [set_dct (gup_same (G := G1) (a := s) (o := .dct (sD g c l (t + 1)))) sD_len, p_left]
      refine tail (gup (gup G1 s (.dct (sD g c l (t + 1)))) s (.dct (sD g c v (t + 1)))) gs v (t + 1) ⟨by omega, by have := ht.2; push_cast; omega⟩ gup_same (by rw [gup_ne hgs, gup_ne hgs]; exact f2) (by rw [gup_ne hcs, gup_ne hcs]; exact f3) fun b u b1 hb => ?_
      rw [gup_ne b1, gup_ne b1]; exact f4 b u b1 hb
  · have := tail G0 gs l t ⟨ht.1, by have := ht.2; push_cast; omega⟩ e1 e2 e3 e4
    simp only [↓dSeq_e, ↓dDrop_e, ↓dRet_e, ↓dRetN_e, ↓dIfS_e, ↓dgName_e, ↓dgNil_nil, ↓dgCons_cons, ↓dgTup_tup, ↓dAsg_e, ↓dPar_e, ↓dPar3_e, ↓dgSub_e, ↓dFor_e, ↓dVar_0, ↓dVar_s, ↓dC_e, ↓dBin_e, ↓dUn_e, ↓dChain_i, ↓chN_bl, ↓rt_cond, c_and, c_or, c_nand, c_self, c_self2, Int.cast_ofNat_Int, Int.reduceEq, Int.reduceLT, Int.reduceLE, Int.reduceAdd, Int.reduceSub, Int.reduceMul, Int.reduceNeg, Int.reduceNe, decide_true, decide_false, eq_self, ↓rTru_bl, ↓rTru_int, ↓rTru_non, ↓rTru_tup, ↓dTru_e, ↓dTAnd_e, ↓dTOr_e, ↓dTNot_e, ↓dAnd_e, ↓dOr_e, ↓dNot_e, ↓dIf_e, ↓dNil_e, ↓dCons_e, ↓dTup_e, ↓dLst_e, ↓dBc_e, ↓dBty_e, ↓dBi_e, ↓dGlob_con, ↓dGlob_fn, ↓dGlob_cls, ↓dGlob_exc, ↓dRaise_exc, ↓dCall_fn, ↓dCall_cls, ↓dCallK_fn, ↓dNoPart_e, ↓dPart_i, ↓pPart_int, ↓dSlice_e, ↓rSl_tup, ↓dISeq_i, ↓dIRng1_i, ↓dIRng2_i, ↓dIZip_i, ↓dIEnum_i, ↓dFld_i, ↓dFldSet_i, ↓dMeth_i, ↓dMethK_i, ↓iSeq_tup, ↓iR1_int, ↓iR2_int, ↓iZp_tup, ↓dLM_e, ↓dNext_e, ↓dBreak_e, ↓dCont_e, ↓dDisp_e, ↓dPairs_n, ↓dPairs_c, ↓dYes_e, ↓dLc_e, ↓arg0_nil, ↓arg1_one, ↓arg2_two, ↓arg3_three, ↓isBlt_b, startD, ↓dIte_t, ↓dIte_f, ↓rAdd_ii, ↓rSub_ii, ↓rMul_ii, ↓rFdiv_ii, ↓rMod_ii, ↓rPow_ii, ↓rIAdd_ii, ↓rISub_ii, ↓rNeg_i, ↓rLt_ii, ↓rLe_ii, ↓rGt_ii, ↓rGe_ii, ↓rEq_ii, ↓rEq_ss, ↓rEq_bb, ↓rNe_ii, ↓rNe_ss, ↓rInt_i, ↓rAbs_i, ↓rLen_t, ↓rIxt0, ↓rIxt1, ↓rIxt2, ↓rIxt3, ↓rIxt4, ↓rIxt5, ↓rIxt6, ↓rIxt7, ↓isi_non_int, ↓isi_non_bool, ↓isi_non_str, ↓isi_non_list, ↓isi_non_tuple, ↓isi_non_dict, ↓isi_bl_int, ↓isi_bl_bool, ↓isi_bl_str, ↓isi_bl_list, ↓isi_bl_tuple, ↓isi_bl_dict, ↓isi_int_int, ↓isi_int_bool, ↓isi_int_str, ↓isi_int_list, ↓isi_int_tuple, ↓isi_int_dict, ↓isi_str_int, ↓isi_str_bool, ↓isi_str_str, ↓isi_str_list, ↓isi_str_tuple, ↓isi_str_dict, ↓isi_tup_int, ↓isi_tup_bool, ↓isi_tup_str, ↓isi_tup_list, ↓isi_tup_tuple, ↓isi_tup_dict, List.map_cons, List.map_nil, List.length_cons, List.length_nil, List.cons_append, List.nil_append, List.getElem?_cons_zero, List.getElem?_cons_succ, List.set_cons_zero, List.set_cons_succ, List.replicate_succ, List.replicate_zero, Int.reduceToNat, Nat.reduceSub, Nat.reduceAdd, true_and, and_true, Bool.not_true, Bool.not_false, Bool.true_and, Bool.and_true, Bool.false_and, Bool.and_false, Bool.false_or, Bool.or_false, Bool.true_or, Bool.or_true, Bool.not_not, ix_dct e1 v_left] at this
    exact this
theorem at_nat {ds : List D} {m : Int} (h0 : 0 ≤ m) (h : m < ds.length) : ∃ d, d ∈ ds ∧ atI ds m = some d := by
  obtain ⟨j, rfl⟩ : ∃ j : Nat, m = j := ⟨m.toNat, by omega⟩
  have hj : j < ds.length := by omega
  refine ⟨ds[j], List.getElem_mem hj, ?_⟩
  unfold atI ixN
  simp [hj]
def spPick : DSp := fun ds G Q X => match ds with
  | [.ref s, x] => ∃ k es, G s = some (.abs k []) ∧ k < 2 ^ 40 ∧ (x = .tup es ∨ ∃ a, x = .ref a ∧ G a = some (.lst es)) ∧ 0 < es.length ∧ es.length < 2 ^ 30 ∧ ∀ d, d ∈ es → Q d (gup G s (.abs (k + 1) []))
  | _ => False
theorem p_pick {fd : Addr} (hl : Γ.g "len" = .blt) (hb : Γ.g "_law_draw" = .fn fd ["state", "size_here"] spDraw []) (G : GH) (s : Addr) (x : D) (DQ : DK) (DX : DE → GH → Prop) (h : spPick [.ref s, x] G DQ DX) :
    T_pick Γ K (dEnds Θ K DQ DX) (startD ["state", "several"] [.ref s, x]) G := by
  obtain ⟨k, es, h1, hk, hx, n1, n2, h2⟩ := h
  rcases hx with rfl | ⟨a, rfl, ha⟩
  · simp only [T_pick, ↓dSeq_e, ↓dDrop_e, ↓dRet_e, ↓dRetN_e, ↓dIfS_e, ↓dgName_e, ↓dgNil_nil, ↓dgCons_cons, ↓dgTup_tup, ↓dAsg_e, ↓dPar_e, ↓dPar3_e, ↓dgSub_e, ↓dFor_e, ↓dVar_0, ↓dVar_s, ↓dC_e, ↓dBin_e, ↓dUn_e, ↓dChain_i, ↓chN_bl, ↓rt_cond, c_and, c_or, c_nand, c_self, c_self2, Int.cast_ofNat_Int, Int.reduceEq, Int.reduceLT, Int.reduceLE, Int.reduceAdd, Int.reduceSub, Int.reduceMul, Int.reduceNeg, Int.reduceNe, decide_true, decide_false, eq_self, ↓rTru_bl, ↓rTru_int, ↓rTru_non, ↓rTru_tup, ↓dTru_e, ↓dTAnd_e, ↓dTOr_e, ↓dTNot_e, ↓dAnd_e, ↓dOr_e, ↓dNot_e, ↓dIf_e, ↓dNil_e, ↓dCons_e, ↓dTup_e, ↓dLst_e, ↓dBc_e, ↓dBty_e, ↓dBi_e, ↓dGlob_con, ↓dGlob_fn, ↓dGlob_cls, ↓dGlob_exc, ↓dRaise_exc, ↓dCall_fn, ↓dCall_cls, ↓dCallK_fn, ↓dNoPart_e, ↓dPart_i, ↓pPart_int, ↓dSlice_e, ↓rSl_tup, ↓dISeq_i, ↓dIRng1_i, ↓dIRng2_i, ↓dIZip_i, ↓dIEnum_i, ↓dFld_i, ↓dFldSet_i, ↓dMeth_i, ↓dMethK_i, ↓iSeq_tup, ↓iR1_int, ↓iR2_int, ↓iZp_tup, ↓dLM_e, ↓dNext_e, ↓dBreak_e, ↓dCont_e, ↓dDisp_e, ↓dPairs_n, ↓dPairs_c, ↓dYes_e, ↓dLc_e, ↓arg0_nil, ↓arg1_one, ↓arg2_two, ↓arg3_three, ↓isBlt_b, startD, ↓dIte_t, ↓dIte_f, ↓rAdd_ii, ↓rSub_ii, ↓rMul_ii, ↓rFdiv_ii, ↓rMod_ii, ↓rPow_ii, ↓rIAdd_ii, ↓rISub_ii, ↓rNeg_i, ↓rLt_ii, ↓rLe_ii, ↓rGt_ii, ↓rGe_ii, ↓rEq_ii, ↓rEq_ss, ↓rEq_bb, ↓rNe_ii, ↓rNe_ss, ↓rInt_i, ↓rAbs_i, ↓rLen_t, ↓rIxt0, ↓rIxt1, ↓rIxt2, ↓rIxt3, ↓rIxt4, ↓rIxt5, ↓rIxt6, ↓rIxt7, ↓isi_non_int, ↓isi_non_bool, ↓isi_non_str, ↓isi_non_list, ↓isi_non_tuple, ↓isi_non_dict, ↓isi_bl_int, ↓isi_bl_bool, ↓isi_bl_str, ↓isi_bl_list, ↓isi_bl_tuple, ↓isi_bl_dict, ↓isi_int_int, ↓isi_int_bool, ↓isi_int_str, ↓isi_int_list, ↓isi_int_tuple, ↓isi_int_dict, ↓isi_str_int, ↓isi_str_bool, ↓isi_str_str, ↓isi_str_list, ↓isi_str_tuple, ↓isi_str_dict, ↓isi_tup_int, ↓isi_tup_bool, ↓isi_tup_str, ↓isi_tup_list, ↓isi_tup_tuple, ↓isi_tup_dict, List.map_cons, List.map_nil, List.length_cons, List.length_nil, List.cons_append, List.nil_append, List.getElem?_cons_zero, List.getElem?_cons_succ, List.set_cons_zero, List.set_cons_succ, List.replicate_succ, List.replicate_zero, Int.reduceToNat, Nat.reduceSub, Nat.reduceAdd, true_and, and_true, Bool.not_true, Bool.not_false, Bool.true_and, Bool.and_true, Bool.false_and, Bool.and_false, Bool.false_or, Bool.or_false, Bool.true_or, Bool.or_true, Bool.not_not, hl, hb]
    refine ⟨k, h1, hk, by omega, by omega, fun m m1 m2 => ?_⟩
    obtain ⟨d, hd, ed⟩ := at_nat m1 m2
    rw [rIx_t ed]
    exact ⟨_, RepTo.refl, h2 d hd⟩
  · simp only [T_pick, ↓dSeq_e, ↓dDrop_e, ↓dRet_e, ↓dRetN_e, ↓dIfS_e, ↓dgName_e, ↓dgNil_nil, ↓dgCons_cons, ↓dgTup_tup, ↓dAsg_e, ↓dPar_e, ↓dPar3_e, ↓dgSub_e, ↓dFor_e, ↓dVar_0, ↓dVar_s, ↓dC_e, ↓dBin_e, ↓dUn_e, ↓dChain_i, ↓chN_bl, ↓rt_cond, c_and, c_or, c_nand, c_self, c_self2, Int.cast_ofNat_Int, Int.reduceEq, Int.reduceLT, Int.reduceLE, Int.reduceAdd, Int.reduceSub, Int.reduceMul, Int.reduceNeg, Int.reduceNe, decide_true, decide_false, eq_self, ↓rTru_bl, ↓rTru_int, ↓rTru_non, ↓rTru_tup, ↓dTru_e, ↓dTAnd_e, ↓dTOr_e, ↓dTNot_e, ↓dAnd_e, ↓dOr_e, ↓dNot_e, ↓dIf_e, ↓dNil_e, ↓dCons_e, ↓dTup_e, ↓dLst_e, ↓dBc_e, ↓dBty_e, ↓dBi_e, ↓dGlob_con, ↓dGlob_fn, ↓dGlob_cls, ↓dGlob_exc, ↓dRaise_exc, ↓dCall_fn, ↓dCall_cls, ↓dCallK_fn, ↓dNoPart_e, ↓dPart_i, ↓pPart_int, ↓dSlice_e, ↓rSl_tup, ↓dISeq_i, ↓dIRng1_i, ↓dIRng2_i, ↓dIZip_i, ↓dIEnum_i, ↓dFld_i, ↓dFldSet_i, ↓dMeth_i, ↓dMethK_i, ↓iSeq_tup, ↓iR1_int, ↓iR2_int, ↓iZp_tup, ↓dLM_e, ↓dNext_e, ↓dBreak_e, ↓dCont_e, ↓dDisp_e, ↓dPairs_n, ↓dPairs_c, ↓dYes_e, ↓dLc_e, ↓arg0_nil, ↓arg1_one, ↓arg2_two, ↓arg3_three, ↓isBlt_b, startD, ↓dIte_t, ↓dIte_f, ↓rAdd_ii, ↓rSub_ii, ↓rMul_ii, ↓rFdiv_ii, ↓rMod_ii, ↓rPow_ii, ↓rIAdd_ii, ↓rISub_ii, ↓rNeg_i, ↓rLt_ii, ↓rLe_ii, ↓rGt_ii, ↓rGe_ii, ↓rEq_ii, ↓rEq_ss, ↓rEq_bb, ↓rNe_ii, ↓rNe_ss, ↓rInt_i, ↓rAbs_i, ↓rLen_t, ↓rIxt0, ↓rIxt1, ↓rIxt2, ↓rIxt3, ↓rIxt4, ↓rIxt5, ↓rIxt6, ↓rIxt7, ↓isi_non_int, ↓isi_non_bool, ↓isi_non_str, ↓isi_non_list, ↓isi_non_tuple, ↓isi_non_dict, ↓isi_bl_int, ↓isi_bl_bool, ↓isi_bl_str, ↓isi_bl_list, ↓isi_bl_tuple, ↓isi_bl_dict, ↓isi_int_int, ↓isi_int_bool, ↓isi_int_str, ↓isi_int_list, ↓isi_int_tuple, ↓isi_int_dict, ↓isi_str_int, ↓isi_str_bool, ↓isi_str_str, ↓isi_str_list, ↓isi_str_tuple, ↓isi_str_dict, ↓isi_tup_int, ↓isi_tup_bool, ↓isi_tup_str, ↓isi_tup_list, ↓isi_tup_tuple, ↓isi_tup_dict, List.map_cons, List.map_nil, List.length_cons, List.length_nil, List.cons_append, List.nil_append, List.getElem?_cons_zero, List.getElem?_cons_succ, List.set_cons_zero, List.set_cons_succ, List.replicate_succ, List.replicate_zero, Int.reduceToNat, Nat.reduceSub, Nat.reduceAdd, true_and, and_true, Bool.not_true, Bool.not_false, Bool.true_and, Bool.and_true, Bool.false_and, Bool.and_false, Bool.false_or, Bool.or_false, Bool.true_or, Bool.or_true, Bool.not_not, hl, hb, rLen, ha]
    refine ⟨k, h1, hk, by omega, by omega, fun m m1 m2 => ?_⟩
    obtain ⟨d, hd, ed⟩ := at_nat m1 m2
    have hs : a ≠ s := fun e => by rw [e, h1] at ha; cases ha
    rw [ix_lst (ds := es) (by rw [gup_ne hs]; exact ha) ed]
    exact ⟨_, RepTo.refl, h2 d hd⟩
theorem spd_of {G : GH} {s : Addr} {k : Nat} {n : Int} {Q : DK} {X : DE → GH → Prop} (h : G s = some (.abs k [])) : spDraw [.ref s, .int n] G Q X = (k < 2 ^ 40 ∧ 0 < n ∧ n < 2 ^ 30 ∧ ∀ m, 0 ≤ m → m < n → Q (.int m) (gup G s (.abs (k + 1) []))) :=
  propext ⟨fun ⟨k', h', q⟩ => by rw [h] at h'; cases h'; exact q, fun q => ⟨k, h, q⟩⟩
theorem spd_g {G : GH} {s : Addr} {k : Nat} {n : Int} {Q : DK} {X : DE → GH → Prop} : spDraw [.ref s, .int n] (gup G s (.abs k [])) Q X = (k < 2 ^ 40 ∧ 0 < n ∧ n < 2 ^ 30 ∧ ∀ m, 0 ≤ m → m < n → Q (.int m) (gup G s (.abs (k + 1) []))) := by
  rw [spd_of gup_same, gup_gup]
end
end Dl

namespace Dl
open PySem PySem.Spec PyProof.Rows L2
/-! helps for the walk -/
theorem str_inj {a b : String} : (Str.ofString a = Str.ofString b) = (a = b) := by
  refine propext ⟨fun h => ?_, fun h => by rw [h]⟩
  rw [Str.ofString_eq_toList, Str.ofString_eq_toList] at h
  have h2 : a.toList.map Char.toNat = b.toList.map Char.toNat := by
    have := congrArg (fun x : Str => x.cps.toList) h
    simpa using this
  have inj : ∀ xs ys : List Char, xs.map Char.toNat = ys.map Char.toNat → xs = ys := by
    intro xs
    induction xs with
    | nil => intro ys h; cases ys with
      | nil => rfl
      | cons y ys => cases h
    | cons x xs ih => intro ys h; cases ys with
      | nil => cases h
      | cons y ys =>
        simp only [List.map_cons, List.cons.injEq] at h
        rw [ih _ h.2, Char.toNat_inj.mp h.1]
  exact String.toList_inj.mp (inj _ _ h2)
theorem dSeq_n {t u : TSD} {E : DEnds} {ρ : Ro} {G : GH} (h : ∀ N : Ro → GH → Prop, (∀ ρ' G', u E ρ' G' → N ρ' G') → t { E with nx := N } ρ G) : dSeq t u E ρ G := h _ fun _ _ z => z
theorem dSeq_j {t u : TSD} {E : DEnds} {ρ : Ro} {G : GH} (J : Ro → GH → Prop) (h : ∀ N : Ro → GH → Prop, (∀ ρ' G', J ρ' G' → N ρ' G') → t { E with nx := N } ρ G) (h2 : ∀ ρ' G', J ρ' G' → u E ρ' G') : dSeq t u E ρ G := h _ h2
theorem size_lit {n : Nat} (h : n ≤ 1000000) : (n ≤ sizeLine) = True := eq_true (size_le h)
theorem spd_n {G : GH} {s : Addr} {k : Nat} {n : Int} {Q : DK} {X : DE → GH → Prop} (h0 : 0 < n) (h1 : n < 1073741824) (hk : k < 1000000000000) (h : ∀ m, 0 ≤ m → m < n → Q (.int m) (gup G s (.abs (k + 1) []))) : spDraw [.ref s, .int n] (gup G s (.abs k [])) Q X := by
  rw [spd_g]
  exact ⟨by omega, h0, by omega, h⟩
theorem spd_m {G : GH} {s : Addr} {k : Nat} {n : Int} {Q : DK} {X : DE → GH → Prop} (hs : G s = some (.abs k [])) (h0 : 0 < n) (h1 : n < 1073741824) (hk : k < 1000000000000) (h : ∀ m, 0 ≤ m → m < n → Q (.int m) (gup G s (.abs (k + 1) []))) : spDraw [.ref s, .int n] G Q X := by
  rw [spd_of hs]
  exact ⟨by omega, h0, by omega, h⟩
theorem lst_mo {G : GH} {p : Addr} {ds : List D} {mo : MO} (h : G p = some mo) (hm : mo = .lst ds ∨ mo = .fro ds) : lstOf G (.ref p) = some ds := by
  rcases hm with rfl | rfl
  · exact lst_of h
  · exact lst_fro h
theorem rLen_l {G : GH} {d : D} {ds : List D} {Q : DK} (h : lstOf G d = some ds) : rLen [d] G Q = Q (.int ds.length) G := by
  cases d with
  | ref p =>
    cases e : G p with
    | none => simp [lstOf, e] at h
    | some mo =>
      cases mo with
      | lst es => simp [lstOf, e] at h; subst h; simp only [rLen, arg1, arg0, e]
      | fro es => simp [lstOf, e] at h; subst h; simp only [rLen, arg1, arg0, e]
      | _ => simp [lstOf, e] at h
  | _ => simp [lstOf] at h
theorem dLoop_ix {chk : GH → Prop} {tg : TGD} {tb : TSD} {E : DEnds} (I : List D → Ro → GH → Prop) : ∀ ds : List D, (∀ r ρ G, I r ρ G → chk G) →
    (∀ d r, d ∈ ds → r.length < ds.length → ∀ J : Ro → GH → Prop, (∀ ρ G, I r ρ G → J ρ G) → ∀ ρ G, I (d :: r) ρ G → tg d E.ex ρ G fun ρ1 G1 => tb { E with nx := J, ct := J, bk := E.nx } ρ1 G1) →
    (∀ ρ G, I [] ρ G → E.nx ρ G) → ∀ ρ G, I ds ρ G → dLoop chk tg tb E ds ρ G
  | [], hc, _, hd, ρ, G, h => ⟨hc _ ρ G h, hd ρ G h⟩
  | d :: r, hc, hs, hd, ρ, G, h => ⟨hc _ ρ G h, hs d r List.mem_cons_self (Nat.lt_succ_self _) _ (fun ρ' G' h' => dLoop_ix I r hc (fun d r' hd hr => hs d r' (List.mem_cons_of_mem _ hd) (Nat.lt_succ_of_lt hr)) hd ρ' G' h') ρ G h⟩
section
variable {X : DXK} {ρ : Ro} {G : GH} {Q : DK} {g : GV} {a : Addr} {ps ks : List Str} {sp : DSp} {kws : List (Nat × List Str)} {t u : TAD} {n : Nat} {d : D} {E : DEnds}
theorem dCall_h (h : g = .fn a ps sp kws) : dCall g t X ρ G Q = t X ρ G fun ds G1 => ds.length = ps.length ∧ sp ds G1 Q fun e G' => X e ρ G' := by rw [h]; exact dCall_fn
theorem dCallK_h (h : g = .fn a ps sp kws) : dCallK g n ks t u X ρ G Q = t X ρ G fun ds G1 => u X ρ G1 fun es G2 => ds.length = n ∧ es.length = ks.length ∧ (n, ks) ∈ kws ∧ cFn ps.length sp (kwArr ps n ks ds es) X ρ G2 Q := by rw [h]; exact dCallK_fn
theorem dGlob_f (h : g = .fn a ps sp kws) : dGlob g X ρ G Q = Q (.ref a) G := by rw [h]; rfl
theorem dCall_k (h : g = .cls a ps sp kws) : dCall g t X ρ G Q = t X ρ G fun ds G1 => cCls a ps.length sp ds X ρ G1 Q := by rw [h]; exact dCall_cls
theorem dGlob_k (h : g = .cls a ps sp kws) : dGlob g X ρ G Q = Q (.ref a) G := by rw [h]; rfl
theorem dGlob_c (h : g = .con d) : dGlob g X ρ G Q = Q d G := by rw [h]; rfl
theorem dGlob_e (h : g = .exc a) : dGlob g X ρ G Q = Q (.ref a) G := by rw [h]; rfl
theorem dRaise_h (h : g = .exc a) : dRaise g E ρ G = E.ex ⟨a, []⟩ ρ G := by rw [h]; rfl
theorem dRaiseA_h {E : DEnds} {n : Nat} {l : List (Str × Nat)} (h : g = .exi a n l) : dRaiseA g t E ρ G = dRaiseF a n (l.map fun p => (p.1, p.2 - 1)) t E ρ G := by rw [h]; rfl
theorem dRaiseF_e {C : Addr} {E : DEnds} {n : Nat} {l : List (Str × Nat)} : dRaiseF C n l t E ρ G = t E.ex ρ G fun ds G1 => ds.length = n ∧ E.ex ⟨C, fldsD l ds⟩ ρ G1 := rfl
theorem dGlob_i {n : Nat} {l : List (Str × Nat)} (h : g = .exi a n l) : dGlob g X ρ G Q = Q (.ref a) G := by rw [h]; rfl
theorem isBlt_h (h : g = .blt) : (isBlt g = true) = True := by rw [h]; exact isBlt_b
end
end Dl

namespace Dl
open PySem PySem.Spec PyProof.Rows L2
/-! ### the names of a program, by tables -/
def lookG (t : List (Str × GV)) (x : Str) : GV := match t.lookup x with
  | some g => g
  | none => .none
def lookM : List (Addr × Str × GV) → Addr → Str → GV
  | [], _, _ => .none
  | (C, m, g) :: r, D, x => if D = C ∧ x = m then g else lookM r D x
def mkG (t : List (Str × GV)) (mt : List (Addr × Str × GV)) : GEnv := ⟨lookG t, lookM mt⟩
section
variable {Θ : AbsI} {P : Program} {w : World} {K : PySem.W.Frag} {mg : Str → Option Value} {base : Heap} {k j : Nat}
def MtOk (Θ : AbsI) (P : Program) (w : World) (K : PySem.W.Frag) (mg : Str → Option Value) (base : Heap) (k : Nat) (C : Addr) (x : Str) : GV → Prop
  | .fn f ps sp kws => Cls K C ∧ Meth K C x f ∧ FnI Θ P w K mg base k f ps sp kws 1
  | _ => True
inductive AllG (Θ : AbsI) (P : Program) (w : World) (K : PySem.W.Frag) (mg : Str → Option Value) (base : Heap) (k : Nat) : List (Str × GV) → Prop where
  | nil : AllG Θ P w K mg base k []
  | cons {x : Str} {g : GV} {t : List (Str × GV)} (h : GVOk Θ P w K mg base k x g) (r : AllG Θ P w K mg base k t) : AllG Θ P w K mg base k ((x, g) :: t)
inductive AllM (Θ : AbsI) (P : Program) (w : World) (K : PySem.W.Frag) (mg : Str → Option Value) (base : Heap) (k : Nat) : List (Addr × Str × GV) → Prop where
  | nil : AllM Θ P w K mg base k []
  | cons {C : Addr} {x : Str} {g : GV} {t : List (Addr × Str × GV)} (h : MtOk Θ P w K mg base k C x g) (r : AllM Θ P w K mg base k t) : AllM Θ P w K mg base k ((C, x, g) :: t)
theorem AllG.look {t : List (Str × GV)} (h : AllG Θ P w K mg base k t) (x : Str) : GVOk Θ P w K mg base k x (lookG t x) := by
  induction h with
  | nil => exact trivial
  | @cons y g t h r ih =>
    unfold lookG at ih ⊢
    rw [List.lookup_cons]
    cases e : x == y with
    | true => rw [show x = y from eq_of_beq e]; exact h
    | false => exact ih
theorem AllM.look {t : List (Addr × Str × GV)} (h : AllM Θ P w K mg base k t) (C : Addr) (x : Str) : MtOk Θ P w K mg base k C x (lookM t C x) := by
  induction h with
  | nil => exact trivial
  | @cons C' y g t h r ih =>
    unfold lookM
    split
    · rename_i e; rw [e.1, e.2]; exact h
    · exact ih
theorem gokB_of {t : List (Str × GV)} {mt : List (Addr × Str × GV)} (h : AllG Θ P w K mg base k t) (hm : AllM Θ P w K mg base k mt) : GOkB Θ P w K mg base k (mkG t mt) :=
  ⟨h.look, fun C x => by
    have := hm.look C x
    show match lookM mt C x with
      | .fn f ps sp kws => Cls K C ∧ Meth K C x f ∧ FnI Θ P w K mg base k f ps sp kws 1
      | _ => True
    unfold MtOk at this
    exact this⟩
theorem GVOk.mono {x : Str} {g : GV} (h : GVOk Θ P w K mg base k x g) (hk : k ≤ j) : GVOk Θ P w K mg base j x g := by
  cases g with
  | fn a ps sp kws => exact ⟨h.1, h.2.mono hk⟩
  | cls C ps sp kws =>
    obtain ⟨h1, h0, f, M, h2⟩ := h
    exact ⟨h1, by omega, f, M, h2.mono (by omega)⟩
  | exi C n l =>
    obtain ⟨h1, h2, h3, h4, h5, h6, fI, fd, ps, h7, h8, h9, F⟩ := h
    exact ⟨h1, h2, h3, h4, h5, by omega, fI, fd, ps, h7, h8, h9, F.mono (by omega)⟩
  | _ => exact h
theorem MtOk.mono {C : Addr} {x : Str} {g : GV} (h : MtOk Θ P w K mg base k C x g) (hk : k ≤ j) : MtOk Θ P w K mg base j C x g := by
  cases g with
  | fn a ps sp kws => exact ⟨h.1, h.2.1, h.2.2.mono hk⟩
  | _ => exact h
theorem AllG.mono {t : List (Str × GV)} (h : AllG Θ P w K mg base k t) (hk : k ≤ j) : AllG Θ P w K mg base j t := by
  induction h with
  | nil => exact .nil
  | cons h r ih => exact .cons (h.mono hk) ih
theorem AllM.mono {t : List (Addr × Str × GV)} (h : AllM Θ P w K mg base k t) (hk : k ≤ j) : AllM Θ P w K mg base j t := by
  induction h with
  | nil => exact .nil
  | cons h r ih => exact .cons (h.mono hk) ih
/-! ### the facts of a name -/
section
variable {h : Heap} {x : Str}
theorem gv_blt (X : K.In h) (G : h.Ns mainGlobals mg) (c : (He.Fa.free x).ok K = true) : GVOk Θ P w K mg base k x .blt := He.free_ok X G c
theorem gv_int (X : K.In h) (G : h.Ns mainGlobals mg) {i : Int} (c : (He.Fa.int x i).ok K = true) : GVOk Θ P w K mg base k x (.con (.int i)) := by
  obtain ⟨t, e⟩ := He.int_ok X G c
  exact ⟨.int i, _, e, ⟨t, rfl⟩, fun _ => rfl⟩
theorem gv_exc (X : K.In h) (G : h.Ns mainGlobals mg) (g : (He.Fa.glo x).ok K = true) (c : (He.Fa.exc x).ok K = true) : GVOk Θ P w K mg base k x (.exc (He.ga K x)) := ⟨He.glo_ok X G g, He.exc_ok c⟩
theorem gv_fn (X : K.In h) (G : h.Ns mainGlobals mg) {ps : List Str} {sp : DSp} {kws : List (Nat × List Str)} (g : (He.Fa.glo x).ok K = true) (f : FnI Θ P w K mg base k (He.fAd K (x, none)) ps sp kws 0) : GVOk Θ P w K mg base k x (.fn (He.fAd K (x, none)) ps sp kws) := ⟨He.glo_ok X G g, f⟩
theorem gv_cls (X : K.In h) (G : h.Ns mainGlobals mg) {ps : List Str} {sp : DSp} {kws : List (Nat × List Str)} (g : (He.Fa.glo x).ok K = true) (m : (He.Fa.mkr x).ok K = true) (f : FnI Θ P w K mg base k (He.fAd K (x, some "__init__")) ps sp kws 1) : GVOk Θ P w K mg base (k + 1) x (.cls (He.ga K x) ps sp kws) :=
  ⟨He.glo_ok X G g, Nat.succ_pos _, _, He.mkr_ok m, f⟩
theorem mt_fn {m : Str} {ps : List Str} {sp : DSp} {kws : List (Nat × List Str)} (c : (He.Fa.cls x).ok K = true) (hm : (He.Fa.meth x m).ok K = true) (f : FnI Θ P w K mg base k (He.fAd K (x, some m)) ps sp kws 1) : MtOk Θ P w K mg base k (He.ga K x) m (.fn (He.fAd K (x, some m)) ps sp kws) :=
  ⟨He.cls_ok c, He.meth_ok hm, f⟩
end
/-! ### a def of the text -/
/-- its binding of arguments, by place and by name -/
structure Bd0 (d : He.DefD) (ps : List Str) (kws : List (Nat × List Str)) (off : Nat) : Prop where
  n : ∀ (kV doc pm : Value) (an : Option Addr) (cdv ct : Value) (us : List Value), us.length = ps.length → bindArgs (PySem.W.fnOf d.name d.qual d.params d.body d.scope .none kV doc pm an cdv ct) ⟨us, []⟩ = pure (ps.zip us)
  k : ∀ q ∈ kws, ∀ (kV doc pm : Value) (an : Option Addr) (cdv ct : Value) (us ws : List Value), us.length = q.1 + off → ws.length = q.2.length → (kwArr ps (q.1 + off) q.2 us ws).length = ps.length ∧
    bindArgs (PySem.W.fnOf d.name d.qual d.params d.body d.scope .none kV doc pm an cdv ct) ⟨us, q.2.zip ws⟩ = pure (ps.zip (kwArr ps (q.1 + off) q.2 us ws))
theorem fnI_of {fa : List He.Fa} {fn : List He.DefD} {d : He.DefD} {N ps : List Str} {n off : Nat} {sp : DSp} {kws : List (Nat × List Str)} {Γ : GEnv} {CS : Str → Option Addr} {lam : Bool} {T : TSD} (c : He.SaysD fa fn K) (i : Nat) (hd : fn[i]? = some d) (h1 : d.dfl = []) (h2 : d.kwd = [])
    (S : FnScope N ps d.scope) (B : Bd0 d ps kws off) (ok : GOkB Θ P w K mg base k Γ) (L : lam = true → ∀ fd, FunD K d.name d.qual d.params d.body d.scope [] [] (He.fAd K d.at_) fd → LamB Θ K mg base d.qual fd.code CS)
    (hT : (ev n).Ss ⟨N, d.scope, Γ, K, fun _ => true, lam, CS⟩ d.body = T)
    (spec : ∀ ds G DQ DX, ds.length = ps.length → sp ds G DQ DX → Opens Θ K G fun G0 => T (dEnds Θ K DQ DX) (startD N ds) G0) : FnI Θ P w K mg base (k + 3) (He.fAd K d.at_) ps sp kws off := by
  obtain ⟨fd, F⟩ := c.def_ i hd
  have e1 : d.dvs K = [] := by unfold He.DefD.dvs; rw [h1]; rfl
  have e2 : d.kws K = [] := by unfold He.DefD.kws; rw [h2]; rfl
  rw [e1, e2] at F
  refine ⟨F.kp, fd, fnOk_of F S ok (fun hl => L hl fd F) hT spec, F.bindsN B.n, fun q hq s us ws hK hu hw => ?_⟩
  obtain ⟨oc, od, dV, kV, doc, pm, an, cdv, ct, osl, rfl, lk, hcd, hD, hKw⟩ := F.ex
  rcases hD with ⟨_, rfl⟩ | ⟨e, _⟩
  · have := B.k q hq kV doc pm an cdv ct us ws hu hw
    exact ⟨this.1, .of_eq this.2⟩
  · exact absurd rfl e
end
theorem len1 {ds : List D} (h : ds.length = 1) : ∃ a, ds = [a] := List.length_eq_one_iff.mp h
theorem len2 {ds : List D} (h : ds.length = 2) : ∃ a b, ds = [a, b] := by
  match ds, h with
  | [a, b], _ => exact ⟨a, b, rfl⟩
theorem len3 {ds : List D} (h : ds.length = 3) : ∃ a b c, ds = [a, b, c] := by
  match ds, h with
  | [a, b, c], _ => exact ⟨a, b, c, rfl⟩
theorem lamB_of {Θ : AbsI} {K : PySem.W.Frag} {mg : Str → Option Value} {base : Heap} {p : He.Defn} {x qual : Str} {params : Arguments} {body : List Stmt} {scope : Scope} {fd : FuncData} {CS : Str → Option Addr} (F : FunD K x qual params body scope [] [] (He.fAd K p) fd)
    (TB : LamX.TabB base mg (He.cT K p).1 (He.cT K p).2) (hm : ((He.cT K p).2, qual ++ ".<locals>." ++ "<lambda>") ∈ Θ.T) (hu : ∀ q ∈ Θ.T, q.1 = (He.cT K p).2 → q.2 = qual ++ ".<locals>." ++ "<lambda>") (hc : ∀ x C, CS x = some C → CaughtI K mg x C) : LamB Θ K mg base qual fd.code CS := by
  obtain ⟨oc, od, dV, kV, doc, pm, an, cdv, ct, osl, rfl, lk, hcd, _, _⟩ := F.ex
  obtain ⟨c, rfl⟩ := He.codeIn_ref hcd
  have e : He.codeOf K p = c := He.codeOf_eq lk rfl
  refine ⟨⟨c, (He.cT K p).2, ?_, rfl, hm, hu⟩, hc⟩
  rw [← e]
  exact TB
theorem lookM_hit {C : Addr} {m : Str} {g : GV} {r : List (Addr × Str × GV)} : lookM ((C, m, g) :: r) C m = g := if_pos ⟨rfl, rfl⟩
theorem lookM_skip {C D : Addr} {m x : Str} {g : GV} {r : List (Addr × Str × GV)} (h : x ≠ m) : lookM ((C, m, g) :: r) D x = lookM r D x := if_neg fun e => h e.2
def csL (CS : Addr) (x : Str) : Option Addr := if x = "_law_caught" then some CS else none
theorem csL_of {CS C : Addr} {x : Str} (h : csL CS x = some C) : x = "_law_caught" ∧ C = CS := by
  unfold csL at h
  split at h
  · rename_i e; cases h; exact ⟨e, rfl⟩
  · cases h
/-- what is asked of a caught class -/
def excB (K : PySem.W.Frag) (x : Str) : Bool := He.eqO (PySem.W.findIn K (.ref (He.ga K x)) "__getattribute__") (some (some (.builtin "BaseException.__getattribute__"))) && (He.eqO (PySem.W.findIn K (.ref (He.ga K x)) "__getattr__") (some none) && (decide (PySem.W.subIn K (.ref (He.ga K x)) (.type "BaseException") = some true) &&
  (PySem.W.hasDictIn K (He.ga K x) && (He.eqO (PySem.W.findIn K (.ref (He.ga K x)) "__class__") (some (some (.builtin "object.__class__"))) && (He.eqO (PySem.W.specialIn K (.builtin "object.__class__") "__get__") (some (some (.builtin "getset_descriptor.__get__"))) &&
  (decide (PySem.W.takesIn K (.builtin "object.__class__") = some true) && (decide (PySem.W.mroIn K (He.ga K x) (.type "object") = some true) && decide (PySem.W.kitOne K (.ref (He.ga K x)) (.ref (He.ga K x)) = some true))))))))
theorem excB_ok {K : PySem.W.Frag} {x : Str} (h : excB K x = true) : ExcC K (He.ga K x) ∧ PySem.W.kitOne K (.ref (He.ga K x)) (.ref (He.ga K x)) = some true := by
  obtain ⟨h1, h⟩ := He.ba h
  obtain ⟨h2, h⟩ := He.ba h
  obtain ⟨h3, h⟩ := He.ba h
  obtain ⟨h4, h⟩ := He.ba h
  obtain ⟨h5, h⟩ := He.ba h
  obtain ⟨h6, h⟩ := He.ba h
  obtain ⟨h7, h⟩ := He.ba h
  obtain ⟨h8, h9⟩ := He.ba h
  exact ⟨⟨He.eqO_ok h1, He.eqO_ok h2, of_decide_eq_true h3, h4, He.eqO_ok h5, He.eqO_ok h6, of_decide_eq_true h7, of_decide_eq_true h8⟩, of_decide_eq_true h9⟩
/-! ### the law -/
def spLaw : DSp := fun ds G Q X => ∃ (sc : Addr) (ns : List Int) (mo : MO), ds = [.ref sc] ∧ G sc = some mo ∧ (mo = .lst (ns.map .int) ∨ mo = .fro (ns.map .int)) ∧ ns.length ≤ 63 ∧ ∀ G', Q (.bl true) G'
def noLists (K : PySem.W.Frag) : Bool := K.all fun p => match p.2.cls with
  | .type c => !decide (c = "list")
  | _ => true
theorem noLists_ok {K : PySem.W.Frag} (h : noLists K = true) {a : Addr} {o : Obj} (e : K.lookup a = some o) (hc : o.cls = .type "list") : False := by
  have := List.all_eq_true.mp h _ (He.lookup_mem e)
  rw [hc] at this
  simp at this
theorem cx_no {P : Program} {w : World} (H : Hp) (s : Shared) (e : Value) (s' : Shared) (h : L2.CX P w [] H s (fun _ _ _ => False) e s') : False := by
  obtain ⟨_, _, _, _, _, _, _, _, _, _, _, _, h⟩ := h
  exact h
theorem ints_D : ∀ {ns : List Int} {K : PySem.W.Frag} {H : Hp}, IsL K H (ns.map D.int) (ns.map V.int)
  | [], _, _ => rfl
  | n :: ns, _, _ => ⟨_, _, rfl, rfl, ints_D⟩
/-- the law's call: T the tables of the defs that make lambdas -/
theorem law_at {l : PySem.W.OpenLaw} {w : World} {K : PySem.W.Frag} {mg : Str → Option Value} {fa0 : Addr} {h : Heap} {k : Nat} {fa : List He.Fa} {fn : List He.DefD} {ts : List He.Tab} {tf : List He.Defn} {ex : PySem.W.Frag → Bool} {T : List (Addr × Str)} {fd : FuncData}
    (X : K.In h) (c : He.SaysX fa fn ts tf ex w h K) (hl : noLists K = true) (hT : ∀ p ∈ T, ∃ q ∈ tf, (He.cT K q).2 = p.1) (hb : ∀ (s : Shared) (u : Value), BindsTo s fd ⟨[u], []⟩ [("script", u)])
    (hF : ∀ base : Heap, K.In base → base.Ns mainGlobals mg → (∀ q ∈ tf, LamX.TabB base mg (He.cT K q).1 (He.cT K q).2) → FnOk l.prog w K mg base (L2.CX l.prog w) k fa0 fd ["script"] (lowSp (drawI T) K 1 spLaw)) : LamX.LawAtS l w K (L2.CX l.prog w) k 63 "script" mg fa0 h := by
  refine ⟨fd, tf.map (He.cT K), lowSp (drawI T) K 1 spLaw, fun p hp => ?_, fun p hp => ?_, fun p hp => ?_, hb, fun H a ns hlen _ hH hS => ?_, fun base hK hN hTB => hF base hK hN fun q hq => hTB _ (List.mem_map_of_mem hq)⟩
  · obtain ⟨q, hq, rfl⟩ := List.mem_map.mp hp
    exact c.empty q hq
  · obtain ⟨q, hq, rfl⟩ := List.mem_map.mp hp
    exact c.out q hq
  · obtain ⟨q, hq, rfl⟩ := List.mem_map.mp hp
    exact PySem.W.codeHd_of_K X (c.hd q hq)
  · have tabs : LamX.Tabs T H := fun p hp => by
      obtain ⟨q, hq, e⟩ := hT p hp
      have := hH _ (List.mem_map_of_mem (f := He.cT K) hq)
      rw [e] at this
      exact LamX.TabS.nil this
    have go : ∀ mo : MO, (mo = .lst (ns.map .int) ∨ mo = .fro (ns.map .int)) → (∀ own, ObjIs (drawI T) K H own a mo) → lowSp (drawI T) K 1 spLaw [.ref a] H (fun v _ => v = .bl true) fun _ _ _ => False := fun mo hmo hob => by
      refine ⟨rfl, [.ref a], fun b => if b = a then some mo else none, fun _ => none, fun d _ => d = .bl true, fun _ _ => False, .cons .ref .nil, ⟨fun _ => none, fun b o e => ?_, fun p b e => (nomatch e), fun b o e => (nomatch e), tabs⟩, ⟨a, ns, mo, rfl, if_pos rfl, hmo, hlen, fun _ => rfl⟩, fun v H' d G' _ i _ q => ?_, fun _ _ _ _ _ _ _ _ q => q⟩
      · have e : (if b = a then some mo else none) = some o := e
        split at e
        · rename_i hb
          cases e
          rw [hb]
          exact hob _
        · cases e
      · rw [q] at i; exact i
    rcases hS with (hS | ⟨o, hS⟩) | ⟨o, its, n, e1, e2, _⟩
    · exact go _ (.inl rfl) fun own => ⟨_, hS, ints_D⟩
    · exact go _ (.inr rfl) fun own => ⟨o, _, hS, ints_D⟩
    · exact (noLists_ok hl e1 e2).elim
end Dl

namespace Dl
open PySem PySem.Spec PyProof.Rows L2
/-! ### what stays: all but the source of draws -/
structure Kp (G : GH) (s : Addr) (k : Nat) (G1 : GH) : Prop where
  src : G1 s = some (.abs k [])
  keep : ∀ a o, a ≠ s → G a = some o → G1 a = some o
section
variable {G G1 G2 : GH} {s p : Addr} {k j : Nat} {o : MO}
theorem Kp.refl (h : G s = some (.abs k [])) : Kp G s k G := ⟨h, fun _ _ _ h => h⟩
theorem Kp.new (h : Kp G s k G1) (hp : G1 p = none) : Kp G s k (gup G1 p o) := ⟨gup_old h.src hp, fun a u n e => gup_old (h.keep a u n e) hp⟩
theorem Kp.draw (h : Kp G s k G1) : Kp G s j (gup G1 s (.abs j [])) := ⟨gup_same, fun a u n e => by rw [gup_ne n]; exact h.keep a u n e⟩
theorem Kp.upd (h : Kp G s k G1) (hp : G p = none) (n : p ≠ s) : Kp G s k (gup G1 p o) := ⟨by rw [gup_ne n.symm]; exact h.src, fun a u na e => by
  rw [gup_ne (fun z => by rw [z, hp] at e; cases e)]
  exact h.keep a u na e⟩
theorem Kp.trans (h : Kp G s k G1) (h2 : Kp G1 s j G2) : Kp G s j G2 := ⟨h2.src, fun a u n e => h2.keep a u n (h.keep a u n e)⟩
theorem Kp.gup (h : Kp G s k G1) : Kp G s j (Dl.gup G1 s (.abs j [])) := h.draw
theorem Kp.free (h : Kp G s k G1) (hp : G1 p = none) : G p = none ∧ p ≠ s := by
  have n : p ≠ s := fun e => by rw [e, h.src] at hp; cases hp
  refine ⟨?_, n⟩
  cases e : G p with
  | none => rfl
  | some u => rw [h.keep p u n e] at hp; cases hp
theorem Kp.back {T : List (Addr × Str)} {K : PySem.W.Frag} (h : Kp G s k G1) (hk : k ≤ j) : RepTo (drawI T) K G1 (Dl.gup G s (.abs j [])) := by
  refine (draw_more h.src hk).trans (RepTo.sub fun a u e => ?_)
  by_cases n : a = s
  · subst n; rw [gup_same] at e ⊢; exact e
  · rw [gup_ne n] at e ⊢; exact h.keep a u n e
theorem Kp.fin {T : List (Addr × Str)} {K : PySem.W.Frag} {DQ : DK} {d : D} (h : Kp G s k G1) (hk : k ≤ j) (q : DQ d (Dl.gup G s (.abs j []))) : ∃ G', RepTo (drawI T) K G1 G' ∧ DQ d G' := ⟨_, h.back hk, q⟩
theorem Kp.back1 {T : List (Addr × Str)} {K : PySem.W.Frag} (h : Kp G s k G1) (hk : k ≤ j) (n : p ≠ s) (F : G1 p = some o) : RepTo (drawI T) K G1 (Dl.gup (Dl.gup G s (.abs j [])) p o) := by
  refine (draw_more h.src hk).trans (RepTo.sub fun a u e => ?_)
  by_cases n1 : a = p
  · subst n1; rw [gup_same] at e; rw [gup_ne n, ← e]; exact F
  · rw [gup_ne n1] at e
    by_cases n2 : a = s
    · subst n2; rw [gup_same] at e ⊢; exact e
    · rw [gup_ne n2] at e ⊢; exact h.keep a u n2 e
/-- a draw -/
theorem Kp.spd {n : Int} {Q : DK} {X : DE → GH → Prop} (h : Kp G s k G1) (h0 : 0 < n) (h1 : n < 1073741824) (hk : k < 1000000000000) (q : ∀ m, 0 ≤ m → m < n → Q (.int m) (Dl.gup G1 s (.abs (k + 1) []))) : spDraw [.ref s, .int n] G1 Q X := spd_m h.src h0 h1 hk q
end
/-- the same, told by a bound of the count -/
def KpB (G : GH) (s : Addr) (b : Nat) (G1 : GH) : Prop := ∃ j, j ≤ b ∧ Kp G s j G1
section
variable {G G1 : GH} {s p : Addr} {b c : Nat} {o : MO}
theorem Kp.toB {k : Nat} (h : Kp G s k G1) (hk : k ≤ b) : KpB G s b G1 := ⟨k, hk, h⟩
theorem KpB.new (h : KpB G s b G1) (hp : G1 p = none) : KpB G s b (gup G1 p o) := let ⟨j, hj, h⟩ := h; ⟨j, hj, h.new hp⟩
theorem KpB.upd (h : KpB G s b G1) (hp : G p = none) (n : p ≠ s) : KpB G s b (gup G1 p o) := let ⟨j, hj, h⟩ := h; ⟨j, hj, h.upd hp n⟩
theorem KpB.mono (h : KpB G s b G1) (hb : b ≤ c) : KpB G s c G1 := let ⟨j, hj, h⟩ := h; ⟨j, Nat.le_trans hj hb, h⟩
theorem KpB.free (h : KpB G s b G1) (hp : G1 p = none) : G p = none ∧ p ≠ s := let ⟨_, _, h⟩ := h; h.free hp
/-- a draw: the new store keeps what the old one keeps, and stands for itself -/
theorem KpB.spd {n : Int} {Q : DK} {X : DE → GH → Prop} (h : KpB G s b G1) (h0 : 0 < n) (h1 : n < 1073741824) (hb : b < 1000000000000) (q : ∀ m G2, 0 ≤ m → m < n → KpB G s (b + 1) G2 → (∀ a u, a ≠ s → G1 a = some u → G2 a = some u) → Q (.int m) G2) : spDraw [.ref s, .int n] G1 Q X := by
  obtain ⟨j, hj, h⟩ := h
  exact h.spd h0 h1 (by omega) fun m m0 m1 => q m _ m0 m1 ⟨j + 1, by omega, h.draw⟩ fun a u n e => by rw [gup_ne n]; exact e
theorem KpB.pick {es : List D} {x : D} {Q : DK} {X : DE → GH → Prop} (h : KpB G s b G1) (hx : x = .tup es ∨ ∃ a, x = .ref a ∧ G1 a = some (.lst es)) (h0 : 0 < es.length) (h1 : es.length < 1073741824) (hb : b < 1000000000000) (q : ∀ d G2, d ∈ es → KpB G s (b + 1) G2 → (∀ a u, a ≠ s → G1 a = some u → G2 a = some u) → Q d G2) : spPick [.ref s, x] G1 Q X := by
  obtain ⟨j, hj, h⟩ := h
  exact ⟨j, es, h.src, by omega, hx, h0, by omega, fun d hd => q d _ hd ⟨j + 1, by omega, h.draw⟩ fun a u n e => by rw [gup_ne n]; exact e⟩
theorem KpB.fin {T : List (Addr × Str)} {K : PySem.W.Frag} {DQ : DK} {d : D} (h : KpB G s b G1) (hb : b ≤ c) (q : DQ d (Dl.gup G s (.abs c []))) : ∃ G', RepTo (drawI T) K G1 G' ∧ DQ d G' := let ⟨j, hj, h⟩ := h; h.fin (by omega) q
theorem KpB.src (h : KpB G s b G1) : ∃ j, j ≤ b ∧ G1 s = some (.abs j []) := let ⟨j, hj, h⟩ := h; ⟨j, hj, h.src⟩
/-- behind a callee that draws -/
theorem KpB.call {j : Nat} (h : KpB G s b G1) (hj : j ≤ c) : KpB G s c (Dl.gup G1 s (.abs j [])) := let ⟨_, _, h⟩ := h; ⟨j, hj, h.draw⟩
end
/-- all that the store tells stays -/
abbrev Sb (G G1 : GH) : Prop := GSub G G1
theorem Sb.fin {Θ : AbsI} {K : PySem.W.Frag} {G G1 : GH} {DQ : DK} {d : D} (h : GSub G G1) (q : DQ d G) : ∃ G', RepTo Θ K G1 G' ∧ DQ d G' := ⟨G, RepTo.sub h, q⟩
theorem GSub.up2 {G G1 : GH} {p : Addr} {o : MO} (h : GSub G G1) (hp : G p = none) : GSub G (gup G1 p o) := fun a u e => by
  rw [gup_ne (fun z => by rw [z, hp] at e; cases e)]
  exact h a u e
theorem GSub.new2 {G G1 : GH} {p : Addr} {o : MO} (h : GSub G G1) (hp : G1 p = none) : GSub G (gup G1 p o) := fun a u e => gup_old (h a u e) hp
theorem GSub.free {G G1 : GH} {p : Addr} (h : GSub G G1) (hp : G1 p = none) : G p = none := by
  cases e : G p with
  | none => rfl
  | some u => rw [h p u e] at hp; cases hp
/-! ### comprehensions, by an invariant: the items found, the items left, the store -/
theorem dLcL_iv {chk : GH → Prop} {g : TGD} {tt : TTD} {te : TED} {vs : List Nat} {ρ : Ro} (I : List D → List D → GH → Prop) (hchk : ∀ ys r G, I ys r G → chk G) : ∀ ds : List D,
    (∀ d r ys G, d ∈ ds → r.length < ds.length → I ys (d :: r) G → ∀ R : Option D → GH → Prop, (∀ y G', I (ys ++ [y]) r G' → R (some y) G') → (∀ G', I ys r G' → R none G') →
      g d noX (wipeD ρ vs) G fun ρ2 G2 => tt noX ρ2 G2 fun b G3 => dIte b (te noX ρ2 G3 fun y G4 => R (some y) G4) (R none G3)) →
    ∀ (ys : List D) (G : GH) (Q : List D → GH → Prop), I ys ds G → (∀ zs G', I zs [] G' → ∀ ws, zs = ys ++ ws → Q ws G') → dLcL chk g tt te vs ρ ds G Q
  | [], _, ys, G, Q, h, hQ => ⟨hchk _ _ _ h, hQ ys G h [] (by simp)⟩
  | d :: r, st, ys, G, Q, h, hQ => by
    refine ⟨hchk _ _ _ h, st d r ys G List.mem_cons_self (Nat.lt_succ_self _) h (fun o G' => match o with | some y => dLcL chk g tt te vs ρ r G' fun ys G5 => Q (y :: ys) G5 | none => dLcL chk g tt te vs ρ r G' Q) ?_ ?_⟩
    · intro y G' h'
      exact dLcL_iv I hchk r (fun d r' ys G hd hr => st d r' ys G (List.mem_cons_of_mem _ hd) (Nat.lt_succ_of_lt hr)) (ys ++ [y]) G' _ h' fun zs G'' hz ws e => hQ zs G'' hz (y :: ws) (by rw [e, List.append_assoc]; rfl)
    · intro G' h'
      exact dLcL_iv I hchk r (fun d r' ys G hd hr => st d r' ys G (List.mem_cons_of_mem _ hd) (Nat.lt_succ_of_lt hr)) ys G' Q h' hQ
/-- the same without a test -/
theorem dLcL_iy {chk : GH → Prop} {g : TGD} {te : TED} {vs : List Nat} {ρ : Ro} (I : List D → List D → GH → Prop) (hchk : ∀ ys r G, I ys r G → chk G) (ds : List D)
    (st : ∀ d r ys G, d ∈ ds → r.length < ds.length → I ys (d :: r) G → ∀ R : D → GH → Prop, (∀ y G', I (ys ++ [y]) r G' → R y G') → g d noX (wipeD ρ vs) G fun ρ2 G2 => te noX ρ2 G2 R)
    (G : GH) (Q : List D → GH → Prop) (h : I [] ds G) (hQ : ∀ zs G', I zs [] G' → Q zs G') : dLcL chk g dYes te vs ρ ds G Q :=
  dLcL_iv I hchk ds (fun d r ys G hd hr h R h1 h2 => by
    have q := st d r ys G hd hr h (fun y G4 => R (some y) G4) h1
    have ee : (fun ρ2 G2 => dYes noX ρ2 G2 fun b G3 => dIte b (te noX ρ2 G3 fun y G4 => R (some y) G4) (R none G3)) = fun ρ2 G2 => te noX ρ2 G2 fun y G4 => R (some y) G4 := by
      funext ρ2 G2
      exact dIte_t
    rw [ee]
    exact q) [] G Q h fun zs G' hz ws e => by
      have : zs = ws := by simpa using e
      subst this
      exact hQ zs G' hz
/-- two clauses, all pure -/
theorem dLc2L_map {chk : GH → Prop} {g g1 : TGD} {ti1 : TID} {te : TED} {vs vs1 : List Nat} {ρ : Ro} {G : GH} (f : D → List D) (hchk : chk G) : ∀ ds : List D,
    (∀ d ∈ ds, ∀ R : List D → GH → Prop, R (f d) G → g d noX (wipeD ρ vs) G fun ρ2 G2 => ti1 noX ρ2 G2 fun ds1 chk1 G4 => ds1.length ≤ 1000 ∧ dLcL chk1 g1 dYes te vs1 ρ2 ds1 G4 R) →
    ∀ Q : List D → GH → Prop, Q (ds.flatMap f) G → dLc2L chk g dYes ti1 g1 dYes te vs vs1 ρ ds G Q
  | [], _, Q, h => ⟨hchk, h⟩
  | d :: r, st, Q, h => by
    refine ⟨hchk, ?_⟩
    have ee : ∀ (A : Ro → GH → Prop) (B : Ro → GH → Prop), (fun ρ2 G2 => dYes noX ρ2 G2 fun b G3 => dIte b (A ρ2 G3) (B ρ2 G3)) = A := fun A B => by
      funext ρ2 G2
      exact dIte_t
    rw [ee (fun ρ2 G3 => ti1 noX ρ2 G3 fun ds1 chk1 G4 => ds1.length ≤ 1000 ∧ dLcL chk1 g1 dYes te vs1 ρ2 ds1 G4 fun ys G5 => dLc2L chk g dYes ti1 g1 dYes te vs vs1 ρ r G5 fun zs G6 => Q (ys ++ zs) G6)]
    refine st d List.mem_cons_self (fun ys G5 => dLc2L chk g dYes ti1 g1 dYes te vs vs1 ρ r G5 fun zs G6 => Q (ys ++ zs) G6) ?_
    exact dLc2L_map f hchk r (fun d hd => st d (List.mem_cons_of_mem _ hd)) _ h
theorem dLc2_e {I : TID} {g g1 : TGD} {tA tB : TTD} {ti1 : TID} {te : TED} {vs vs1 : List Nat} {X : DXK} {ρ : Ro} {G : GH} {Q : DK} : dLc2 I g tA ti1 g1 tB te vs vs1 X ρ G Q = I X ρ G fun ds chk G1 => ds.length ≤ 1000 ∧ dLc2L chk g tA ti1 g1 tB te vs vs1 ρ ds G1 fun ys G2 => ∀ p, G2 p = none → Q (.ref p) (gup G2 p (.lst ys)) := rfl
theorem dLRg1_e {g1 g2 : GV} {ta : TED} {X : DXK} {ρ : Ro} {G : GH} {Q : DK} : dLRg1 g1 g2 ta X ρ G Q = (isBlt g1 = true ∧ isBlt g2 = true ∧ ta X ρ G fun x G1 => match x with
  | .int j => (-1000000 ≤ j ∧ j ≤ 1000000) ∧ ∀ p, G1 p = none → Q (.ref p) (gup G1 p (.lst (rangeD 0 j.toNat)))
  | _ => False) := rfl
theorem dLenSet_e {g1 g2 : GV} {ta : TED} {X : DXK} {ρ : Ro} {G : GH} {Q : DK} : dLenSet g1 g2 ta X ρ G Q = (isBlt g1 = true ∧ isBlt g2 = true ∧ ta X ρ G fun x G1 => ∃ ns : List Int, lstOf G1 x = some (ns.map D.int) ∧ ns.length ≤ 1000 ∧ Q (.int ((dist ns).length : Nat)) G1) := rfl
theorem rSorted_e {x : D} {G : GH} {Q : DK} : rSorted [x] G Q = (rSorted1 x G Q ∨ rSorted2 x G Q) := rfl
theorem dSrtSet_e {g1 g2 : GV} {ta : TED} {X : DXK} {ρ : Ro} {G : GH} {Q : DK} : dSrtSet g1 g2 ta X ρ G Q = (isBlt g1 = true ∧ isBlt g2 = true ∧ ta X ρ G fun x G1 => ∃ ns : List Int, lstOf G1 x = some (ns.map D.int) ∧ ns.length < 64 ∧
  ∀ (ms : List Int) (p : Addr), ms.Pairwise (· < ·) → (∀ k, k ∈ ms ↔ k ∈ ns) → ms.length ≤ ns.length → G1 p = none → Q (.ref p) (gup G1 p (.lst (ms.map D.int)))) := rfl
theorem iEn_tup {ds : List D} {G : GH} {R : List D → (GH → Prop) → GH → Prop} : iEn [.tup ds] G R = R (enumD 0 ds) (fun _ => True) G := rfl
theorem dRev_e {ta : TED} {X : DXK} {ρ : Ro} {G : GH} {Q : DK} : dRev ta X ρ G Q = ta X ρ G fun x G1 => ∃ ds, lstOf G1 x = some ds ∧ ∀ p, G1 p = none → Q (.ref p) (gup G1 p (.lst ds.reverse)) := rfl
/-! ### sequences -/
theorem iSeq_of {x : D} {G : GH} {ds : List D} {R : List D → (GH → Prop) → GH → Prop} (h : seqOf G x = some ds) (q : ∀ chk : GH → Prop, (∀ G', seqOf G' x = some ds → chk G') → R ds chk G) : iSeq x G R := by
  cases x with
  | tup es =>
    simp only [seqOf, Option.some.injEq] at h
    subst h
    exact q _ fun _ _ => trivial
  | ref a =>
    have h' : lstOf G (.ref a) = some ds := h
    rw [iSeq_lst h']
    exact q _ fun G' h => h
  | _ => simp [seqOf] at h
theorem seq_tup {G : GH} {ds : List D} : seqOf G (.tup ds) = some ds := rfl
theorem seq_lst {G : GH} {p : Addr} {ds : List D} (h : G p = some (.lst ds)) : seqOf G (.ref p) = some ds := lst_of h
theorem seq_keep {G G1 : GH} {x : D} {ds : List D} (h : seqOf G x = some ds) (hk : ∀ a es, G a = some (.lst es) ∨ G a = some (.fro es) → G1 a = G a) : seqOf G1 x = some ds := by
  cases x with
  | ref a =>
    cases e : G a with
    | none => simp [seqOf, e] at h
    | some mo =>
      cases mo with
      | lst es =>
        have := hk a es (.inl e)
        simp only [seqOf, this, e] at h ⊢
        exact h
      | fro es =>
        have := hk a es (.inr e)
        simp only [seqOf, this, e] at h ⊢
        exact h
      | _ => simp [seqOf, e] at h
  | _ => exact h
theorem seq_sub {G G1 : GH} {x : D} {ds : List D} (h : seqOf G x = some ds) (hs : GSub G G1) : seqOf G1 x = some ds := seq_keep h fun a es e => by
  rcases e with e | e <;> rw [hs _ _ e, e]
theorem seq_kp {G G1 : GH} {x : D} {ds : List D} {s : Addr} {k k0 : Nat} (h : seqOf G x = some ds) (hs : Kp G s k G1) (h0 : G s = some (.abs k0 [])) : seqOf G1 x = some ds := seq_keep h fun a es e => by
  have n : a ≠ s := fun z => by rw [z, h0] at e; rcases e with e | e <;> cases e
  rcases e with e | e <;> rw [hs.keep _ _ n e, e]
/-! ### items by place -/
theorem at_int {ds : List D} {i : Int} {d : D} (h0 : 0 ≤ i) (h : ds[i.toNat]? = some d) : atI ds i = some d := by
  obtain ⟨j, rfl⟩ : ∃ j : Nat, i = j := ⟨i.toNat, by omega⟩
  have hl := (List.getElem?_eq_some_iff.mp h).1
  have e : ixN ds.length (j : Int) = some j := by
    simp [ixN]
    simpa using hl
  unfold atI; rw [e]
  simpa using h
theorem rIx_ti {ds : List D} {i : Int} {d : D} {G : GH} {Q : DK} (h0 : 0 ≤ i) (h : ds[i.toNat]? = some d) (q : Q d G) : rIx (.tup ds) (.int i) G Q := by rw [rIx_t (at_int h0 h)]; exact q
theorem rIx_li {ds : List D} {i : Int} {d : D} {G : GH} {Q : DK} {p : Addr} (hp : G p = some (.lst ds)) (h0 : 0 ≤ i) (h : ds[i.toNat]? = some d) (q : Q d G) : rIx (.ref p) (.int i) G Q := by rw [ix_lst hp (at_int h0 h)]; exact q
theorem range_mem' {lo : Int} {n : Nat} {d : D} (h : d ∈ rangeD lo n) : ∃ j : Nat, j < n ∧ d = .int (lo + j) := by
  obtain ⟨j, hj, rfl⟩ := List.mem_map.mp h
  exact ⟨j, List.mem_range.mp hj, rfl⟩
theorem rangeD_len {lo : Int} {n : Nat} : (rangeD lo n).length = n := by simp [rangeD]
theorem seqIx {m : Int} {n : Nat} (h0 : 0 ≤ m) (h1 : m < n) : seqIndex? m n = some m.toNat := by
  have : ixN n m = some m.toNat := by unfold ixN; rw [if_pos h0, if_pos h1]
  exact (ixN_seq this).1
theorem rPop_at {G : GH} {Q : DK} {p : Addr} {ds : List D} {i : Int} (hp : G p = some (.lst ds)) (h0 : 0 ≤ i) (h1 : i < ds.length) (h2 : ds.length ≤ 1000000) (q : ∀ d, ds[i.toNat]? = some d → Q d (gup G p (.lst (ds.eraseIdx i.toNat)))) : rPopAt (.ref p) [.int i] G Q := by
  have hi : i.toNat < ds.length := by omega
  exact ⟨ds, i.toNat, _, hp, ⟨by omega, by omega⟩, seqIx h0 h1, List.getElem?_eq_getElem hi, q _ (List.getElem?_eq_getElem hi)⟩
theorem perm_take {α : Type} : ∀ {l : List α} {i : Nat} {a : α}, l[i]? = some a → (a :: l.eraseIdx i).Perm l
  | [], _, _, h => by simp at h
  | x :: l, 0, a, h => by
    simp at h; subst h
    exact List.Perm.refl _
  | x :: l, i + 1, a, h => by
    have ih := perm_take (l := l) (i := i) (a := a) (by simpa using h)
    rw [List.eraseIdx_cons_succ]
    exact (List.Perm.swap _ _ _).trans (List.Perm.cons x ih)
/-! ### numbers -/
def numB (v : D) (low : Int) : Bool := match v with
  | .int i => decide (low ≤ i) && decide (i < 10 ^ 18)
  | _ => false
def plainV : D → Bool
  | .ref _ => false
  | .ty _ => false
  | _ => true
def sp_is_number : DSp := fun ds G Q X => match ds with
  | [v, .int low] => (kdOf G v).isSome = true ∧ Q (.bl (numB v low)) G
  | _ => False
theorem numB_t {i low : Int} (h0 : low ≤ i) (h1 : i < 10 ^ 18) : numB (.int i) low = true := by simp only [numB, Bool.and_eq_true, decide_eq_true_eq]; exact ⟨h0, h1⟩
section
variable {Θ : AbsI} {K : PySem.W.Frag} {Γ : GEnv} {CS : Addr} {G : GH} {DQ : DK} {DX : DE → GH → Prop}
theorem back {d : D} (h : DQ d G) : ∃ G', RepTo Θ K G G' ∧ DQ d G' := ⟨G, RepTo.refl, h⟩
theorem backN {d : D} {p : Addr} {o : MO} (hp : G p = none) (h : DQ d G) : ∃ G', RepTo Θ K (gup G p o) G' ∧ DQ d G' := ⟨G, RepTo.sub (GSub.new hp), h⟩
theorem spn_int {i low : Int} {Q : DK} {X : DE → GH → Prop} : sp_is_number [.int i, .int low] G Q X = Q (.bl (numB (.int i) low)) G := propext ⟨fun h => h.2, fun h => ⟨rfl, h⟩⟩
end
/-- a class of exceptions that is caught -/
structure EK (K : PySem.W.Frag) (CS C : Addr) : Prop where
  m : PySem.W.exmOne K (.ref C) (.ref CS) = some true
  e : ExcC K C
  k : PySem.W.kitOne K (.ref C) (.ref C) = some true
theorem isi_exc {K : PySem.W.Frag} {CS C p : Addr} {G : GH} {Q : DK} {fs : List (Str × D)} (h : EK K CS C) (hp : G p = some (.exc C fs)) (q : Q (.bl true) G) : rIsi K [.ref p, .ref C] G Q :=
  ⟨.ref C, true, by unfold TyD; dsimp only; rw [hp]; exact ⟨rfl, h.e⟩, h.k, q⟩
theorem rMin_ii {i j : Int} {G : GH} {Q : DK} : rMin [.int i, .int j] G Q = Q (.int (if j < i then j else i)) G := rfl
theorem rMax_ii {i j : Int} {G : GH} {Q : DK} : rMax [.int i, .int j] G Q = Q (.int (if j > i then j else i)) G := rfl
theorem dLoop_rng {chk : GH → Prop} {tg : TGD} {tb : TSD} {E : DEnds} {lo : Int} (I : Nat → Ro → GH → Prop) (n : Nat) (hc : ∀ G, chk G)
    (hs : ∀ j, j < n → ∀ J : Ro → GH → Prop, (∀ ρ G, I (j + 1) ρ G → J ρ G) → ∀ ρ G, I j ρ G → tg (.int (lo + (j : Nat))) E.ex ρ G fun ρ1 G1 => tb { E with nx := J, ct := J, bk := E.nx } ρ1 G1)
    (hd : ∀ ρ G, I n ρ G → E.nx ρ G) (ρ : Ro) (G : GH) (h : I 0 ρ G) : dLoop chk tg tb E (rangeD lo n) ρ G := by
  refine dLoop_ix (fun l ρ G => ∃ j, j ≤ n ∧ l = (rangeD lo n).drop j ∧ I j ρ G) _ (fun _ _ _ _ => hc _) ?_ ?_ _ _ ⟨0, Nat.zero_le _, by simp, h⟩
  · rintro d r hd hl J hJ ρ G ⟨j, hj, el, hi⟩
    have hj' : j < n := by
      rcases Nat.lt_or_ge j n with h | h
      · exact h
      · rw [List.drop_of_length_le (by rw [rangeD_len]; omega)] at el; cases el
    rw [List.drop_eq_getElem_cons (by rw [rangeD_len]; omega)] at el
    simp only [List.cons.injEq] at el
    obtain ⟨rfl, rfl⟩ := el
    rw [show (rangeD lo n)[j]'(by rw [rangeD_len]; omega) = .int (lo + (j : Nat)) by simp [rangeD]]
    exact hs j hj' J (fun ρ G h => hJ ρ G ⟨j + 1, hj', rfl, h⟩) ρ G hi
  · rintro ρ G ⟨j, hj, el, hi⟩
    have : j = n := by
      have := congrArg List.length el
      rw [List.length_drop, rangeD_len] at this
      simp at this
      omega
    exact hd ρ G (this ▸ hi)
/-- a loop over numbers that leaves with no as soon as a test fails -/
theorem all_next {f : Nat → Bool} {j : Nat} (h : ∀ i, i < j → f i = true) (hj : f j = true) : ∀ i, i < j + 1 → f i = true := fun i hi => by
  rcases Nat.lt_succ_iff_lt_or_eq.mp hi with hi | rfl
  · exact h i hi
  · exact hj
theorem all_yes {f : Nat → Bool} {n : Nat} (h : ∀ i, i < n → f i = true) : (List.range n).all f = true := by
  rw [List.all_eq_true]
  exact fun i hi => h i (List.mem_range.mp hi)
theorem all_no {f : Nat → Bool} {n j : Nat} (hj : j < n) (h : f j = false) : (List.range n).all f = false := by
  rw [List.all_eq_false]
  exact ⟨j, List.mem_range.mpr hj, by rw [h]; exact Bool.false_ne_true⟩
end Dl

namespace Dl
open PySem PySem.Spec PyProof.Rows L2
abbrev N_is_number : List Str := ["value", "low"]
def T_is_number (Γ : GEnv) (K : PySem.W.Frag) (CS : Addr) : TSD := (dRet (dAnd (dBc (Γ.g "isinstance") (rIsi K) (dCons (dVar 0) (dCons (dBty (Γ.g "int") "int") dNil))) (dAnd (dNot (dBc (Γ.g "isinstance") (rIsi K) (dCons (dVar 0) (dCons (dBty (Γ.g "bool") "bool") dNil)))) (dChain rLe rLt (dVar 1) (dVar 0) (dGlob (Γ.g "MOST_NUMBER"))))))
abbrev N_is_pair_of : List Str := ["value", "states"]
def T_is_pair_of (Γ : GEnv) (K : PySem.W.Frag) (CS : Addr) : TSD := (dSeq (dIfS (dTOr (dTNot (dTru (dBc (Γ.g "isinstance") (rIsi K) (dCons (dVar 0) (dCons (dBty (Γ.g "tuple") "tuple") dNil))))) (dTru (dBin rNe (dBc (Γ.g "len") rLen (dCons (dVar 0) dNil)) (dC (.int 2))))) (dRet (dC (.bl false))) dNext) (dRet (dAnd (dCall (Γ.g "is_number") (dCons (dBin rIx (dVar 0) (dC (.int 0))) (dCons (dC (.int 0)) dNil))) (dAnd (dBin rLt (dBin rIx (dVar 0) (dC (.int 0))) (dVar 1)) (dCall (Γ.g "is_number") (dCons (dBin rIx (dVar 0) (dC (.int 1))) (dCons (dC (.int 0)) dNil)))))))
abbrev N_is_table : List Str := ["value", "states", ".0", "deed", "pair"]
def T_is_table (Γ : GEnv) (K : PySem.W.Frag) (CS : Addr) : TSD := (dSeq (dIfS (dTOr (dTNot (dTru (dBc (Γ.g "isinstance") (rIsi K) (dCons (dVar 0) (dCons (dBty (Γ.g "tuple") "tuple") dNil))))) (dTNot (dTru (dChain rLe rLe (dC (.int 1)) (dBc (Γ.g "len") rLen (dCons (dVar 0) dNil)) (dGlob (Γ.g "MOST_DEEDS")))))) (dRet (dC (.bl false))) dNext) (dSeq (dIfS (dTNot (dTru (dBc (Γ.g "all") rAll (dCons (dLc (dISeq (dVar 0)) (dgName 3) dYes (dBc (Γ.g "isinstance") (rIsi K) (dCons (dVar 3) (dCons (dBty (Γ.g "tuple") "tuple") dNil))) [2, 3]) dNil)))) (dRet (dC (.bl false))) dNext) (dSeq (dAsg (dBc (Γ.g "len") rLen (dCons (dBin rIx (dVar 0) (dC (.int 0))) dNil)) (dgName 1)) (dSeq (dIfS (dTOr (dTNot (dTru (dChain rLe rLe (dC (.int 1)) (dVar 1) (dGlob (Γ.g "MOST_STATES"))))) (dTNot (dTru (dBc (Γ.g "all") rAll (dCons (dLc (dISeq (dVar 0)) (dgName 3) dYes (dBin rEq (dBc (Γ.g "len") rLen (dCons (dVar 3) dNil)) (dVar 1)) [2, 3]) dNil))))) (dRet (dC (.bl false))) dNext) (dRet (dBc (Γ.g "all") rAll (dCons (dLc2 (dISeq (dVar 0)) (dgName 3) dYes (dISeq (dVar 3)) (dgName 4) dYes (dCall (Γ.g "is_pair_of") (dCons (dVar 4) (dCons (dVar 1) dNil))) [2, 3, 4] [4]) dNil)))))))
abbrev N_need_table : List Str := ["table"]
def T_need_table (Γ : GEnv) (K : PySem.W.Frag) (CS : Addr) : TSD := (dIfS (dTNot (dTru (dCall (Γ.g "is_table") (dCons (dVar 0) dNil)))) (dRaise (Γ.g "BadTable")) dNext)
abbrev N_need_state : List Str := ["table", "state"]
def T_need_state (Γ : GEnv) (K : PySem.W.Frag) (CS : Addr) : TSD := (dIfS (dTOr (dTNot (dTru (dCall (Γ.g "is_number") (dCons (dVar 1) (dCons (dC (.int 0)) dNil))))) (dTru (dBin rGe (dVar 1) (dBc (Γ.g "len") rLen (dCons (dBin rIx (dVar 0) (dC (.int 0))) dNil))))) (dRaise (Γ.g "BadState")) dNext)
abbrev N_is_deed_of : List Str := ["table", "deed"]
def T_is_deed_of (Γ : GEnv) (K : PySem.W.Frag) (CS : Addr) : TSD := (dRet (dAnd (dCall (Γ.g "is_number") (dCons (dVar 1) (dCons (dC (.int 0)) dNil))) (dBin rLt (dVar 1) (dBc (Γ.g "len") rLen (dCons (dVar 0) dNil)))))
abbrev N_done_by : List Str := ["table", "state", "deeds", "here", "answers", "deed", "answer"]
def T_done_by (Γ : GEnv) (K : PySem.W.Frag) (CS : Addr) : TSD := (dSeq (dPar 3 4 (dCons (dVar 1) (dCons (dLst dNil) dNil))) (dSeq (dFor (dISeq (dVar 2)) (dgName 5) (dSeq (dAsg (dBin rIx (dBin rIx (dVar 0) (dVar 5)) (dVar 3)) (dgTup 2 (dgCons (dgName 3) (dgCons (dgName 6) dgNil)))) (dDrop (dLM rAppend (dVar 4) (dCons (dVar 6) dNil))))) (dRet (dTup (dCons (dVar 3) (dCons (dVar 4) dNil))))))
abbrev N_done : List Str := ["table", "state", "deeds", ".0", "deed"]
def T_done (Γ : GEnv) (K : PySem.W.Frag) (CS : Addr) : TSD := (dSeq (dDrop (dCall (Γ.g "need_table") (dCons (dVar 0) dNil))) (dSeq (dDrop (dCall (Γ.g "need_state") (dCons (dVar 0) (dCons (dVar 1) dNil)))) (dSeq (dIfS (dTOr (dTNot (dTru (dBc (Γ.g "isinstance") (rIsi K) (dCons (dVar 2) (dCons (dTup (dCons (dBty (Γ.g "list") "list") (dCons (dBty (Γ.g "tuple") "tuple") dNil))) dNil))))) (dTNot (dTru (dBc (Γ.g "all") rAll (dCons (dLc (dISeq (dVar 2)) (dgName 4) dYes (dCall (Γ.g "is_deed_of") (dCons (dVar 0) (dCons (dVar 4) dNil))) [3, 4]) dNil))))) (dRaise (Γ.g "BadDeeds")) dNext) (dRet (dCall (Γ.g "done_by") (dCons (dVar 0) (dCons (dVar 1) (dCons (dVar 2) dNil))))))))
abbrev N__law_mixed : List Str := ["state", "several", "left", "found"]
def T__law_mixed (Γ : GEnv) (K : PySem.W.Frag) (CS : Addr) : TSD := (dSeq (dPar 2 3 (dCons (dBc (Γ.g "list") rList (dCons (dVar 1) dNil)) (dCons (dLst dNil) dNil))) (dSeq (dWhile (dTru (dBin rNe (dVar 2) (dLst dNil))) (dDrop (dLM rAppend (dVar 3) (dCons (dLM rPopAt (dVar 2) (dCons (dCall (Γ.g "_law_draw") (dCons (dVar 0) (dCons (dBc (Γ.g "len") rLen (dCons (dVar 2) dNil)) dNil))) dNil)) dNil)))) (dRet (dVar 3))))
abbrev N__law_tt_looked : List Str := ["deeds", "states", "first", "found", ".0", "deed", "there", "here"]
def T__law_tt_looked (Γ : GEnv) (K : PySem.W.Frag) (CS : Addr) : TSD := (dSeq (dAsg (dLc (dISeq (dVar 0)) (dgName 5) dYes (dBc (Γ.g "tuple") rTuple (dCons (dLc (dISeq (dVar 5)) (dgName 6) dYes (dTup (dCons (dVar 6) (dCons (dC (.int 0)) dNil))) [4, 6]) dNil)) [4, 5]) (dgName 3)) (dRet (dBc (Γ.g "tuple") rTuple (dCons (dBin rAdd (dVar 3) (dLst (dCons (dBc (Γ.g "tuple") rTuple (dCons (dLc (dBi (Γ.g "range") (dIRng1 (dCons (dVar 1) dNil))) (dgName 7) dYes (dTup (dCons (dVar 7) (dCons (dBin rAdd (dVar 2) (dVar 7)) dNil))) [4, 7]) dNil)) dNil))) dNil))))
abbrev N__law_tt_small : List Str := ["state", "kind_here", "size", ".0", "here", "least", "value", "step"]
def T__law_tt_small (Γ : GEnv) (K : PySem.W.Frag) (CS : Addr) : TSD := (dSeq (dAsg (dTup (dCons (dCall (Γ.g "_law_draw") (dCons (dVar 0) (dCons (dC (.int 7)) dNil))) (dCons (dBin rAdd (dC (.int 1)) (dCall (Γ.g "_law_draw") (dCons (dVar 0) (dCons (dC (.int 4)) dNil)))) dNil))) (dgTup 2 (dgCons (dgName 1) (dgCons (dgName 2) dgNil)))) (dSeq (dIfS (dTru (dBin rEq (dVar 1) (dC (.int 0)))) (dRet (dCall (Γ.g "_law_tt_looked") (dCons (dLst (dCons (dLc (dBi (Γ.g "range") (dIRng1 (dCons (dVar 2) dNil))) (dgName 4) dYes (dBin rMod (dBin rAdd (dVar 4) (dC (.int 1))) (dVar 2)) [3, 4]) (dCons (dBin rMul (dLst (dCons (dC (.int 0)) dNil)) (dVar 2)) dNil))) (dCons (dVar 2) (dCons (dC (.int 0)) dNil))))) dNext) (dSeq (dIfS (dTru (dBin rEq (dVar 1) (dC (.int 1)))) (dRet (dCall (Γ.g "_law_tt_looked") (dCons (dLc (dBi (Γ.g "range") (dIRng1 (dCons (dVar 2) dNil))) (dgName 5) dYes (dLc (dBi (Γ.g "range") (dIRng1 (dCons (dVar 2) dNil))) (dgName 4) dYes (dBc (Γ.g "max") rMax (dCons (dVar 4) (dCons (dVar 5) dNil))) [3, 4]) [3, 5]) (dCons (dVar 2) (dCons (dC (.int 0)) dNil))))) dNext) (dSeq (dIfS (dTru (dBin rEq (dVar 1) (dC (.int 2)))) (dRet (dCall (Γ.g "_law_tt_looked") (dCons (dLst (dCons (dLc (dBi (Γ.g "range") (dIRng1 (dCons (dC (.int 4)) dNil))) (dgName 4) dYes (dBin rOr (dVar 4) (dC (.int 1))) [3, 4]) (dCons (dLc (dBi (Γ.g "range") (dIRng1 (dCons (dC (.int 4)) dNil))) (dgName 4) dYes (dBin rOr (dVar 4) (dC (.int 2))) [3, 4]) dNil))) (dCons (dC (.int 4)) (dCons (dC (.int 0)) dNil))))) dNext) (dSeq (dIfS (dTru (dBin rEq (dVar 1) (dC (.int 3)))) (dRet (dCall (Γ.g "_law_tt_looked") (dCons (dLc (dBi (Γ.g "range") (dIRng1 (dCons (dVar 2) dNil))) (dgName 6) dYes (dBin rMul (dLst (dCons (dVar 6) dNil)) (dVar 2)) [3, 6]) (dCons (dVar 2) (dCons (dC (.int 0)) dNil))))) dNext) (dSeq (dIfS (dTru (dBin rEq (dVar 1) (dC (.int 4)))) (dRet (dCall (Γ.g "_law_tt_looked") (dCons (dLc (dISeq (dLst (dCons (dC (.int 1)) (dCons (dC (.int 2)) dNil)))) (dgName 7) dYes (dLc (dBi (Γ.g "range") (dIRng1 (dCons (dBin rAdd (dVar 2) (dC (.int 1))) dNil))) (dgName 4) dYes (dBc (Γ.g "min") rMin (dCons (dBin rAdd (dVar 4) (dVar 7)) (dCons (dVar 2) dNil))) [3, 4]) [3, 7]) (dCons (dBin rAdd (dVar 2) (dC (.int 1))) (dCons (dC (.int 0)) dNil))))) dNext) (dSeq (dIfS (dTru (dBin rEq (dVar 1) (dC (.int 5)))) (dRet (dCall (Γ.g "_law_tt_looked") (dCons (dLst (dCons (dBin rMul (dLst (dCons (dC (.int 0)) dNil)) (dC (.int 4))) (dCons (dBin rMul (dLst (dCons (dC (.int 2)) dNil)) (dC (.int 4))) (dCons (dLst (dCons (dC (.int 0)) (dCons (dC (.int 0)) (dCons (dC (.int 3)) (dCons (dC (.int 3)) dNil))))) (dCons (dLst (dCons (dC (.int 1)) (dCons (dC (.int 0)) (dCons (dC (.int 3)) (dCons (dC (.int 2)) dNil))))) dNil))))) (dCons (dC (.int 4)) (dCons (dC (.int 0)) dNil))))) dNext) (dRet (dCall (Γ.g "_law_tt_looked") (dCons (dLst (dCons (dLst (dCons (dC (.int 0)) (dCons (dC (.int 0)) (dCons (dC (.int 2)) (dCons (dC (.int 2)) dNil))))) (dCons (dLst (dCons (dC (.int 1)) (dCons (dC (.int 1)) (dCons (dC (.int 3)) (dCons (dC (.int 3)) dNil))))) (dCons (dLst (dCons (dC (.int 0)) (dCons (dC (.int 1)) (dCons (dC (.int 0)) (dCons (dC (.int 1)) dNil))))) (dCons (dLst (dCons (dC (.int 2)) (dCons (dC (.int 3)) (dCons (dC (.int 2)) (dCons (dC (.int 3)) dNil))))) dNil))))) (dCons (dC (.int 4)) (dCons (dC (.int 0)) dNil))))))))))))
abbrev N__law_tt_product : List Str := ["left", "right", "more", "found", "deed", "row", "there", "answer", "here", ".0", "other"]
def T__law_tt_product (Γ : GEnv) (K : PySem.W.Frag) (CS : Addr) : TSD := (dSeq (dAsg (dTup (dCons (dBc (Γ.g "len") rLen (dCons (dBin rIx (dVar 1) (dC (.int 0))) dNil)) (dCons (dLst dNil) dNil))) (dgTup 2 (dgCons (dgName 2) (dgCons (dgName 3) dgNil)))) (dSeq (dFor (dISeq (dVar 0)) (dgName 4) (dSeq (dAsg (dLst dNil) (dgName 5)) (dSeq (dFor (dISeq (dVar 4)) (dgTup 2 (dgCons (dgName 6) (dgCons (dgName 7) dgNil))) (dAsg (dBin rAdd (dVar 5) (dLc (dBi (Γ.g "range") (dIRng1 (dCons (dVar 2) dNil))) (dgName 10) dYes (dTup (dCons (dBin rAdd (dBin rMul (dVar 6) (dVar 2)) (dVar 10)) (dCons (dVar 7) dNil))) [9, 10])) (dgName 5))) (dDrop (dLM rAppend (dVar 3) (dCons (dBc (Γ.g "tuple") rTuple (dCons (dVar 5) dNil)) dNil)))))) (dSeq (dFor (dISeq (dVar 1)) (dgName 4) (dSeq (dAsg (dLst dNil) (dgName 5)) (dSeq (dFor (dBi (Γ.g "range") (dIRng1 (dCons (dBc (Γ.g "len") rLen (dCons (dBin rIx (dVar 0) (dC (.int 0))) dNil)) dNil))) (dgName 8) (dAsg (dBin rAdd (dVar 5) (dLc (dISeq (dVar 4)) (dgTup 2 (dgCons (dgName 6) (dgCons (dgName 7) dgNil))) dYes (dTup (dCons (dBin rAdd (dBin rMul (dVar 8) (dVar 2)) (dVar 6)) (dCons (dVar 7) dNil))) [9, 6, 7])) (dgName 5))) (dDrop (dLM rAppend (dVar 3) (dCons (dBc (Γ.g "tuple") rTuple (dCons (dVar 5) dNil)) dNil)))))) (dRet (dBc (Γ.g "tuple") rTuple (dCons (dVar 3) dNil))))))
abbrev N__law_tt_renamed : List Str := ["state", "table_here", "many", "place", "found", "deed", "row", "here"]
def T__law_tt_renamed (Γ : GEnv) (K : PySem.W.Frag) (CS : Addr) : TSD := (dSeq (dAsg (dBc (Γ.g "len") rLen (dCons (dBin rIx (dVar 1) (dC (.int 0))) dNil)) (dgName 2)) (dSeq (dAsg (dCall (Γ.g "_law_mixed") (dCons (dVar 0) (dCons (dLRg1 (Γ.g "list") (Γ.g "range") (dVar 2)) dNil))) (dgName 3)) (dSeq (dAsg (dLst dNil) (dgName 4)) (dSeq (dFor (dISeq (dCall (Γ.g "_law_mixed") (dCons (dVar 0) (dCons (dVar 1) dNil)))) (dgName 5) (dSeq (dAsg (dBin rMul (dLst (dCons (dC .non) dNil)) (dVar 2)) (dgName 6)) (dSeq (dFor (dBi (Γ.g "range") (dIRng1 (dCons (dVar 2) dNil))) (dgName 7) (dAsg (dTup (dCons (dBin rIx (dVar 3) (dBin rIx (dBin rIx (dVar 5) (dVar 7)) (dC (.int 0)))) (dCons (dBin rIx (dBin rIx (dVar 5) (dVar 7)) (dC (.int 1))) dNil))) (dgSub (dVar 6) (dBin rIx (dVar 3) (dVar 7)) rSet))) (dDrop (dLM rAppend (dVar 4) (dCons (dBc (Γ.g "tuple") rTuple (dCons (dVar 6) dNil)) dNil)))))) (dRet (dBc (Γ.g "tuple") rTuple (dCons (dVar 4) dNil)))))))
abbrev N__law_tt_served : List Str := ["state", "most", "found", "other", ".0", "here"]
def T__law_tt_served (Γ : GEnv) (K : PySem.W.Frag) (CS : Addr) : TSD := (dSeq (dAsg (dCall (Γ.g "_law_tt_small") (dCons (dVar 0) dNil)) (dgName 2)) (dSeq (dIfS (dTru (dBin rEq (dCall (Γ.g "_law_draw") (dCons (dVar 0) (dCons (dC (.int 2)) dNil))) (dC (.int 0)))) (dSeq (dAsg (dCall (Γ.g "_law_tt_small") (dCons (dVar 0) dNil)) (dgName 3)) (dIfS (dTAnd (dTru (dBin rLe (dBin rMul (dBc (Γ.g "len") rLen (dCons (dBin rIx (dVar 2) (dC (.int 0))) dNil)) (dBc (Γ.g "len") rLen (dCons (dBin rIx (dVar 3) (dC (.int 0))) dNil))) (dVar 1))) (dTru (dBin rLt (dBin rAdd (dBc (Γ.g "len") rLen (dCons (dVar 2) dNil)) (dBc (Γ.g "len") rLen (dCons (dVar 3) dNil))) (dC (.int 9))))) (dAsg (dCall (Γ.g "_law_tt_product") (dCons (dVar 2) (dCons (dVar 3) dNil))) (dgName 2)) dNext)) dNext) (dSeq (dIfS (dTru (dBin rEq (dCall (Γ.g "_law_draw") (dCons (dVar 0) (dCons (dC (.int 3)) dNil))) (dC (.int 0)))) (dAsg (dBin rAdd (dVar 2) (dTup (dCons (dBc (Γ.g "tuple") rTuple (dCons (dLc (dBi (Γ.g "range") (dIRng1 (dCons (dBc (Γ.g "len") rLen (dCons (dBin rIx (dVar 2) (dC (.int 0))) dNil)) dNil))) (dgName 5) dYes (dTup (dCons (dVar 5) (dCons (dC (.int 7)) dNil))) [4, 5]) dNil)) dNil))) (dgName 2)) dNext) (dSeq (dIfS (dTru (dBin rEq (dCall (Γ.g "_law_draw") (dCons (dVar 0) (dCons (dC (.int 3)) dNil))) (dC (.int 0)))) (dAsg (dBin rAdd (dVar 2) (dTup (dCons (dCall (Γ.g "_law_pick") (dCons (dVar 0) (dCons (dVar 2) dNil))) dNil))) (dgName 2)) dNext) (dRet (dCall (Γ.g "_law_tt_renamed") (dCons (dVar 0) (dCons (dVar 2) dNil))))))))
abbrev N__law_tt_random : List Str := ["state", "states_here", "many", "answers_here", "found", "turn", "row", ".0", "here"]
def T__law_tt_random (Γ : GEnv) (K : PySem.W.Frag) (CS : Addr) : TSD := (dSeq (dAsg (dTup (dCons (dBin rAdd (dC (.int 1)) (dCall (Γ.g "_law_draw") (dCons (dVar 0) (dCons (dC (.int 5)) dNil)))) (dCons (dBin rAdd (dC (.int 1)) (dCall (Γ.g "_law_draw") (dCons (dVar 0) (dCons (dC (.int 3)) dNil)))) dNil))) (dgTup 2 (dgCons (dgName 1) (dgCons (dgName 2) dgNil)))) (dSeq (dAsg (dTup (dCons (dBin rAdd (dC (.int 1)) (dCall (Γ.g "_law_draw") (dCons (dVar 0) (dCons (dC (.int 3)) dNil)))) (dCons (dLst dNil) dNil))) (dgTup 2 (dgCons (dgName 3) (dgCons (dgName 4) dgNil)))) (dSeq (dFor (dBi (Γ.g "range") (dIRng1 (dCons (dVar 2) dNil))) (dgName 5) (dSeq (dAsg (dLc (dBi (Γ.g "range") (dIRng1 (dCons (dVar 1) dNil))) (dgName 8) dYes (dTup (dCons (dCall (Γ.g "_law_draw") (dCons (dVar 0) (dCons (dVar 1) dNil))) (dCons (dCall (Γ.g "_law_draw") (dCons (dVar 0) (dCons (dVar 3) dNil))) dNil))) [7, 8]) (dgName 6)) (dDrop (dLM rAppend (dVar 4) (dCons (dBc (Γ.g "tuple") rTuple (dCons (dVar 6) dNil)) dNil))))) (dRet (dBc (Γ.g "tuple") rTuple (dCons (dVar 4) dNil))))))
abbrev N__law_tt_wild : List Str := ["state", "kind_here", "size", "deeds", ".0", "value", "here", "step", "kept", "deed"]
def T__law_tt_wild (Γ : GEnv) (K : PySem.W.Frag) (CS : Addr) : TSD := (dSeq (dAsg (dTup (dCons (dCall (Γ.g "_law_draw") (dCons (dVar 0) (dCons (dC (.int 9)) dNil))) (dCons (dBin rAdd (dC (.int 2)) (dCall (Γ.g "_law_draw") (dCons (dVar 0) (dCons (dC (.int 3)) dNil)))) dNil))) (dgTup 2 (dgCons (dgName 1) (dgCons (dgName 2) dgNil)))) (dSeq (dIfS (dTru (dBin rEq (dVar 1) (dC (.int 0)))) (dAsg (dLc (dBi (Γ.g "range") (dIRng1 (dCons (dVar 2) dNil))) (dgName 5) dYes (dBc (Γ.g "tuple") rTuple (dCons (dLc (dBi (Γ.g "range") (dIRng1 (dCons (dVar 2) dNil))) (dgName 6) dYes (dTup (dCons (dVar 5) (dCons (dVar 6) dNil))) [4, 6]) dNil)) [4, 5]) (dgName 3)) (dIfS (dTru (dBin rEq (dVar 1) (dC (.int 1)))) (dAsg (dLc (dBi (Γ.g "range") (dIRng1 (dCons (dC (.int 2)) dNil))) (dgName 5) dYes (dBc (Γ.g "tuple") rTuple (dCons (dLc (dBi (Γ.g "range") (dIRng1 (dCons (dC (.int 3)) dNil))) (dgName 6) dYes (dTup (dCons (dIf (dTru (dBin rEq (dVar 6) (dC (.int 0)))) (dBin rAdd (dVar 5) (dC (.int 1))) (dVar 6)) (dCons (dVar 6) dNil))) [4, 6]) dNil)) [4, 5]) (dgName 3)) (dIfS (dTru (dBin rEq (dVar 1) (dC (.int 2)))) (dAsg (dLc (dISeq (dLst (dCons (dC (.int 1)) (dCons (dC (.int 2)) dNil)))) (dgName 7) dYes (dBc (Γ.g "tuple") rTuple (dCons (dLc (dBi (Γ.g "range") (dIRng1 (dCons (dVar 2) dNil))) (dgName 6) dYes (dTup (dCons (dBin rMod (dBin rAdd (dVar 6) (dVar 7)) (dVar 2)) (dCons (dVar 6) dNil))) [4, 6]) dNil)) [4, 7]) (dgName 3)) (dIfS (dTru (dBin rEq (dVar 1) (dC (.int 3)))) (dSeq (dAsg (dLst (dCons (dBc (Γ.g "tuple") rTuple (dCons (dLc (dBi (Γ.g "range") (dIRng1 (dCons (dVar 2) dNil))) (dgName 6) dYes (dTup (dCons (dBc (Γ.g "max") rMax (dCons (dBin rSub (dVar 6) (dC (.int 1))) (dCons (dC (.int 0)) dNil))) (dCons (dBc (Γ.g "min") rMin (dCons (dVar 6) (dCons (dC (.int 1)) dNil))) dNil))) [4, 6]) dNil)) dNil)) (dgName 3)) (dDrop (dLM rAppend (dVar 3) (dCons (dBc (Γ.g "tuple") rTuple (dCons (dLc (dBi (Γ.g "range") (dIRng1 (dCons (dVar 2) dNil))) (dgName 6) dYes (dTup (dCons (dBc (Γ.g "min") rMin (dCons (dBin rAdd (dVar 6) (dC (.int 1))) (dCons (dBin rSub (dVar 2) (dC (.int 1))) dNil))) (dCons (dC (.int 0)) dNil))) [4, 6]) dNil)) dNil)))) (dIfS (dTru (dBin rEq (dVar 1) (dC (.int 4)))) (dAsg (dLst (dCons (dBin rAdd (dBin rMul (dTup (dCons (dTup (dCons (dC (.int 0)) (dCons (dC (.int 0)) dNil))) dNil)) (dC (.int 2))) (dTup (dCons (dTup (dCons (dC (.int 3)) (dCons (dC (.int 0)) dNil))) (dCons (dTup (dCons (dC (.int 2)) (dCons (dC (.int 0)) dNil))) dNil)))) (dCons (dBin rAdd (dBin rMul (dTup (dCons (dTup (dCons (dC (.int 1)) (dCons (dC (.int 0)) dNil))) dNil)) (dC (.int 2))) (dTup (dCons (dTup (dCons (dC (.int 2)) (dCons (dC (.int 0)) dNil))) (dCons (dTup (dCons (dC (.int 2)) (dCons (dC (.int 0)) dNil))) dNil)))) (dCons (dTup (dCons (dTup (dCons (dC (.int 0)) (dCons (dC (.int 0)) dNil))) (dCons (dTup (dCons (dC (.int 0)) (dCons (dC (.int 0)) dNil))) (dCons (dTup (dCons (dC (.int 2)) (dCons (dC (.int 0)) dNil))) (dCons (dTup (dCons (dC (.int 3)) (dCons (dC (.int 0)) dNil))) dNil))))) dNil)))) (dgName 3)) (dIfS (dTru (dBin rEq (dVar 1) (dC (.int 5)))) (dAsg (dLc (dISeq (dLst (dCons (dC (.int 0)) (dCons (dC (.int 1)) dNil)))) (dgName 8) dYes (dBc (Γ.g "tuple") rTuple (dCons (dLc (dBi (Γ.g "range") (dIRng1 (dCons (dC (.int 3)) dNil))) (dgName 6) dYes (dTup (dCons (dBin rMod (dBin rAdd (dVar 6) (dC (.int 1))) (dC (.int 3))) (dCons (dBin rMul (dVar 6) (dVar 8)) dNil))) [4, 6]) dNil)) [4, 8]) (dgName 3)) (dIfS (dTru (dBin rEq (dVar 1) (dC (.int 6)))) (dAsg (dLst (dCons (dTup (dCons (dTup (dCons (dC (.int 1)) (dCons (dC (.int 0)) dNil))) (dCons (dTup (dCons (dC (.int 0)) (dCons (dC (.int 0)) dNil))) (dCons (dTup (dCons (dC (.int 3)) (dCons (dC (.int 0)) dNil))) (dCons (dTup (dCons (dC (.int 2)) (dCons (dC (.int 0)) dNil))) dNil))))) (dCons (dTup (dCons (dTup (dCons (dC (.int 2)) (dCons (dC (.int 0)) dNil))) (dCons (dTup (dCons (dC (.int 3)) (dCons (dC (.int 1)) dNil))) (dCons (dTup (dCons (dC (.int 0)) (dCons (dC (.int 0)) dNil))) (dCons (dTup (dCons (dC (.int 1)) (dCons (dC (.int 1)) dNil))) dNil))))) dNil))) (dgName 3)) (dIfS (dTru (dBin rEq (dVar 1) (dC (.int 7)))) (dSeq (dAsg (dBin rAdd (dBc (Γ.g "list") rList (dCons (dCall (Γ.g "_law_tt_small") (dCons (dVar 0) dNil)) dNil)) (dLst (dCons (dBin rMul (dCall (Γ.g "_law_pick") (dCons (dVar 0) (dCons (dLst (dCons (dTup (dCons (dTup (dCons (dC (.int 0)) (dCons (dC (.int 0)) dNil))) dNil)) (dCons (dTup (dCons (dTup (dCons (dC (.int 0)) (dCons (dC (.int 1)) dNil))) dNil)) dNil))) dNil))) (dC (.int 30))) dNil))) (dgName 3)) (dAsg (dLc (dISeq (dVar 3)) (dgName 9) dYes (dSlice (dVar 9) dNoPart (dPart (dBc (Γ.g "len") rLen (dCons (dBin rIx (dVar 3) (dC (.int 0))) dNil)))) [4, 9]) (dgName 3))) (dAsg (dBc (Γ.g "list") rList (dCons (dCall (Γ.g "_law_tt_random") (dCons (dVar 0) dNil)) dNil)) (dgName 3)))))))))) (dSeq (dIfS (dTru (dBin rGt (dCall (Γ.g "_law_draw") (dCons (dVar 0) (dCons (dC (.int 4)) dNil))) (dC (.int 0)))) (dDrop (dLM rAppend (dVar 3) (dCons (dBc (Γ.g "tuple") rTuple (dCons (dLc (dBi (Γ.g "range") (dIRng1 (dCons (dBc (Γ.g "len") rLen (dCons (dBin rIx (dVar 3) (dC (.int 0))) dNil)) dNil))) (dgName 6) dYes (dTup (dCons (dVar 6) (dCons (dVar 6) dNil))) [4, 6]) dNil)) dNil))) dNext) (dRet (dCall (Γ.g "_law_tt_renamed") (dCons (dVar 0) (dCons (dBc (Γ.g "tuple") rTuple (dCons (dVar 3) dNil)) dNil)))))))
abbrev N__law_tt_any : List Str := ["state", "most"]
def T__law_tt_any (Γ : GEnv) (K : PySem.W.Frag) (CS : Addr) : TSD := (dRet (dIf (dTru (dBin rEq (dCall (Γ.g "_law_draw") (dCons (dVar 0) (dCons (dC (.int 2)) dNil))) (dC (.int 0)))) (dCall (Γ.g "_law_tt_served") (dCons (dVar 0) (dCons (dVar 1) dNil))) (dCall (Γ.g "_law_tt_wild") (dCons (dVar 0) dNil))))
abbrev N__law_tt_run : List Str := ["table_here", "begin", "deeds", "here", "answers", "deed"]
def T__law_tt_run (Γ : GEnv) (K : PySem.W.Frag) (CS : Addr) : TSD := (dSeq (dPar 3 4 (dCons (dVar 1) (dCons (dLst dNil) dNil))) (dSeq (dFor (dISeq (dVar 2)) (dgName 5) (dSeq (dDrop (dLM rAppend (dVar 4) (dCons (dBin rIx (dBin rIx (dBin rIx (dVar 0) (dVar 5)) (dVar 3)) (dC (.int 1))) dNil))) (dAsg (dBin rIx (dBin rIx (dBin rIx (dVar 0) (dVar 5)) (dVar 3)) (dC (.int 0))) (dgName 3)))) (dRet (dTup (dCons (dVar 3) (dCons (dVar 4) dNil))))))
abbrev N__law_tt_great : List Str := ["state", "states_here", "many", "answers_here", "found", "turn", "row", ".0", "here"]
def T__law_tt_great (Γ : GEnv) (K : PySem.W.Frag) (CS : Addr) : TSD := (dSeq (dAsg (dTup (dCons (dCall (Γ.g "_law_pick") (dCons (dVar 0) (dCons (dLst (dCons (dC (.int 30)) (dCons (dC (.int 29)) (dCons (dBin rAdd (dC (.int 1)) (dCall (Γ.g "_law_draw") (dCons (dVar 0) (dCons (dC (.int 30)) dNil)))) dNil)))) dNil))) (dCons (dCall (Γ.g "_law_pick") (dCons (dVar 0) (dCons (dLst (dCons (dC (.int 12)) (dCons (dC (.int 1)) (dCons (dC (.int 3)) dNil)))) dNil))) dNil))) (dgTup 2 (dgCons (dgName 1) (dgCons (dgName 2) dgNil)))) (dSeq (dAsg (dTup (dCons (dLst (dCons (dC (.int 0)) (dCons (dC (.int 1)) (dCons (dCall (Γ.g "_law_draw") (dCons (dVar 0) (dCons (dC (.int 1000)) dNil))) (dCons (dBin rSub (dBin rPow (dC (.int 10)) (dC (.int 18))) (dC (.int 1))) (dCons (dBin rAdd (dBin rPow (dC (.int 10)) (dC (.int 17))) (dC (.int 3))) dNil)))))) (dCons (dLst dNil) dNil))) (dgTup 2 (dgCons (dgName 3) (dgCons (dgName 4) dgNil)))) (dSeq (dFor (dBi (Γ.g "range") (dIRng1 (dCons (dVar 2) dNil))) (dgName 5) (dSeq (dAsg (dLc (dBi (Γ.g "range") (dIRng1 (dCons (dVar 1) dNil))) (dgName 8) dYes (dTup (dCons (dCall (Γ.g "_law_draw") (dCons (dVar 0) (dCons (dVar 1) dNil))) (dCons (dCall (Γ.g "_law_pick") (dCons (dVar 0) (dCons (dVar 3) dNil))) dNil))) [7, 8]) (dgName 6)) (dDrop (dLM rAppend (dVar 4) (dCons (dBc (Γ.g "tuple") rTuple (dCons (dVar 6) dNil)) dNil))))) (dRet (dBc (Γ.g "tuple") rTuple (dCons (dVar 4) dNil))))))
abbrev N_need_deed : List Str := ["table", "deed"]
def T_need_deed (Γ : GEnv) (K : PySem.W.Frag) (CS : Addr) : TSD := (dIfS (dTNot (dTru (dCall (Γ.g "is_deed_of") (dCons (dVar 0) (dCons (dVar 1) dNil))))) (dRaise (Γ.g "BadDeed")) dNext)
abbrev N_commute_by : List Str := ["table", "one", "other", "state", "here", "answer", "there", "reply"]
def T_commute_by (Γ : GEnv) (K : PySem.W.Frag) (CS : Addr) : TSD := (dSeq (dFor (dBi (Γ.g "range") (dIRng1 (dCons (dBc (Γ.g "len") rLen (dCons (dBin rIx (dVar 0) (dC (.int 0))) dNil)) dNil))) (dgName 3) (dSeq (dAsg (dBin rIx (dBin rIx (dVar 0) (dVar 1)) (dVar 3)) (dgTup 2 (dgCons (dgName 4) (dgCons (dgName 5) dgNil)))) (dSeq (dAsg (dBin rIx (dBin rIx (dVar 0) (dVar 2)) (dVar 3)) (dgTup 2 (dgCons (dgName 6) (dgCons (dgName 7) dgNil)))) (dIfS (dTOr (dTru (dBin rNe (dBin rIx (dBin rIx (dVar 0) (dVar 2)) (dVar 4)) (dTup (dCons (dBin rIx (dBin rIx (dBin rIx (dVar 0) (dVar 1)) (dVar 6)) (dC (.int 0))) (dCons (dVar 7) dNil))))) (dTru (dBin rNe (dBin rIx (dBin rIx (dBin rIx (dVar 0) (dVar 1)) (dVar 6)) (dC (.int 1))) (dVar 5)))) (dRet (dC (.bl false))) dNext)))) (dRet (dC (.bl true))))
abbrev N_overwrites_by : List Str := ["table", "one", "other", ".0", "state"]
def T_overwrites_by (Γ : GEnv) (K : PySem.W.Frag) (CS : Addr) : TSD := (dRet (dBc (Γ.g "all") rAll (dCons (dLc (dBi (Γ.g "range") (dIRng1 (dCons (dBc (Γ.g "len") rLen (dCons (dBin rIx (dVar 0) (dC (.int 0))) dNil)) dNil))) (dgName 4) dYes (dBin rEq (dBin rIx (dBin rIx (dVar 0) (dVar 1)) (dBin rIx (dBin rIx (dBin rIx (dVar 0) (dVar 2)) (dVar 4)) (dC (.int 0)))) (dBin rIx (dBin rIx (dVar 0) (dVar 1)) (dVar 4))) [3, 4]) dNil)))
abbrev N_commute : List Str := ["table", "one", "other"]
def T_commute (Γ : GEnv) (K : PySem.W.Frag) (CS : Addr) : TSD := (dSeq (dDrop (dCall (Γ.g "need_table") (dCons (dVar 0) dNil))) (dSeq (dDrop (dCall (Γ.g "need_deed") (dCons (dVar 0) (dCons (dVar 1) dNil)))) (dSeq (dDrop (dCall (Γ.g "need_deed") (dCons (dVar 0) (dCons (dVar 2) dNil)))) (dRet (dCall (Γ.g "commute_by") (dCons (dVar 0) (dCons (dVar 1) (dCons (dVar 2) dNil))))))))
abbrev N_overwrites : List Str := ["table", "one", "other"]
def T_overwrites (Γ : GEnv) (K : PySem.W.Frag) (CS : Addr) : TSD := (dSeq (dDrop (dCall (Γ.g "need_table") (dCons (dVar 0) dNil))) (dSeq (dDrop (dCall (Γ.g "need_deed") (dCons (dVar 0) (dCons (dVar 1) dNil)))) (dSeq (dDrop (dCall (Γ.g "need_deed") (dCons (dVar 0) (dCons (dVar 2) dNil)))) (dRet (dCall (Γ.g "overwrites_by") (dCons (dVar 0) (dCons (dVar 1) (dCons (dVar 2) dNil))))))))
end Dl

namespace Dl
open PySem PySem.Spec PyProof.Rows L2
local macro_rules
  | `(tactic| push_cast [$xs,*]) => `(tactic| simp only [↓dSeq_e, ↓dDrop_e, ↓dRet_e, ↓dRetN_e, ↓dIfS_e, ↓dgName_e, ↓dgNil_nil, ↓dgCons_cons, ↓dgTup_tup, ↓dAsg_e, ↓dPar_e, ↓dPar3_e, ↓dgSub_e, ↓dFor_e, ↓dVar_0, ↓dVar_s, ↓dC_e, ↓dBin_e, ↓dUn_e, ↓dChain_i, ↓chN_bl, ↓rt_cond, c_and, c_or, c_nand, c_self, c_self2, Int.cast_ofNat_Int, Int.reduceEq, Int.reduceLT, Int.reduceLE, Int.reduceAdd, Int.reduceSub, Int.reduceMul, Int.reduceNeg, Int.reduceNe, decide_true, decide_false, eq_self, ↓rTru_bl, ↓rTru_int, ↓rTru_non, ↓rTru_tup, ↓dTru_e, ↓dTAnd_e, ↓dTOr_e, ↓dTNot_e, ↓dAnd_e, ↓dOr_e, ↓dNot_e, ↓dIf_e, ↓dNil_e, ↓dCons_e, ↓dTup_e, ↓dLst_e, ↓dBc_e, ↓dBty_e, ↓dBi_e, ↓dGlob_con, ↓dGlob_fn, ↓dGlob_cls, ↓dGlob_exc, ↓dRaise_exc, ↓dCall_fn, ↓dCall_cls, ↓dCallK_fn, ↓dNoPart_e, ↓dPart_i, ↓pPart_int, ↓dSlice_e, ↓rSl_tup, ↓dISeq_i, ↓dIRng1_i, ↓dIRng2_i, ↓dIZip_i, ↓dIEnum_i, ↓dFld_i, ↓dFldSet_i, ↓dMeth_i, ↓dMethK_i, ↓iSeq_tup, ↓iR1_int, ↓iR2_int, ↓iZp_tup, ↓dLM_e, ↓dNext_e, ↓dBreak_e, ↓dCont_e, ↓dDisp_e, ↓dPairs_n, ↓dPairs_c, ↓dYes_e, ↓dLc_e, ↓arg0_nil, ↓arg1_one, ↓arg2_two, ↓arg3_three, ↓isBlt_b, startD, ↓dIte_t, ↓dIte_f, ↓rAdd_ii, ↓rSub_ii, ↓rMul_ii, ↓rFdiv_ii, ↓rMod_ii, ↓rPow_ii, ↓rIAdd_ii, ↓rISub_ii, ↓rNeg_i, ↓rLt_ii, ↓rLe_ii, ↓rGt_ii, ↓rGe_ii, ↓rEq_ii, ↓rEq_ss, ↓rEq_bb, ↓rNe_ii, ↓rNe_ss, ↓rInt_i, ↓rAbs_i, ↓rLen_t, ↓rIxt0, ↓rIxt1, ↓rIxt2, ↓rIxt3, ↓rIxt4, ↓rIxt5, ↓rIxt6, ↓rIxt7, ↓isi_non_int, ↓isi_non_bool, ↓isi_non_str, ↓isi_non_list, ↓isi_non_tuple, ↓isi_non_dict, ↓isi_bl_int, ↓isi_bl_bool, ↓isi_bl_str, ↓isi_bl_list, ↓isi_bl_tuple, ↓isi_bl_dict, ↓isi_int_int, ↓isi_int_bool, ↓isi_int_str, ↓isi_int_list, ↓isi_int_tuple, ↓isi_int_dict, ↓isi_str_int, ↓isi_str_bool, ↓isi_str_str, ↓isi_str_list, ↓isi_str_tuple, ↓isi_str_dict, ↓isi_tup_int, ↓isi_tup_bool, ↓isi_tup_str, ↓isi_tup_list, ↓isi_tup_tuple, ↓isi_tup_dict, List.map_cons, List.map_nil, List.length_cons, List.length_nil, List.cons_append, List.nil_append, List.getElem?_cons_zero, List.getElem?_cons_succ, List.set_cons_zero, List.set_cons_succ, List.replicate_succ, List.replicate_zero, Int.reduceToNat, Nat.reduceSub, Nat.reduceAdd, true_and, and_true, Bool.not_true, Bool.not_false, Bool.true_and, Bool.and_true, Bool.false_and, Bool.and_false, Bool.false_or, Bool.or_false, Bool.true_or, Bool.or_true, Bool.not_not, ↓dLc2_e, ↓dLRg1_e, ↓dRev_e, ↓dLenSet_e, ↓rSorted_e, ↓dSrtSet_e, ↓iEn_tup, ↓rMul_ii, ↓rMul_ti, size_lit, str_inj, String.reduceEq, Nat.reduceLeDiff, Nat.reducePow, Int.reducePow, $xs,*])
/-! ### tables -/
abbrev pairD (p : Int × Int) : D := .tup [.int p.1, .int p.2]
abbrev rowD (r : List (Int × Int)) : D := .tup (r.map pairD)
abbrev Tbl := List (List (Int × Int))
abbrev td (t : Tbl) : D := .tup (t.map rowD)
structure TabOk (t : Tbl) (n : Nat) : Prop where
  l1 : 1 ≤ t.length
  l2 : t.length ≤ 12
  n1 : 1 ≤ n
  n2 : n ≤ 30
  row : ∀ r ∈ t, r.length = n
  cell : ∀ r ∈ t, ∀ p ∈ r, 0 ≤ p.1 ∧ p.1 < n ∧ 0 ≤ p.2 ∧ p.2 < 10 ^ 18
def rowAt (t : Tbl) (d : Int) : List (Int × Int) := t.getD d.toNat []
def cellAt (t : Tbl) (d s : Int) : Int × Int := (rowAt t d).getD s.toNat (0, 0)
section
variable {t : Tbl} {n : Nat} {G : GH} {Q : DK} {d s : Int}
theorem rowAt_mem (h0 : 0 ≤ d) (h1 : d < t.length) : rowAt t d ∈ t ∧ t[d.toNat]? = some (rowAt t d) := by
  have : d.toNat < t.length := by omega
  unfold rowAt
  rw [List.getD_eq_getElem?_getD, List.getElem?_eq_getElem this]
  exact ⟨List.getElem_mem _, rfl⟩
theorem TabOk.rowlen (h : TabOk t n) (h0 : 0 ≤ d) (h1 : d < t.length) : (rowAt t d).length = n := h.row _ (rowAt_mem h0 h1).1
theorem cellAt_mem (h : TabOk t n) (h0 : 0 ≤ d) (h1 : d < t.length) (s0 : 0 ≤ s) (s1 : s < n) : cellAt t d s ∈ rowAt t d ∧ (rowAt t d)[s.toNat]? = some (cellAt t d s) := by
  have : s.toNat < (rowAt t d).length := by rw [h.rowlen h0 h1]; omega
  unfold cellAt
  rw [List.getD_eq_getElem?_getD, List.getElem?_eq_getElem this]
  exact ⟨List.getElem_mem _, rfl⟩
theorem TabOk.at (h : TabOk t n) (h0 : 0 ≤ d) (h1 : d < t.length) (s0 : 0 ≤ s) (s1 : s < n) : 0 ≤ (cellAt t d s).1 ∧ (cellAt t d s).1 < n ∧ 0 ≤ (cellAt t d s).2 ∧ (cellAt t d s).2 < 10 ^ 18 :=
  h.cell _ (rowAt_mem h0 h1).1 _ (cellAt_mem h h0 h1 s0 s1).1
theorem ix_td (h0 : 0 ≤ d) (h1 : d < t.length) : rIx (td t) (.int d) G Q = Q (rowD (rowAt t d)) G :=
  rIx_t (at_int h0 (by rw [List.getElem?_map, (rowAt_mem h0 h1).2]; rfl))
theorem ix_row (h : TabOk t n) (h0 : 0 ≤ d) (h1 : d < t.length) (s0 : 0 ≤ s) (s1 : s < n) : rIx (rowD (rowAt t d)) (.int s) G Q = Q (pairD (cellAt t d s)) G :=
  rIx_t (at_int s0 (by rw [List.getElem?_map, (cellAt_mem h h0 h1 s0 s1).2]; rfl))
end
section
variable {Θ : AbsI} {K : PySem.W.Frag} {Γ : GEnv} {CS : Addr} {G : GH} {DQ : DK} {DX : DE → GH → Prop}
theorem p_is_number (h1 : Γ.g "isinstance" = .blt) (h2 : Γ.g "int" = .blt) (h3 : Γ.g "bool" = .blt) (h4 : Γ.g "MOST_NUMBER" = .con (.int (10 ^ 18))) {v : D} {low : Int} (h : sp_is_number [v, .int low] G DQ DX) :
    T_is_number Γ K CS (dEnds Θ K DQ DX) (startD N_is_number [v, .int low]) G := by
  obtain ⟨hv, h⟩ := h
  cases v with
  | ref a =>
    show T_is_number Γ K CS _ [some (.ref a), some (.int low)] G
    unfold T_is_number
    have e : rIsi K [.ref a, .ty "int"] G = fun Q => Q (.bl false) G := by
      funext Q
      simp only [kdOf] at hv
      cases q : G a with
      | none => rw [q] at hv; cases hv
      | some mo =>
        cases mo with
        | lst ds => exact isi_lst_int q
        | fro ds => exact isi_fro_int q
        | dct ds => exact isi_dct_int q
        | _ => rw [q] at hv; cases hv
    push_cast [↓isBlt_h h1, ↓isBlt_h h2, ↓isBlt_h h3, ↓dGlob_c h4, ↓e]
    exact back h
  | ty a => cases hv
  | int i =>
    simp only [T_is_number, N_is_number, ↓dSeq_e, ↓dDrop_e, ↓dRet_e, ↓dRetN_e, ↓dIfS_e, ↓dgName_e, ↓dgNil_nil, ↓dgCons_cons, ↓dgTup_tup, ↓dAsg_e, ↓dPar_e, ↓dPar3_e, ↓dgSub_e, ↓dFor_e, ↓dVar_0, ↓dVar_s, ↓dC_e, ↓dBin_e, ↓dUn_e, ↓dChain_i, ↓chN_bl, ↓rt_cond, c_and, c_or, c_nand, c_self, c_self2, Int.cast_ofNat_Int, Int.reduceEq, Int.reduceLT, Int.reduceLE, Int.reduceAdd, Int.reduceSub, Int.reduceMul, Int.reduceNeg, Int.reduceNe, decide_true, decide_false, eq_self, ↓rTru_bl, ↓rTru_int, ↓rTru_non, ↓rTru_tup, ↓dTru_e, ↓dTAnd_e, ↓dTOr_e, ↓dTNot_e, ↓dAnd_e, ↓dOr_e, ↓dNot_e, ↓dIf_e, ↓dNil_e, ↓dCons_e, ↓dTup_e, ↓dLst_e, ↓dBc_e, ↓dBty_e, ↓dBi_e, ↓dGlob_con, ↓dGlob_fn, ↓dGlob_cls, ↓dGlob_exc, ↓dRaise_exc, ↓dCall_fn, ↓dCall_cls, ↓dCallK_fn, ↓dNoPart_e, ↓dPart_i, ↓pPart_int, ↓dSlice_e, ↓rSl_tup, ↓dISeq_i, ↓dIRng1_i, ↓dIRng2_i, ↓dIZip_i, ↓dIEnum_i, ↓dFld_i, ↓dFldSet_i, ↓dMeth_i, ↓dMethK_i, ↓iSeq_tup, ↓iR1_int, ↓iR2_int, ↓iZp_tup, ↓dLM_e, ↓dNext_e, ↓dBreak_e, ↓dCont_e, ↓dDisp_e, ↓dPairs_n, ↓dPairs_c, ↓dYes_e, ↓dLc_e, ↓arg0_nil, ↓arg1_one, ↓arg2_two, ↓arg3_three, ↓isBlt_b, startD, ↓dIte_t, ↓dIte_f, ↓rAdd_ii, ↓rSub_ii, ↓rMul_ii, ↓rFdiv_ii, ↓rMod_ii, ↓rPow_ii, ↓rIAdd_ii, ↓rISub_ii, ↓rNeg_i, ↓rLt_ii, ↓rLe_ii, ↓rGt_ii, ↓rGe_ii, ↓rEq_ii, ↓rEq_ss, ↓rEq_bb, ↓rNe_ii, ↓rNe_ss, ↓rInt_i, ↓rAbs_i, ↓rLen_t, ↓rIxt0, ↓rIxt1, ↓rIxt2, ↓rIxt3, ↓rIxt4, ↓rIxt5, ↓rIxt6, ↓rIxt7, ↓isi_non_int, ↓isi_non_bool, ↓isi_non_str, ↓isi_non_list, ↓isi_non_tuple, ↓isi_non_dict, ↓isi_bl_int, ↓isi_bl_bool, ↓isi_bl_str, ↓isi_bl_list, ↓isi_bl_tuple, ↓isi_bl_dict, ↓isi_int_int, ↓isi_int_bool, ↓isi_int_str, ↓isi_int_list, ↓isi_int_tuple, ↓isi_int_dict, ↓isi_str_int, ↓isi_str_bool, ↓isi_str_str, ↓isi_str_list, ↓isi_str_tuple, ↓isi_str_dict, ↓isi_tup_int, ↓isi_tup_bool, ↓isi_tup_str, ↓isi_tup_list, ↓isi_tup_tuple, ↓isi_tup_dict, List.map_cons, List.map_nil, List.length_cons, List.length_nil, List.cons_append, List.nil_append, List.getElem?_cons_zero, List.getElem?_cons_succ, List.set_cons_zero, List.set_cons_succ, List.replicate_succ, List.replicate_zero, Int.reduceToNat, Nat.reduceSub, Nat.reduceAdd, true_and, and_true, Bool.not_true, Bool.not_false, Bool.true_and, Bool.and_true, Bool.false_and, Bool.and_false, Bool.false_or, Bool.or_false, Bool.true_or, Bool.or_true, Bool.not_not, h1, h2, h3, h4]
    exact back h
  | _ =>
    simp only [T_is_number, N_is_number, ↓dSeq_e, ↓dDrop_e, ↓dRet_e, ↓dRetN_e, ↓dIfS_e, ↓dgName_e, ↓dgNil_nil, ↓dgCons_cons, ↓dgTup_tup, ↓dAsg_e, ↓dPar_e, ↓dPar3_e, ↓dgSub_e, ↓dFor_e, ↓dVar_0, ↓dVar_s, ↓dC_e, ↓dBin_e, ↓dUn_e, ↓dChain_i, ↓chN_bl, ↓rt_cond, c_and, c_or, c_nand, c_self, c_self2, Int.cast_ofNat_Int, Int.reduceEq, Int.reduceLT, Int.reduceLE, Int.reduceAdd, Int.reduceSub, Int.reduceMul, Int.reduceNeg, Int.reduceNe, decide_true, decide_false, eq_self, ↓rTru_bl, ↓rTru_int, ↓rTru_non, ↓rTru_tup, ↓dTru_e, ↓dTAnd_e, ↓dTOr_e, ↓dTNot_e, ↓dAnd_e, ↓dOr_e, ↓dNot_e, ↓dIf_e, ↓dNil_e, ↓dCons_e, ↓dTup_e, ↓dLst_e, ↓dBc_e, ↓dBty_e, ↓dBi_e, ↓dGlob_con, ↓dGlob_fn, ↓dGlob_cls, ↓dGlob_exc, ↓dRaise_exc, ↓dCall_fn, ↓dCall_cls, ↓dCallK_fn, ↓dNoPart_e, ↓dPart_i, ↓pPart_int, ↓dSlice_e, ↓rSl_tup, ↓dISeq_i, ↓dIRng1_i, ↓dIRng2_i, ↓dIZip_i, ↓dIEnum_i, ↓dFld_i, ↓dFldSet_i, ↓dMeth_i, ↓dMethK_i, ↓iSeq_tup, ↓iR1_int, ↓iR2_int, ↓iZp_tup, ↓dLM_e, ↓dNext_e, ↓dBreak_e, ↓dCont_e, ↓dDisp_e, ↓dPairs_n, ↓dPairs_c, ↓dYes_e, ↓dLc_e, ↓arg0_nil, ↓arg1_one, ↓arg2_two, ↓arg3_three, ↓isBlt_b, startD, ↓dIte_t, ↓dIte_f, ↓rAdd_ii, ↓rSub_ii, ↓rMul_ii, ↓rFdiv_ii, ↓rMod_ii, ↓rPow_ii, ↓rIAdd_ii, ↓rISub_ii, ↓rNeg_i, ↓rLt_ii, ↓rLe_ii, ↓rGt_ii, ↓rGe_ii, ↓rEq_ii, ↓rEq_ss, ↓rEq_bb, ↓rNe_ii, ↓rNe_ss, ↓rInt_i, ↓rAbs_i, ↓rLen_t, ↓rIxt0, ↓rIxt1, ↓rIxt2, ↓rIxt3, ↓rIxt4, ↓rIxt5, ↓rIxt6, ↓rIxt7, ↓isi_non_int, ↓isi_non_bool, ↓isi_non_str, ↓isi_non_list, ↓isi_non_tuple, ↓isi_non_dict, ↓isi_bl_int, ↓isi_bl_bool, ↓isi_bl_str, ↓isi_bl_list, ↓isi_bl_tuple, ↓isi_bl_dict, ↓isi_int_int, ↓isi_int_bool, ↓isi_int_str, ↓isi_int_list, ↓isi_int_tuple, ↓isi_int_dict, ↓isi_str_int, ↓isi_str_bool, ↓isi_str_str, ↓isi_str_list, ↓isi_str_tuple, ↓isi_str_dict, ↓isi_tup_int, ↓isi_tup_bool, ↓isi_tup_str, ↓isi_tup_list, ↓isi_tup_tuple, ↓isi_tup_dict, List.map_cons, List.map_nil, List.length_cons, List.length_nil, List.cons_append, List.nil_append, List.getElem?_cons_zero, List.getElem?_cons_succ, List.set_cons_zero, List.set_cons_succ, List.replicate_succ, List.replicate_zero, Int.reduceToNat, Nat.reduceSub, Nat.reduceAdd, true_and, and_true, Bool.not_true, Bool.not_false, Bool.true_and, Bool.and_true, Bool.false_and, Bool.and_false, Bool.false_or, Bool.or_false, Bool.true_or, Bool.or_true, Bool.not_not, h1, h2, h3, h4, Bool.not_true]
    exact back h
def sp_pair : DSp := fun ds G Q X => ∃ (a b n : Int), ds = [.tup [.int a, .int b], .int n] ∧ (0 ≤ a ∧ a < n ∧ 0 ≤ b ∧ b < 10 ^ 18 ∧ n ≤ 10 ^ 18) ∧ Q (.bl true) G
theorem p_pair {f : Addr} (h1 : Γ.g "isinstance" = .blt) (h2 : Γ.g "tuple" = .blt) (h3 : Γ.g "len" = .blt) (h5 : Γ.g "is_number" = .fn f ["value", "low"] sp_is_number []) {a b n : Int} (h : 0 ≤ a ∧ a < n ∧ 0 ≤ b ∧ b < 10 ^ 18 ∧ n ≤ 10 ^ 18) (q : DQ (.bl true) G) :
    T_is_pair_of Γ K CS (dEnds Θ K DQ DX) (startD N_is_pair_of [.tup [.int a, .int b], .int n]) G := by
  show T_is_pair_of Γ K CS _ [some (.tup [.int a, .int b]), some (.int n)] G
  unfold T_is_pair_of
  refine dSeq_n fun N hN => ?_
  push_cast [↓isBlt_h h1, ↓isBlt_h h2, ↓isBlt_h h3]
  refine hN _ _ ?_
  clear hN N
  push_cast [↓dCall_h h5, ↓dCallK_h h5, ↓spn_int, numB_t h.1 (show a < 10 ^ 18 by omega), numB_t h.2.2.1 h.2.2.2.1, decide_eq_true h.2.1]
  exact back q
def sp_is_table : DSp := fun ds G Q X => ∃ (t : Tbl) (n : Nat), ds = [td t] ∧ TabOk t n ∧ Q (.bl true) G
theorem p_is_table {f : Addr} (h1 : Γ.g "isinstance" = .blt) (h2 : Γ.g "tuple" = .blt) (h3 : Γ.g "len" = .blt) (h4 : Γ.g "all" = .blt) (h5 : Γ.g "is_pair_of" = .fn f ["value", "states"] sp_pair []) (h6 : Γ.g "MOST_DEEDS" = .con (.int 12)) (h7 : Γ.g "MOST_STATES" = .con (.int 30))
    {t : Tbl} {n : Nat} (ok : TabOk t n) (q : DQ (.bl true) G) : T_is_table Γ K CS (dEnds Θ K DQ DX) (startD N_is_table [td t]) G := by
  show T_is_table Γ K CS _ [some (td t), none, none, none, none] G
  unfold T_is_table
  refine dSeq_n fun N hN => ?_
  have e1 : decide ((1 : Int) ≤ (t.length : Int)) = true := decide_eq_true (by have := ok.l1; omega)
  have e2 : decide ((t.length : Int) ≤ 12) = true := decide_eq_true (by have := ok.l2; omega)
  push_cast [↓isBlt_h h1, ↓isBlt_h h2, ↓isBlt_h h3, ↓dGlob_c h6, List.length_map, e1, e2]
  refine hN _ _ ?_
  clear hN N
  refine dSeq_n fun N hN => ?_
  push_cast [↓isBlt_h h4, ↓isBlt_h h1, ↓isBlt_h h2, List.length_map]
  refine ⟨size_le (by have := ok.l2; omega), dLcL_map (fun _ => .bl true) trivial _ (fun d hd R hR => ?_) _ (fun p hp => rAll_of (fun _ => true) lst_new ?_)⟩
  · obtain ⟨r, hr, rfl⟩ := List.mem_map.mp hd
    push_cast [wipeD, ↓isBlt_h h1, ↓isBlt_h h2]
    exact hR
  rw [show (t.map rowD).all (fun _ => true) = true by simp]
  push_cast []
  refine hN _ _ ?_
  clear hN N
  have sub : GSub G (gup G p (.lst ((t.map rowD).map fun _ => .bl true))) := GSub.new hp
  generalize gup G p (.lst ((t.map rowD).map fun _ => .bl true)) = G1 at sub ⊢
  refine dSeq_n fun N hN => ?_
  have l0 : (0 : Int) < t.length := by have := ok.l1; omega
  push_cast [↓isBlt_h h3, ↓ix_td (t := t) (Int.le_refl 0) l0, List.length_map, ok.rowlen (d := 0) (Int.le_refl 0) l0]
  refine hN _ _ ?_
  clear hN N
  refine dSeq_n fun N hN => ?_
  have e3 : decide ((1 : Int) ≤ (n : Int)) = true := decide_eq_true (by have := ok.n1; omega)
  have e4 : decide ((n : Int) ≤ 30) = true := decide_eq_true (by have := ok.n2; omega)
  push_cast [↓isBlt_h h4, ↓isBlt_h h3, ↓dGlob_c h7, e3, e4, List.length_map]
  refine ⟨size_le (by have := ok.l2; omega), dLcL_map (fun _ => .bl true) trivial _ (fun d hd R hR => ?_) _ (fun p hp => rAll_of (fun _ => true) lst_new ?_)⟩
  · obtain ⟨r, hr, rfl⟩ := List.mem_map.mp hd
    push_cast [wipeD, ↓isBlt_h h3, List.length_map, ok.row r hr]
    exact hR
  rw [show (t.map rowD).all (fun _ => true) = true by simp]
  push_cast []
  refine hN _ _ ?_
  clear hN N
  have sub2 : GSub G (gup G1 p (.lst ((t.map rowD).map fun _ => .bl true))) := sub.new2 hp
  generalize gup G1 p (.lst ((t.map rowD).map fun _ => .bl true)) = G2 at sub2 ⊢
  push_cast [↓isBlt_h h4, List.length_map]
  refine ⟨by have := ok.l2; omega, dLc2L_map (fun d => match d with | .tup es => es.map fun _ => .bl true | _ => []) trivial _ (fun d hd R hR => ?_) _ (fun p hp => ?_)⟩
  · obtain ⟨r, hr, rfl⟩ := List.mem_map.mp hd
    push_cast [wipeD, List.length_map, ok.row r hr]
    refine ⟨by have := ok.n2; omega, dLcL_map (fun _ => .bl true) trivial _ (fun d hd R hR => ?_) _ hR⟩
    obtain ⟨c, hc, rfl⟩ := List.mem_map.mp hd
    have oc := ok.cell r hr c hc
    push_cast [wipeD, ↓dCall_h h5, ↓dCallK_h h5]
    exact ⟨_, _, _, rfl, ⟨oc.1, oc.2.1, oc.2.2.1, oc.2.2.2, by have := ok.n2; omega⟩, hR⟩
  · have e : ∀ l : Tbl, (l.map rowD).flatMap (fun d => match d with | .tup es => es.map fun _ => D.bl true | _ => []) = (l.flatMap fun r => r.map fun _ => ()).map fun _ => D.bl true := fun l => by
      induction l with
      | nil => rfl
      | cons r l ih => simp only [List.map_cons, List.flatMap_cons, ih, List.map_append, List.map_map]; rfl
    rw [e]
    generalize (t.flatMap fun r => r.map fun _ => ()) = us
    refine rAll_of (fun _ => true) (ds := us.map fun _ => D.non) (by rw [lst_new, List.map_map]; rfl) ?_
    rw [show (us.map fun _ => D.non).all (fun _ => true) = true by simp]
    exact Sb.fin (sub2.new2 hp) q
def sp_need_table : DSp := fun ds G Q X => ∃ (t : Tbl) (n : Nat), ds = [td t] ∧ TabOk t n ∧ Q .non G
theorem p_need_table {f C : Addr} (h1 : Γ.g "is_table" = .fn f ["value"] sp_is_table []) (h2 : Γ.g "BadTable" = .exc C) {t : Tbl} {n : Nat} (ok : TabOk t n) (q : DQ .non G) : T_need_table Γ K CS (dEnds Θ K DQ DX) (startD N_need_table [td t]) G := by
  show T_need_table Γ K CS _ [some (td t)] G
  unfold T_need_table
  push_cast [↓dCall_h h1, ↓dCallK_h h1, ↓dGlob_e h2, ↓dRaise_h h2]
  refine ⟨t, n, rfl, ok, ?_⟩
  push_cast []
  exact back q
theorem isi_seq {x : D} {ds : List D} {Q : DK} (h : seqOf G x = some ds) (q : Q (.bl true) G) : rIsi K [x, .tup [.ty "list", .ty "tuple"]] G Q := by
  cases x with
  | tup es =>
    refine ⟨.type "tuple", true, rfl, ?_, q⟩
    show PySem.W.kitAny K (.type "tuple") [.type "list", .type "tuple"] = some true
    have a1 : PySem.W.kitOne K (.type "tuple") (.type "list") = some false := kit_ty (K := K) (a := "tuple") (b := "list") (by kernel_rfl)
    have a2 : PySem.W.kitOne K (.type "tuple") (.type "tuple") = some true := kit_ty (K := K) (a := "tuple") (b := "tuple") (by kernel_rfl)
    simp only [PySem.W.kitAny, a1, a2]
  | ref a =>
    have ty : TyD K G (.ref a) (.type "list") := by
      unfold TyD
      dsimp only
      cases e : G a with
      | none => simp [seqOf, e] at h
      | some mo =>
        cases mo with
        | lst es => rfl
        | fro es => rfl
        | _ => simp [seqOf, e] at h
    refine ⟨.type "list", true, ty, ?_, q⟩
    show PySem.W.kitAny K (.type "list") [.type "list", .type "tuple"] = some true
    have a1 : PySem.W.kitOne K (.type "list") (.type "list") = some true := kit_ty (K := K) (a := "list") (b := "list") (by kernel_rfl)
    simp only [PySem.W.kitAny, a1]
  | _ => simp [seqOf] at h
def sp_need_state : DSp := fun ds G Q X => ∃ (t : Tbl) (n : Nat) (i : Int), ds = [td t, .int i] ∧ TabOk t n ∧ (0 ≤ i ∧ i < n) ∧ Q .non G
theorem p_need_state {f C : Addr} (h1 : Γ.g "is_number" = .fn f ["value", "low"] sp_is_number []) (h2 : Γ.g "len" = .blt) (h3 : Γ.g "BadState" = .exc C) {t : Tbl} {n : Nat} {i : Int} (ok : TabOk t n) (hi : 0 ≤ i ∧ i < n) (q : DQ .non G) : T_need_state Γ K CS (dEnds Θ K DQ DX) (startD N_need_state [td t, .int i]) G := by
  show T_need_state Γ K CS _ [some (td t), some (.int i)] G
  unfold T_need_state
  have l0 : (0 : Int) < t.length := by have := ok.l1; omega
  have b1 : numB (.int i) 0 = true := numB_t hi.1 (by have := ok.n2; omega)
  have b2 : decide ((n : Int) ≤ i) = false := decide_eq_false (by omega)
  push_cast [↓dCall_h h1, ↓dCallK_h h1, ↓dGlob_e h3, ↓dRaise_h h3, ↓isBlt_h h2, ↓spn_int, b1, ↓ix_td (t := t) (Int.le_refl 0) l0, List.length_map, ok.rowlen (d := 0) (Int.le_refl 0) l0, b2]
  exact back q
def sp_is_deed : DSp := fun ds G Q X => ∃ (t : Tbl) (i : Int), ds = [td t, .int i] ∧ t.length ≤ 1000 ∧ (0 ≤ i ∧ i < t.length) ∧ Q (.bl true) G
theorem p_is_deed {f : Addr} (h1 : Γ.g "is_number" = .fn f ["value", "low"] sp_is_number []) (h2 : Γ.g "len" = .blt) {t : Tbl} {i : Int} (hl : t.length ≤ 1000) (hi : 0 ≤ i ∧ i < t.length) (q : DQ (.bl true) G) : T_is_deed_of Γ K CS (dEnds Θ K DQ DX) (startD N_is_deed_of [td t, .int i]) G := by
  show T_is_deed_of Γ K CS _ [some (td t), some (.int i)] G
  unfold T_is_deed_of
  have b1 : numB (.int i) 0 = true := numB_t hi.1 (by omega)
  have b2 : decide (i < (t.length : Int)) = true := decide_eq_true (by omega)
  push_cast [↓dCall_h h1, ↓dCallK_h h1, ↓isBlt_h h2, ↓spn_int, b1, List.length_map, b2]
  exact back q
def sp_need_deed : DSp := fun ds G Q X => ∃ (t : Tbl) (i : Int), ds = [td t, .int i] ∧ t.length ≤ 1000 ∧ (0 ≤ i ∧ i < t.length) ∧ Q .non G
theorem p_need_deed {f C : Addr} (h1 : Γ.g "is_deed_of" = .fn f ["table", "deed"] sp_is_deed []) (h2 : Γ.g "BadDeed" = .exc C) {t : Tbl} {i : Int} (hl : t.length ≤ 1000) (hi : 0 ≤ i ∧ i < t.length) (q : DQ .non G) : T_need_deed Γ K CS (dEnds Θ K DQ DX) (startD N_need_deed [td t, .int i]) G := by
  show T_need_deed Γ K CS _ [some (td t), some (.int i)] G
  unfold T_need_deed
  push_cast [↓dCall_h h1, ↓dCallK_h h1, ↓dGlob_e h2, ↓dRaise_h h2]
  refine ⟨t, i, rfl, hl, hi, ?_⟩
  push_cast []
  exact back q
/-! rows of deeds -/
def runT (t : Tbl) : Int → List Int → Int × List Int
  | b, [] => (b, [])
  | b, d :: r => ((runT t (cellAt t d b).1 r).1, (cellAt t d b).2 :: (runT t (cellAt t d b).1 r).2)
def RowOk (t : Tbl) (row : List Int) : Prop := ∀ d ∈ row, 0 ≤ d ∧ d < t.length
theorem runT_ok {t : Tbl} {n : Nat} (ok : TabOk t n) : ∀ {row : List Int} {b : Int}, RowOk t row → 0 ≤ b → b < n → 0 ≤ (runT t b row).1 ∧ (runT t b row).1 < n ∧ (runT t b row).2.length = row.length
  | [], b, _, h0, h1 => ⟨h0, h1, rfl⟩
  | d :: r, b, hr, h0, h1 => by
    have hd := hr d List.mem_cons_self
    have hc := ok.at hd.1 hd.2 h0 h1
    obtain ⟨q1, q2, q3⟩ := runT_ok ok (row := r) (fun x hx => hr x (List.mem_cons_of_mem _ hx)) hc.1 hc.2.1
    exact ⟨q1, q2, by simp [runT, q3]⟩
def sp_run : DSp := fun ds G Q X => ∃ (t : Tbl) (n : Nat) (b : Int) (x : D) (row : List Int), ds = [td t, .int b, x] ∧ TabOk t n ∧ (0 ≤ b ∧ b < n) ∧ seqOf G x = some (row.map D.int) ∧ RowOk t row ∧ row.length ≤ 1000 ∧
  ∀ p, G p = none → Q (.tup [.int (runT t b row).1, .ref p]) (gup G p (.lst ((runT t b row).2.map D.int)))
theorem p_done_by {t : Tbl} {n : Nat} {b : Int} {x : D} {row : List Int} (ok : TabOk t n) (hb : 0 ≤ b ∧ b < n) (hx : seqOf G x = some (row.map D.int)) (hr : RowOk t row) (hl : row.length ≤ 1000)
    (q : ∀ p, G p = none → DQ (.tup [.int (runT t b row).1, .ref p]) (gup G p (.lst ((runT t b row).2.map D.int)))) : T_done_by Γ K CS (dEnds Θ K DQ DX) (startD N_done_by [td t, .int b, x]) G := by
  show T_done_by Γ K CS _ [some (td t), some (.int b), some x, none, none, none, none] G
  unfold T_done_by
  refine dSeq_n fun N hN => ?_
  push_cast []
  refine fun p hp => hN _ _ ?_
  clear hN N
  refine dSeq_n fun N hN => ?_
  simp only [dFor_e, ↓dISeq_i, ↓dVar_s, ↓dVar_0]
  refine iSeq_of (seq_sub hx (GSub.new hp)) fun chk hchk => ?_
  refine dLoop_ix (fun l ρ G1 => ∃ (here : Int) (acc rest : List Int) (x5 x6 : Option D), l = rest.map D.int ∧ RowOk t rest ∧ (0 ≤ here ∧ here < n) ∧ ρ = [some (td t), some (.int b), some x, some (.int here), some (.ref p), x5, x6] ∧ G1 = gup G p (.lst (acc.map D.int)) ∧
    (runT t b row).1 = (runT t here rest).1 ∧ (runT t b row).2 = acc ++ (runT t here rest).2 ∧ acc.length + rest.length ≤ 1000) _ ?_ ?_ ?_ _ _ ⟨b, [], row, _, _, rfl, hr, hb, rfl, rfl, rfl, rfl, by simpa using hl⟩
  · rintro l ρ _ ⟨here, acc, rest, x5, x6, rfl, hrest, hh, rfl, rfl, e1, e2, e3⟩
    exact hchk _ (seq_sub hx (GSub.new hp))
  · rintro d l hd hlt J hJ ρ _ ⟨here, acc, rest, x5, x6, el, hrest, hh, rfl, rfl, e1, e2, e3⟩
    obtain ⟨i, rest', rfl⟩ : ∃ i rest', rest = i :: rest' := by
      cases rest with
      | nil => cases el
      | cons i r => exact ⟨i, r, rfl⟩
    simp only [List.map_cons, List.cons.injEq] at el
    obtain ⟨rfl, rfl⟩ := el
    have hi := hrest i List.mem_cons_self
    simp only [dgName_e, List.set_cons_succ, List.set_cons_zero]
    refine dSeq_n fun N' hN' => ?_
    push_cast [↓ix_td hi.1 hi.2, ↓ix_row ok hi.1 hi.2 hh.1 hh.2]
    refine hN' _ _ ?_
    clear hN' N'
    push_cast []
    refine ⟨⟨_, lst_new⟩, _, gup_same, by rw [List.length_map, sizeLine_eq]; omega, hJ _ _ ⟨_, acc ++ [(cellAt t i here).2], rest', _, _, rfl, fun y hy => hrest y (List.mem_cons_of_mem _ hy), ?_, rfl, ?_, e1, ?_, ?_⟩⟩
    · have := ok.at hi.1 hi.2 hh.1 hh.2
      exact ⟨this.1, this.2.1⟩
    · rw [gup_gup, List.map_append]; rfl
    · rw [e2, runT, List.append_assoc]; rfl
    · simp only [List.length_append, List.length_cons, List.length_nil] at e3 ⊢; omega
  · rintro ρ _ ⟨here, acc, rest, x5, x6, el, hrest, hh, rfl, rfl, e1, e2, e3⟩
    cases rest with
    | cons i r => cases el
    | nil =>
      refine hN _ _ ?_
      push_cast []
      refine back ?_
      have := q p hp
      rw [e1, e2] at this
      simpa [runT] using this
theorem p_done {f g h j C : Addr} (h1 : Γ.g "need_table" = .fn f ["table"] sp_need_table []) (h2 : Γ.g "need_state" = .fn g ["table", "state"] sp_need_state []) (h3 : Γ.g "isinstance" = .blt) (h4 : Γ.g "list" = .blt) (h5 : Γ.g "tuple" = .blt) (h6 : Γ.g "all" = .blt) (h7 : Γ.g "is_deed_of" = .fn h ["table", "deed"] sp_is_deed []) (h8 : Γ.g "BadDeeds" = .exc C) (h9 : Γ.g "done_by" = .fn j ["table", "state", "deeds"] sp_run [])
    {t : Tbl} {n : Nat} {b : Int} {x : D} {row : List Int} (ok : TabOk t n) (hb : 0 ≤ b ∧ b < n) (hx : seqOf G x = some (row.map D.int)) (hr : RowOk t row) (hl : row.length ≤ 1000)
    (q : ∀ p, G p = none → DQ (.tup [.int (runT t b row).1, .ref p]) (gup G p (.lst ((runT t b row).2.map D.int)))) : T_done Γ K CS (dEnds Θ K DQ DX) (startD N_done [td t, .int b, x]) G := by
  show T_done Γ K CS _ [some (td t), some (.int b), some x, none, none] G
  unfold T_done
  refine dSeq_n fun N hN => ?_
  push_cast [↓dCall_h h1, ↓dCallK_h h1]
  refine ⟨t, n, rfl, ok, ?_⟩
  try push_cast []
  refine hN _ _ ?_
  clear hN N
  refine dSeq_n fun N hN => ?_
  push_cast [↓dCall_h h2, ↓dCallK_h h2]
  refine ⟨t, n, b, rfl, ok, hb, ?_⟩
  try push_cast []
  refine hN _ _ ?_
  clear hN N
  refine dSeq_n fun N hN => ?_
  push_cast [↓isBlt_h h3, ↓isBlt_h h4, ↓isBlt_h h5, ↓isBlt_h h6]
  refine isi_seq hx ?_
  push_cast []
  refine iSeq_of hx fun chk hchk => ?_
  refine ⟨size_le (by rw [List.length_map]; omega), dLcL_map (fun _ => .bl true) (hchk _ hx) _ (fun d hd R hR => ?_) _ (fun p hp => rAll_of (fun _ => true) lst_new ?_)⟩
  · obtain ⟨i, hi, rfl⟩ := List.mem_map.mp hd
    push_cast [wipeD, ↓dCall_h h7, ↓dCallK_h h7]
    exact ⟨t, i, rfl, by have := ok.l2; omega, hr i hi, hR⟩
  rw [show (row.map D.int).all (fun _ => true) = true by simp]
  push_cast []
  refine hN _ _ ?_
  clear hN N
  have sub : GSub G (gup G p (.lst ((row.map D.int).map fun _ => .bl true))) := GSub.new hp
  generalize gup G p (.lst ((row.map D.int).map fun _ => .bl true)) = G1 at sub ⊢
  push_cast [↓dCall_h h9, ↓dCallK_h h9]
  refine ⟨t, n, b, x, row, rfl, ok, hb, seq_sub hx sub, hr, hl, fun p2 hp2 => ?_⟩
  exact ⟨_, RepTo.sub (GSub.up sub), q p2 (sub.free hp2)⟩
/-! two deeds -/
def comB (t : Tbl) (a c : Int) (s : Int) : Bool := decide (cellAt t c (cellAt t a s).1 = ((cellAt t a (cellAt t c s).1).1, (cellAt t c s).2)) && decide ((cellAt t a (cellAt t c s).1).2 = (cellAt t a s).2)
def overB (t : Tbl) (a c : Int) (s : Int) : Bool := decide (cellAt t a (cellAt t c s).1 = cellAt t a s)
def commB (t : Tbl) (n : Nat) (a c : Int) : Bool := (List.range n).all fun s => comB t a c s
def ovwB (t : Tbl) (n : Nat) (a c : Int) : Bool := (List.range n).all fun s => overB t a c s
theorem eqT_pair {p q : Int × Int} : eqT (pairD p) (pairD q) = decide (p = q) := by
  obtain ⟨a, b⟩ := p
  obtain ⟨c, d⟩ := q
  simp only [eqT, eqTL, Bool.and_true, Prod.mk.injEq, Bool.decide_and]
theorem okT_pair {p : Int × Int} {k : Nat} : okT (k + 1) (pairD p) = true := by cases k <;> kernel_rfl
def sp_two (f : Tbl → Nat → Int → Int → Bool) : DSp := fun ds G Q X => ∃ (t : Tbl) (n : Nat) (a c : Int), ds = [td t, .int a, .int c] ∧ TabOk t n ∧ (0 ≤ a ∧ a < t.length) ∧ (0 ≤ c ∧ c < t.length) ∧ Q (.bl (f t n a c)) G
theorem p_commute_by (h1 : Γ.g "range" = .blt) (h2 : Γ.g "len" = .blt) {t : Tbl} {n : Nat} {a c : Int} (ok : TabOk t n) (ha : 0 ≤ a ∧ a < t.length) (hc : 0 ≤ c ∧ c < t.length) (q : DQ (.bl (commB t n a c)) G) :
    T_commute_by Γ K CS (dEnds Θ K DQ DX) (startD N_commute_by [td t, .int a, .int c]) G := by
  show T_commute_by Γ K CS _ [some (td t), some (.int a), some (.int c), none, none, none, none, none] G
  unfold T_commute_by
  have l0 : (0 : Int) < t.length := by have := ok.l1; omega
  refine dSeq_n fun N hN => ?_
  push_cast [↓isBlt_h h1, ↓isBlt_h h2, ↓ix_td (t := t) (Int.le_refl 0) l0, List.length_map, ok.rowlen (d := 0) (Int.le_refl 0) l0]
  refine ⟨by have := ok.n2; omega, ?_⟩
  refine dLoop_ix (fun l ρ G1 => ∃ (j : Nat) (x3 x4 x5 x6 x7 : Option D), l = (rangeD 0 n).drop j ∧ j ≤ n ∧ G = G1 ∧ ρ = [some (td t), some (.int a), some (.int c), x3, x4, x5, x6, x7] ∧ ∀ i, i < j → comB t a c (i : Nat) = true) _ (fun _ _ _ _ => trivial) ?_ ?_ _ _ ⟨0, _, _, _, _, _, by simp, Nat.zero_le _, rfl, rfl, fun i hi => absurd hi (Nat.not_lt_zero _)⟩
  · rintro d l hd hlt J hJ ρ _ ⟨j, x3, x4, x5, x6, x7, el, hj, rfl, rfl, hall⟩
    have hj' : j < n := by
      rcases Nat.lt_or_ge j n with h | h
      · exact h
      · rw [List.drop_of_length_le (by rw [rangeD_len]; omega)] at el; cases el
    have ed : d = .int (j : Nat) ∧ l = (rangeD 0 n).drop (j + 1) := by
      rw [List.drop_eq_getElem_cons (by rw [rangeD_len]; omega)] at el
      simp only [List.cons.injEq] at el
      refine ⟨?_, el.2⟩
      rw [el.1]
      simp [rangeD]
    obtain ⟨rfl, rfl⟩ := ed
    have s0 : (0 : Int) ≤ (j : Nat) := by omega
    have s1 : ((j : Nat) : Int) < n := by omega
    have ca := ok.at ha.1 ha.2 s0 s1
    have cc := ok.at hc.1 hc.2 s0 s1
    simp only [dgName_e, List.set_cons_succ, List.set_cons_zero]
    refine dSeq_n fun N' hN' => ?_
    push_cast [↓ix_td ha.1 ha.2, ↓ix_row ok ha.1 ha.2 s0 s1]
    refine hN' _ _ ?_
    clear hN' N'
    refine dSeq_n fun N' hN' => ?_
    push_cast [↓ix_td hc.1 hc.2, ↓ix_row ok hc.1 hc.2 s0 s1]
    refine hN' _ _ ?_
    clear hN' N'
    push_cast [↓ix_td ha.1 ha.2, ↓ix_td hc.1 hc.2, ↓ix_row ok hc.1 hc.2 ca.1 ca.2.1, ↓ix_row ok ha.1 ha.2 cc.1 cc.2.1]
    refine rNe_ok (n := 1) (m := 1) okT_pair (okT_pair (p := (_, _))) (by decide) (by decide) ?_
    rw [show ∀ u v : Int, (D.tup [.int u, .int v]) = pairD (u, v) from fun _ _ => rfl, eqT_pair]
    have fal : comB t a c (j : Nat) = false → ∃ G', RepTo Θ K G G' ∧ DQ (.bl false) G' := fun h => by
      have e : commB t n a c = false := by
        unfold commB
        rw [List.all_eq_false]
        exact ⟨j, List.mem_range.mpr hj', by rw [h]; exact Bool.false_ne_true⟩
      rw [e] at q
      exact back q
    push_cast []
    refine ⟨fun h => ?_, fun h => ⟨fun h' => ?_, fun h' => ?_⟩⟩
    · refine fal ?_
      unfold comB
      rw [Bool.not_eq_true'] at h
      rw [h]; rfl
    · refine fal ?_
      unfold comB
      rw [Bool.not_eq_true'] at h'
      rw [h', Bool.and_false]
    · refine hJ _ _ ⟨j + 1, _, _, _, _, _, rfl, by omega, rfl, rfl, fun i hi => ?_⟩
      rcases Nat.lt_succ_iff_lt_or_eq.mp hi with hi | rfl
      · exact hall i hi
      · unfold comB
        rw [Bool.not_eq_false'] at h h'
        rw [h, h']; rfl
  · rintro ρ _ ⟨j, x3, x4, x5, x6, x7, el, hj, rfl, rfl, hall⟩
    refine hN _ _ ?_
    clear hN N
    push_cast []
    have e : commB t n a c = true := by
      have hj' : n ≤ j := by
        have := congrArg List.length el
        rw [List.length_drop, rangeD_len] at this
        simp at this
        omega
      unfold commB
      rw [List.all_eq_true]
      exact fun i hi => hall i (by have := List.mem_range.mp hi; omega)
    rw [e] at q
    exact back q
theorem okT_row {r : List (Int × Int)} {k : Nat} : okT (k + 2) (rowD r) = true := by
  show okTL (k + 1) (r.map pairD) = true
  refine okTL_of fun d hd => ?_
  obtain ⟨p, _, rfl⟩ := List.mem_map.mp hd
  exact okT_pair
theorem all_range {f : Nat → Bool} {n : Nat} : (rangeD 0 n).all (fun d => match d with | .int i => f i.toNat | _ => false) = (List.range n).all f := by
  unfold rangeD
  rw [List.all_map]
  congr 1
  funext i
  simp
theorem p_overwrites_by (h1 : Γ.g "range" = .blt) (h2 : Γ.g "len" = .blt) (h3 : Γ.g "all" = .blt) {t : Tbl} {n : Nat} {a c : Int} (ok : TabOk t n) (ha : 0 ≤ a ∧ a < t.length) (hc : 0 ≤ c ∧ c < t.length) (q : DQ (.bl (ovwB t n a c)) G) :
    T_overwrites_by Γ K CS (dEnds Θ K DQ DX) (startD N_overwrites_by [td t, .int a, .int c]) G := by
  show T_overwrites_by Γ K CS _ [some (td t), some (.int a), some (.int c), none, none] G
  unfold T_overwrites_by
  have l0 : (0 : Int) < t.length := by have := ok.l1; omega
  push_cast [↓isBlt_h h1, ↓isBlt_h h2, ↓isBlt_h h3, ↓ix_td (t := t) (Int.le_refl 0) l0, List.length_map, ok.rowlen (d := 0) (Int.le_refl 0) l0]
  refine ⟨by have := ok.n2; omega, size_le (by rw [rangeD_len]; have := ok.n2; omega), dLcL_map (fun d => .bl (match d with | .int i => overB t a c (i.toNat : Nat) | _ => false)) trivial _ (fun d hd R hR => ?_) _ (fun p hp => rAll_of (fun d => match d with | .int i => overB t a c (i.toNat : Nat) | _ => false) lst_new ?_)⟩
  · obtain ⟨j, hj, rfl⟩ := range_mem' hd
    have hj' : j < n := by omega
    have s0 : (0 : Int) ≤ 0 + (j : Nat) := by omega
    have s1 : 0 + ((j : Nat) : Int) < n := by omega
    have cc := ok.at hc.1 hc.2 s0 s1
    push_cast [wipeD, ↓ix_td ha.1 ha.2, ↓ix_td hc.1 hc.2, ↓ix_row ok hc.1 hc.2 s0 s1, ↓ix_row ok ha.1 ha.2 cc.1 cc.2.1, ↓ix_row ok ha.1 ha.2 s0 s1]
    refine rEq_ok (n := 1) (m := 1) okT_pair okT_pair (by decide) (by decide) ?_
    rw [eqT_pair]
    have e : (0 + (j : Nat) : Int) = ((0 + (j : Nat) : Int).toNat : Nat) := by omega
    rw [e]
    exact hR
  · have e : (rangeD 0 n).all (fun d => match d with | .int i => overB t a c (i.toNat : Nat) | _ => false) = ovwB t n a c := all_range (f := fun i => overB t a c (i : Nat))
    have e0 : ((n : Int)).toNat = n := by omega
    rw [e0]
    rw [e]
    exact backN hp q
theorem p_two {T : TSD} {f g h : Addr} {F : Tbl → Nat → Int → Int → Bool} (h1 : Γ.g "need_table" = .fn f ["table"] sp_need_table []) (h2 : Γ.g "need_deed" = .fn g ["table", "deed"] sp_need_deed []) {x : Str} (h3 : Γ.g x = .fn h ["table", "one", "other"] (sp_two F) [])
    {t : Tbl} {n : Nat} {a c : Int} (ok : TabOk t n) (ha : 0 ≤ a ∧ a < t.length) (hc : 0 ≤ c ∧ c < t.length) (q : DQ (.bl (F t n a c)) G) :
    (dSeq (dDrop (dCall (Γ.g "need_table") (dCons (dVar 0) dNil))) (dSeq (dDrop (dCall (Γ.g "need_deed") (dCons (dVar 0) (dCons (dVar 1) dNil)))) (dSeq (dDrop (dCall (Γ.g "need_deed") (dCons (dVar 0) (dCons (dVar 2) dNil)))) (dRet (dCall (Γ.g x) (dCons (dVar 0) (dCons (dVar 1) (dCons (dVar 2) dNil)))))))) (dEnds Θ K DQ DX) (startD ["table", "one", "other"] [td t, .int a, .int c]) G := by
  show dSeq _ _ _ [some (td t), some (.int a), some (.int c)] G
  refine dSeq_n fun N hN => ?_
  push_cast [↓dCall_h h1, ↓dCallK_h h1]
  refine ⟨t, n, rfl, ok, ?_⟩
  try push_cast []
  refine hN _ _ ?_
  clear hN N
  refine dSeq_n fun N hN => ?_
  push_cast [↓dCall_h h2, ↓dCallK_h h2]
  refine ⟨t, a, rfl, by have := ok.l2; omega, ha, ?_⟩
  try push_cast []
  refine hN _ _ ?_
  clear hN N
  refine dSeq_n fun N hN => ?_
  push_cast [↓dCall_h h2, ↓dCallK_h h2]
  refine ⟨t, c, rfl, by have := ok.l2; omega, hc, ?_⟩
  try push_cast []
  refine hN _ _ ?_
  clear hN N
  push_cast [↓dCall_h h3, ↓dCallK_h h3]
  exact ⟨t, n, a, c, rfl, ok, ha, hc, back q⟩
end
end Dl

namespace Dl
open PySem PySem.Spec PyProof.Rows L2
abbrev N_is_store : List Str := ["value", "hands", "houses", "lies", ".0", "item"]
def T_is_store (Γ : GEnv) (K : PySem.W.Frag) (CS : Addr) : TSD := (dSeq (dIfS (dTOr (dTNot (dTru (dBc (Γ.g "isinstance") (rIsi K) (dCons (dVar 0) (dCons (dBty (Γ.g "tuple") "tuple") dNil))))) (dTOr (dTru (dBin rNe (dBc (Γ.g "len") rLen (dCons (dVar 0) dNil)) (dC (.int 3)))) (dTNot (dTru (dBc (Γ.g "all") rAll (dCons (dLc (dISeq (dVar 0)) (dgName 5) dYes (dCall (Γ.g "is_number") (dCons (dVar 5) (dCons (dC (.int 0)) dNil))) [4, 5]) dNil)))))) (dRet (dC (.bl false))) dNext) (dSeq (dAsg (dVar 0) (dgTup 3 (dgCons (dgName 1) (dgCons (dgName 2) (dgCons (dgName 3) dgNil))))) (dRet (dAnd (dChain rLe rLe (dC (.int 1)) (dVar 1) (dGlob (Γ.g "MOST_HANDS"))) (dChain rLe rLe (dBin rAdd (dBin rMul (dC (.int 3)) (dVar 3)) (dC (.int 1))) (dVar 2) (dGlob (Γ.g "MOST_HOUSES")))))))
abbrev N_need_store : List Str := ["store"]
def T_need_store (Γ : GEnv) (K : PySem.W.Frag) (CS : Addr) : TSD := (dIfS (dTNot (dTru (dCall (Γ.g "is_store") (dCons (dVar 0) dNil)))) (dRaise (Γ.g "BadStore")) dNext)
abbrev N_is_row : List Str := ["value", "hands", ".0", "item"]
def T_is_row (Γ : GEnv) (K : PySem.W.Frag) (CS : Addr) : TSD := (dRet (dAnd (dBc (Γ.g "isinstance") (rIsi K) (dCons (dVar 0) (dCons (dBty (Γ.g "tuple") "tuple") dNil))) (dAnd (dBin rEq (dBc (Γ.g "len") rLen (dCons (dVar 0) dNil)) (dVar 1)) (dBc (Γ.g "all") rAll (dCons (dLc (dISeq (dVar 0)) (dgName 3) dYes (dCall (Γ.g "is_number") (dCons (dVar 3) (dCons (dC (.int 0)) dNil))) [2, 3]) dNil)))))
abbrev N_has_name_form : List Str := ["value"]
def T_has_name_form (Γ : GEnv) (K : PySem.W.Frag) (CS : Addr) : TSD := (dRet (dAnd (dBc (Γ.g "isinstance") (rIsi K) (dCons (dVar 0) (dCons (dBty (Γ.g "tuple") "tuple") dNil))) (dAnd (dBin rEq (dBc (Γ.g "len") rLen (dCons (dVar 0) dNil)) (dC (.int 2))) (dAnd (dBc (Γ.g "isinstance") (rIsi K) (dCons (dBin rIx (dVar 0) (dC (.int 0))) (dCons (dBty (Γ.g "str") "str") dNil))) (dAnd (dBin rEq (dBin rIx (dVar 0) (dC (.int 0))) (dC (.str "name"))) (dCall (Γ.g "is_number") (dCons (dBin rIx (dVar 0) (dC (.int 1))) (dCons (dC (.int 0)) dNil))))))))
abbrev N_are_rising : List Str := ["value", ".0", "item", "one", "other"]
def T_are_rising (Γ : GEnv) (K : PySem.W.Frag) (CS : Addr) : TSD := (dSeq (dIfS (dTOr (dTNot (dTru (dBc (Γ.g "isinstance") (rIsi K) (dCons (dVar 0) (dCons (dBty (Γ.g "tuple") "tuple") dNil))))) (dTNot (dTru (dBc (Γ.g "all") rAll (dCons (dLc (dISeq (dVar 0)) (dgName 2) dYes (dCall (Γ.g "has_name_form") (dCons (dVar 2) dNil)) [1, 2]) dNil))))) (dRet (dC (.bl false))) dNext) (dRet (dBc (Γ.g "all") rAll (dCons (dLc (dBi (Γ.g "zip") (dIZip (dCons (dVar 0) (dCons (dSlice (dVar 0) (dPart (dC (.int 1))) dNoPart) dNil)))) (dgTup 2 (dgCons (dgName 3) (dgCons (dgName 4) dgNil))) dYes (dBin rLt (dBin rIx (dVar 3) (dC (.int 1))) (dBin rIx (dVar 4) (dC (.int 1)))) [1, 3, 4]) dNil))))
abbrev N_are_names : List Str := ["value", ".0", "item"]
def T_are_names (Γ : GEnv) (K : PySem.W.Frag) (CS : Addr) : TSD := (dRet (dAnd (dBc (Γ.g "isinstance") (rIsi K) (dCons (dVar 0) (dCons (dBty (Γ.g "tuple") "tuple") dNil))) (dBc (Γ.g "all") rAll (dCons (dLc (dISeq (dVar 0)) (dgName 2) dYes (dCall (Γ.g "has_name_form") (dCons (dVar 2) dNil)) [1, 2]) dNil))))
abbrev N_is_end : List Str := ["value", "word", "many"]
def T_is_end (Γ : GEnv) (K : PySem.W.Frag) (CS : Addr) : TSD := (dSeq (dIfS (dTOr (dTNot (dTru (dBc (Γ.g "isinstance") (rIsi K) (dCons (dVar 0) (dCons (dBty (Γ.g "tuple") "tuple") dNil))))) (dTOr (dTru (dBin rNe (dBc (Γ.g "len") rLen (dCons (dVar 0) dNil)) (dC (.int 2)))) (dTNot (dTru (dBc (Γ.g "isinstance") (rIsi K) (dCons (dBin rIx (dVar 0) (dC (.int 0))) (dCons (dBty (Γ.g "str") "str") dNil))))))) (dRet (dC (.bl false))) dNext) (dRet (dAnd (dBin rEq (dBin rIx (dVar 0) (dC (.int 0))) (dVar 1)) (dAnd (dCall (Γ.g "is_number") (dCons (dBin rIx (dVar 0) (dC (.int 1))) (dCons (dC (.int 0)) dNil))) (dBin rLt (dBin rIx (dVar 0) (dC (.int 1))) (dVar 2))))))
abbrev N_is_round : List Str := ["body", "many"]
def T_is_round (Γ : GEnv) (K : PySem.W.Frag) (CS : Addr) : TSD := (dRet (dAnd (dBin rEq (dBc (Γ.g "len") rLen (dCons (dVar 0) dNil)) (dVar 1)) (dAnd (dCall (Γ.g "is_number") (dCons (dBin rIx (dVar 0) (dC (.int 1))) (dCons (dC (.int 1)) dNil))) (dCall (Γ.g "is_number") (dCons (dBin rIx (dVar 0) (dC (.int 2))) (dCons (dC (.int 1)) dNil))))))
abbrev N_is_hand_body : List Str := ["store", "body"]
def T_is_hand_body (Γ : GEnv) (K : PySem.W.Frag) (CS : Addr) : TSD := (dSeq (dIfS (dTOr (dTNot (dTru (dBc (Γ.g "isinstance") (rIsi K) (dCons (dVar 1) (dCons (dBty (Γ.g "tuple") "tuple") dNil))))) (dTOr (dTru (dBin rLt (dBc (Γ.g "len") rLen (dCons (dVar 1) dNil)) (dC (.int 4)))) (dTNot (dTru (dBc (Γ.g "isinstance") (rIsi K) (dCons (dBin rIx (dVar 1) (dC (.int 0))) (dCons (dBty (Γ.g "str") "str") dNil))))))) (dRet (dC (.bl false))) dNext) (dSeq (dIfS (dTru (dBin rEq (dBin rIx (dVar 1) (dC (.int 0))) (dC (.str "ask")))) (dRet (dAnd (dCall (Γ.g "is_round") (dCons (dVar 1) (dCons (dC (.int 5)) dNil))) (dAnd (dCall (Γ.g "is_row") (dCons (dBin rIx (dVar 1) (dC (.int 3))) (dCons (dBin rIx (dVar 0) (dC (.int 0))) dNil))) (dCall (Γ.g "are_rising") (dCons (dBin rIx (dVar 1) (dC (.int 4))) dNil))))) dNext) (dRet (dAnd (dBin rEq (dBin rIx (dVar 1) (dC (.int 0))) (dC (.str "keep"))) (dAnd (dCall (Γ.g "is_round") (dCons (dVar 1) (dCons (dC (.int 4)) dNil))) (dCall (Γ.g "are_names") (dCons (dBin rIx (dVar 1) (dC (.int 3))) dNil)))))))
abbrev N_is_house_body : List Str := ["body"]
def T_is_house_body (Γ : GEnv) (K : PySem.W.Frag) (CS : Addr) : TSD := (dSeq (dIfS (dTOr (dTNot (dTru (dBc (Γ.g "isinstance") (rIsi K) (dCons (dVar 0) (dCons (dBty (Γ.g "tuple") "tuple") dNil))))) (dTOr (dTru (dBin rLt (dBc (Γ.g "len") rLen (dCons (dVar 0) dNil)) (dC (.int 4)))) (dTNot (dTru (dBc (Γ.g "isinstance") (rIsi K) (dCons (dBin rIx (dVar 0) (dC (.int 0))) (dCons (dBty (Γ.g "str") "str") dNil))))))) (dRet (dC (.bl false))) dNext) (dSeq (dIfS (dTru (dBin rEq (dBin rIx (dVar 0) (dC (.int 0))) (dC (.str "have")))) (dRet (dAnd (dCall (Γ.g "is_round") (dCons (dVar 0) (dCons (dC (.int 5)) dNil))) (dAnd (dCall (Γ.g "are_names") (dCons (dBin rIx (dVar 0) (dC (.int 3))) dNil)) (dCall (Γ.g "has_name_form") (dCons (dBin rIx (dVar 0) (dC (.int 4))) dNil))))) dNext) (dRet (dAnd (dBin rEq (dBin rIx (dVar 0) (dC (.int 0))) (dC (.str "kept"))) (dAnd (dCall (Γ.g "is_round") (dCons (dVar 0) (dCons (dC (.int 4)) dNil))) (dCall (Γ.g "has_name_form") (dCons (dBin rIx (dVar 0) (dC (.int 3))) dNil)))))))
abbrev N_right_letter : List Str := ["store", "value", "sender", "receiver", "body"]
def T_right_letter (Γ : GEnv) (K : PySem.W.Frag) (CS : Addr) : TSD := (dSeq (dIfS (dTOr (dTNot (dTru (dBc (Γ.g "isinstance") (rIsi K) (dCons (dVar 1) (dCons (dBty (Γ.g "tuple") "tuple") dNil))))) (dTru (dBin rNe (dBc (Γ.g "len") rLen (dCons (dVar 1) dNil)) (dC (.int 3))))) (dRet (dC (.bl false))) dNext) (dSeq (dAsg (dVar 1) (dgTup 3 (dgCons (dgName 2) (dgCons (dgName 3) (dgCons (dgName 4) dgNil))))) (dSeq (dIfS (dTru (dCall (Γ.g "is_end") (dCons (dVar 2) (dCons (dC (.str "hand")) (dCons (dBin rIx (dVar 0) (dC (.int 0))) dNil))))) (dRet (dAnd (dCall (Γ.g "is_end") (dCons (dVar 3) (dCons (dC (.str "house")) (dCons (dBin rIx (dVar 0) (dC (.int 1))) dNil)))) (dCall (Γ.g "is_hand_body") (dCons (dVar 0) (dCons (dVar 4) dNil))))) dNext) (dRet (dAnd (dCall (Γ.g "is_end") (dCons (dVar 2) (dCons (dC (.str "house")) (dCons (dBin rIx (dVar 0) (dC (.int 1))) dNil)))) (dAnd (dCall (Γ.g "is_end") (dCons (dVar 3) (dCons (dC (.str "hand")) (dCons (dBin rIx (dVar 0) (dC (.int 0))) dNil)))) (dCall (Γ.g "is_house_body") (dCons (dVar 4) dNil))))))))
abbrev N_is_letter : List Str := ["store", "value"]
def T_is_letter (Γ : GEnv) (K : PySem.W.Frag) (CS : Addr) : TSD := (dSeq (dDrop (dCall (Γ.g "need_store") (dCons (dVar 0) dNil))) (dRet (dCall (Γ.g "right_letter") (dCons (dVar 0) (dCons (dVar 1) dNil)))))
abbrev N__law_is_whole : List Str := ["item"]
def T__law_is_whole (Γ : GEnv) (K : PySem.W.Frag) (CS : Addr) : TSD := (dRet (dAnd (dBc (Γ.g "isinstance") (rIsi K) (dCons (dVar 0) (dCons (dBty (Γ.g "int") "int") dNil))) (dNot (dBc (Γ.g "isinstance") (rIsi K) (dCons (dVar 0) (dCons (dBty (Γ.g "bool") "bool") dNil))))))
end Dl

namespace Dl
open PySem PySem.Spec PyProof.Rows L2
local macro_rules
  | `(tactic| push_cast [$xs,*]) => `(tactic| simp only [↓dSeq_e, ↓dDrop_e, ↓dRet_e, ↓dRetN_e, ↓dIfS_e, ↓dgName_e, ↓dgNil_nil, ↓dgCons_cons, ↓dgTup_tup, ↓dAsg_e, ↓dPar_e, ↓dPar3_e, ↓dgSub_e, ↓dFor_e, ↓dVar_0, ↓dVar_s, ↓dC_e, ↓dBin_e, ↓dUn_e, ↓dChain_i, ↓chN_bl, ↓rt_cond, c_and, c_or, c_nand, c_self, c_self2, Int.cast_ofNat_Int, Int.reduceEq, Int.reduceLT, Int.reduceLE, Int.reduceAdd, Int.reduceSub, Int.reduceMul, Int.reduceNeg, Int.reduceNe, decide_true, decide_false, eq_self, ↓rTru_bl, ↓rTru_int, ↓rTru_non, ↓rTru_tup, ↓dTru_e, ↓dTAnd_e, ↓dTOr_e, ↓dTNot_e, ↓dAnd_e, ↓dOr_e, ↓dNot_e, ↓dIf_e, ↓dNil_e, ↓dCons_e, ↓dTup_e, ↓dLst_e, ↓dBc_e, ↓dBty_e, ↓dBi_e, ↓dGlob_con, ↓dGlob_fn, ↓dGlob_cls, ↓dGlob_exc, ↓dRaise_exc, ↓dCall_fn, ↓dCall_cls, ↓dCallK_fn, ↓dNoPart_e, ↓dPart_i, ↓pPart_int, ↓dSlice_e, ↓rSl_tup, ↓dISeq_i, ↓dIRng1_i, ↓dIRng2_i, ↓dIZip_i, ↓dIEnum_i, ↓dFld_i, ↓dFldSet_i, ↓dMeth_i, ↓dMethK_i, ↓iSeq_tup, ↓iR1_int, ↓iR2_int, ↓iZp_tup, ↓dLM_e, ↓dNext_e, ↓dBreak_e, ↓dCont_e, ↓dDisp_e, ↓dPairs_n, ↓dPairs_c, ↓dYes_e, ↓dLc_e, ↓arg0_nil, ↓arg1_one, ↓arg2_two, ↓arg3_three, ↓isBlt_b, startD, ↓dIte_t, ↓dIte_f, ↓rAdd_ii, ↓rSub_ii, ↓rMul_ii, ↓rFdiv_ii, ↓rMod_ii, ↓rPow_ii, ↓rIAdd_ii, ↓rISub_ii, ↓rNeg_i, ↓rLt_ii, ↓rLe_ii, ↓rGt_ii, ↓rGe_ii, ↓rEq_ii, ↓rEq_ss, ↓rEq_bb, ↓rNe_ii, ↓rNe_ss, ↓rInt_i, ↓rAbs_i, ↓rLen_t, ↓rIxt0, ↓rIxt1, ↓rIxt2, ↓rIxt3, ↓rIxt4, ↓rIxt5, ↓rIxt6, ↓rIxt7, ↓isi_non_int, ↓isi_non_bool, ↓isi_non_str, ↓isi_non_list, ↓isi_non_tuple, ↓isi_non_dict, ↓isi_bl_int, ↓isi_bl_bool, ↓isi_bl_str, ↓isi_bl_list, ↓isi_bl_tuple, ↓isi_bl_dict, ↓isi_int_int, ↓isi_int_bool, ↓isi_int_str, ↓isi_int_list, ↓isi_int_tuple, ↓isi_int_dict, ↓isi_str_int, ↓isi_str_bool, ↓isi_str_str, ↓isi_str_list, ↓isi_str_tuple, ↓isi_str_dict, ↓isi_tup_int, ↓isi_tup_bool, ↓isi_tup_str, ↓isi_tup_list, ↓isi_tup_tuple, ↓isi_tup_dict, List.map_cons, List.map_nil, List.length_cons, List.length_nil, List.cons_append, List.nil_append, List.getElem?_cons_zero, List.getElem?_cons_succ, List.set_cons_zero, List.set_cons_succ, List.replicate_succ, List.replicate_zero, Int.reduceToNat, Nat.reduceSub, Nat.reduceAdd, true_and, and_true, Bool.not_true, Bool.not_false, Bool.true_and, Bool.and_true, Bool.false_and, Bool.and_false, Bool.false_or, Bool.or_false, Bool.true_or, Bool.or_true, Bool.not_not, ↓dLc2_e, ↓dLRg1_e, ↓dRev_e, ↓dLenSet_e, ↓rSorted_e, ↓dSrtSet_e, ↓iEn_tup, ↓rMul_ii, ↓rMul_ti, size_lit, str_inj, String.reduceEq, Nat.reduceLeDiff, Nat.reducePow, Int.reducePow, $xs,*])
/-! ### any value -/
inductive KnA (G : GH) : D → Prop
  | sc {x : D} : flatD x = true → KnA G x
  | rf {a : Addr} {k : Kd} : kdOf G (.ref a) = some k → KnA G (.ref a)
  | tp {ds : List D} : (∀ e ∈ ds, KnA G e) → KnA G (.tup ds)
def Known (G G' : GH) : Prop := ∀ a k, kdOf G (.ref a) = some k → kdOf G' (.ref a) = some k
section
variable {G G' G2 : GH} {x : D} {ds : List D}
theorem KnA.kd (h : KnA G x) : ∃ k, kdOf G x = some k := by
  cases h with
  | sc h => cases x <;> first | exact ⟨_, rfl⟩ | cases h
  | rf h => exact ⟨_, h⟩
  | tp h => exact ⟨_, rfl⟩
theorem KnA.some (h : KnA G x) : (kdOf G x).isSome = true := by
  obtain ⟨k, e⟩ := h.kd
  rw [e]
  rfl
theorem KnA.mem (h : KnA G (.tup ds)) : ∀ e ∈ ds, KnA G e := by
  cases h with
  | sc h => cases h
  | tp h => exact h
theorem KnA.keep (h : KnA G x) (e : Known G G') : KnA G' x := by
  induction h with
  | sc h => exact .sc h
  | rf h => exact .rf (e _ _ h)
  | tp _ ih => exact .tp ih
theorem Known.refl : Known G G := fun _ _ h => h
theorem Known.trans (h : Known G G') (h2 : Known G' G2) : Known G G2 := fun a k e => h2 a k (h a k e)
theorem kd_some {a : Addr} {k : Kd} (h : kdOf G (.ref a) = some k) : ∃ o, G a = some o ∧ kdOf G' (.ref a) = kdOf G' (.ref a) := by
  simp only [kdOf] at h
  cases q : G a with
  | none => rw [q] at h; cases h
  | some o => exact ⟨o, rfl, rfl⟩
theorem kd_at_eq {a : Addr} (h : G' a = G a) : kdOf G' (.ref a) = kdOf G (.ref a) := by simp only [kdOf, h]
theorem Known.sub (h : GSub G G') : Known G G' := fun a k e => by
  obtain ⟨o, q, _⟩ := kd_some (G' := G') e
  rw [kd_at_eq (G := G) (by rw [q]; exact h a o q)]
  exact e
theorem Known.new {p : Addr} {o : MO} (hp : G p = none) : Known G (gup G p o) := .sub (GSub.new hp)
theorem Known.kp {s : Addr} {k : Nat} (h : Kp G s k G') (hs : ∃ j, G s = Option.some (.abs j [])) : Known G G' := fun a k e => by
  obtain ⟨o, q, _⟩ := kd_some (G' := G') e
  have n : a ≠ s := fun z => by
    obtain ⟨j, hs⟩ := hs
    subst z
    simp only [kdOf, hs] at e
    cases e
  rw [kd_at_eq (G := G) (by rw [q]; exact h.keep a o n q)]
  exact e
theorem KnA.tup2 {a b : D} (h : KnA G (.tup [a, b])) : KnA G a ∧ KnA G b := ⟨h.mem a (by simp), h.mem b (by simp)⟩
theorem KnA.ints (ns : List Int) : KnA G (.tup (ns.map D.int)) := .tp fun e he => by
  obtain ⟨i, _, rfl⟩ := List.mem_map.mp he
  exact .sc rfl
end
def isTupB : D → Bool
  | .tup _ => true
  | _ => false
def isStrB : D → Bool
  | .str _ => true
  | _ => false
def isIntB : D → Bool
  | .int _ => true
  | .bl _ => true
  | _ => false
def isBlB : D → Bool
  | .bl _ => true
  | _ => false
section
variable {K : PySem.W.Frag} {G : GH} {Q : DK} {x : D} {k : Kd}
theorem ref_kd {a : Addr} (h : kdOf G (.ref a) = some k) : (∃ ds, G a = some (.lst ds)) ∨ (∃ ds, G a = some (.fro ds)) ∨ ∃ ds, G a = some (.dct ds) := by
  simp only [kdOf] at h
  cases q : G a with
  | none => rw [q] at h; cases h
  | some mo =>
    cases mo with
    | lst ds => exact .inl ⟨ds, rfl⟩
    | fro ds => exact .inr (.inl ⟨ds, rfl⟩)
    | dct ds => exact .inr (.inr ⟨ds, rfl⟩)
    | _ => rw [q] at h; cases h
theorem isA_tuple (h : kdOf G x = some k) : rIsi K [x, .ty "tuple"] G Q = Q (.bl (isTupB x)) G := by
  cases x with
  | non => exact isi_non_tuple
  | bl b => exact isi_bl_tuple
  | int b => exact isi_int_tuple
  | str b => exact isi_str_tuple
  | tup b => exact isi_tup_tuple
  | ty b => cases h
  | ref a => rcases ref_kd h with ⟨ds, q⟩ | ⟨ds, q⟩ | ⟨ds, q⟩ <;> first | exact isi_lst_tuple q | exact isi_fro_tuple q | exact isi_dct_tuple q
theorem isA_str (h : kdOf G x = some k) : rIsi K [x, .ty "str"] G Q = Q (.bl (isStrB x)) G := by
  cases x with
  | non => exact isi_non_str
  | bl b => exact isi_bl_str
  | int b => exact isi_int_str
  | str b => exact isi_str_str
  | tup b => exact isi_tup_str
  | ty b => cases h
  | ref a => rcases ref_kd h with ⟨ds, q⟩ | ⟨ds, q⟩ | ⟨ds, q⟩ <;> first | exact isi_lst_str q | exact isi_fro_str q | exact isi_dct_str q
theorem isA_int (h : kdOf G x = some k) : rIsi K [x, .ty "int"] G Q = Q (.bl (isIntB x)) G := by
  cases x with
  | non => exact isi_non_int
  | bl b => exact isi_bl_int
  | int b => exact isi_int_int
  | str b => exact isi_str_int
  | tup b => exact isi_tup_int
  | ty b => cases h
  | ref a => rcases ref_kd h with ⟨ds, q⟩ | ⟨ds, q⟩ | ⟨ds, q⟩ <;> first | exact isi_lst_int q | exact isi_fro_int q | exact isi_dct_int q
theorem isA_bool (h : kdOf G x = some k) : rIsi K [x, .ty "bool"] G Q = Q (.bl (isBlB x)) G := by
  cases x with
  | non => exact isi_non_bool
  | bl b => exact isi_bl_bool
  | int b => exact isi_int_bool
  | str b => exact isi_str_bool
  | tup b => exact isi_tup_bool
  | ty b => cases h
  | ref a => rcases ref_kd h with ⟨ds, q⟩ | ⟨ds, q⟩ | ⟨ds, q⟩ <;> first | exact isi_lst_bool q | exact isi_fro_bool q | exact isi_dct_bool q
theorem not_tup (h : isTupB x = false) : ∀ ds, x ≠ .tup ds := fun ds e => by rw [e] at h; cases h
theorem tup_or (x : D) : (∃ ds, x = .tup ds) ∨ isTupB x = false := by
  cases x <;> first | exact .inl ⟨_, rfl⟩ | exact .inr rfl
theorem str_or (x : D) : (∃ w, x = .str w) ∨ isStrB x = false := by
  cases x <;> first | exact .inl ⟨_, rfl⟩ | exact .inr rfl
theorem strIs_no {w : Str} (h : isStrB x = false) : strIs w x = false := by
  cases x <;> first | rfl | cases h
theorem numB_int {low : Int} (h : numB x low = true) : ∃ i, x = .int i ∧ low ≤ i ∧ i < 10 ^ 18 := by
  cases x <;> first
    | (simp only [numB, Bool.and_eq_true, decide_eq_true_eq] at h; exact ⟨_, rfl, h⟩)
    | cases h
end
theorem tupn2 (ds : List D) : (∃ a b, ds = [a, b]) ∨ ds.length ≠ 2 := by
  match ds with
  | [] => exact .inr (by simp)
  | [_] => exact .inr (by simp)
  | [a, b] => exact .inl ⟨a, b, rfl⟩
  | _ :: _ :: _ :: _ => exact .inr (by simp)
theorem tupn3 (ds : List D) : (∃ a b c, ds = [a, b, c]) ∨ ds.length ≠ 3 := by
  match ds with
  | [] => exact .inr (by simp)
  | [_] => exact .inr (by simp)
  | [_, _] => exact .inr (by simp)
  | [a, b, c] => exact .inl ⟨a, b, c, rfl⟩
  | _ :: _ :: _ :: _ :: _ => exact .inr (by simp)
theorem tupn4 (ds : List D) : (∃ a b c d r, ds = a :: b :: c :: d :: r) ∨ ds.length < 4 := by
  match ds with
  | [] => exact .inr (by simp)
  | [_] => exact .inr (by simp)
  | [_, _] => exact .inr (by simp)
  | [_, _, _] => exact .inr (by simp)
  | a :: b :: c :: d :: r => exact .inl ⟨a, b, c, d, r, rfl⟩
/-! what is a number, a store, a row, a name -/
def storeV : D → Bool
  | .tup [.int a, .int b, .int c] => [D.int a, .int b, .int c].all (fun d => numB d 0) && (decide (1 ≤ a) && (decide (a ≤ 6) && (decide (3 * c + 1 ≤ b) && decide (b ≤ 13))))
  | _ => false
def rowV (n : Int) : D → Bool
  | .tup ds => decide ((ds.length : Int) = n) && ds.all (fun d => numB d 0)
  | _ => false
def nameV : D → Bool
  | .tup [a, b] => strIs "name" a && numB b 0
  | _ => false
def namesV : D → Bool
  | .tup ds => ds.all nameV
  | _ => false
def ltV : D → Bool
  | .tup [.tup [_, .int a], .tup [_, .int b]] => decide (a < b)
  | _ => false
def risV : D → Bool
  | .tup ds => ds.all nameV && (zipD ds (ds.drop 1)).all ltV
  | _ => false
theorem nameV_of {d : D} (h : nameV d = true) : ∃ n : Int, d = .tup [.str "name", .int n] ∧ 0 ≤ n ∧ n < 10 ^ 18 := by
  unfold nameV at h
  split at h
  · rename_i a b
    rw [Bool.and_eq_true] at h
    obtain ⟨n, rfl, hn⟩ := numB_int h.2
    cases a <;> first
      | (have h1 := h.1; simp only [strIs, decide_eq_true_eq] at h1; subst h1; exact ⟨n, rfl, hn⟩)
      | (have h1 := h.1; cases h1)
  · cases h
section
variable {Θ : AbsI} {K : PySem.W.Frag} {Γ : GEnv} {CS : Addr} {G : GH} {DQ : DK} {DX : DE → GH → Prop}
theorem spn_any {v : D} {low : Int} {Q : DK} {X : DE → GH → Prop} {k : Kd} (h : kdOf G v = some k) : sp_is_number [v, .int low] G Q X = Q (.bl (numB v low)) G := propext ⟨fun h => h.2, fun q => ⟨by rw [h]; rfl, q⟩⟩
def sp_any1 (f : D → Bool) : DSp := fun ds G Q X => ∃ v, ds = [v] ∧ KnA G v ∧ Q (.bl (f v)) G
theorem sp_any1_e {f : D → Bool} {v : D} {Q : DK} {X : DE → GH → Prop} (h : KnA G v) (q : Q (.bl (f v)) G) : sp_any1 f [v] G Q X := ⟨v, rfl, h, q⟩
def szT (d : D) : Prop := match d with
  | .tup ds => ds.length ≤ 1000
  | _ => True
/-- the tuples of a value are not long -/
inductive SzA (n : Nat) : D → Prop
  | o {x : D} : isTupB x = false → SzA n x
  | tp {ds : List D} : ds.length ≤ n → (∀ e ∈ ds, SzA n e) → SzA n (.tup ds)
theorem SzA.len {n : Nat} {ds : List D} (h : SzA n (.tup ds)) : ds.length ≤ n := by
  cases h with
  | o h => cases h
  | tp h _ => exact h
theorem SzA.mem {n : Nat} {ds : List D} (h : SzA n (.tup ds)) : ∀ e ∈ ds, SzA n e := by
  cases h with
  | o h => cases h
  | tp _ h => exact h
theorem SzA.mono {n m : Nat} {x : D} (h : SzA n x) (hm : n ≤ m) : SzA m x := by
  induction h with
  | o h => exact .o h
  | tp h _ ih => exact .tp (by omega) ih
def sp_anyS (f : D → Bool) : DSp := fun ds G Q X => ∃ v, ds = [v] ∧ KnA G v ∧ SzA 1000 v ∧ Q (.bl (f v)) G
theorem p_nameA {f : Addr} (h1 : Γ.g "isinstance" = .blt) (h2 : Γ.g "tuple" = .blt) (h3 : Γ.g "len" = .blt) (h4 : Γ.g "str" = .blt) (h5 : Γ.g "is_number" = .fn f ["value", "low"] sp_is_number []) {v : D} (hv : KnA G v) (q : DQ (.bl (nameV v)) G) :
    T_has_name_form Γ K CS (dEnds Θ K DQ DX) (startD N_has_name_form [v]) G := by
  obtain ⟨k, hk⟩ := hv.kd
  show T_has_name_form Γ K CS _ [some v] G
  unfold T_has_name_form
  rcases tup_or v with ⟨ds, rfl⟩ | hn
  · rcases tupn2 ds with ⟨a, b, rfl⟩ | hl
    · obtain ⟨ha, hb⟩ := hv.tup2
      obtain ⟨k1, e1⟩ := ha.kd
      obtain ⟨k2, e2⟩ := hb.kd
      rcases str_or a with ⟨w, rfl⟩ | hs
      · push_cast [↓isBlt_h h1, ↓isBlt_h h2, ↓isBlt_h h3, ↓isBlt_h h4, ↓dCall_h h5, ↓dCallK_h h5, ↓spn_any e2]
        exact back q
      · push_cast [↓isBlt_h h1, ↓isBlt_h h2, ↓isBlt_h h3, ↓isBlt_h h4, ↓isA_str e1, hs]
        refine back ?_
        rw [nameV, strIs_no hs, Bool.false_and] at q
        exact q
    · have e : decide ((ds.length : Int) = 2) = false := decide_eq_false (by omega)
      push_cast [↓isBlt_h h1, ↓isBlt_h h2, ↓isBlt_h h3, e]
      refine back ?_
      have : nameV (.tup ds) = false := by
        unfold nameV
        split
        · rename_i z; cases z; exact absurd rfl hl
        · rfl
      rw [this] at q
      exact q
  · push_cast [↓isBlt_h h1, ↓isBlt_h h2, ↓isA_tuple hk, hn]
    refine back ?_
    have : nameV v = false := by
      unfold nameV
      split
      · cases hn
      · rfl
    rw [this] at q
    exact q
theorem p_namesA {f : Addr} (h1 : Γ.g "isinstance" = .blt) (h2 : Γ.g "tuple" = .blt) (h4 : Γ.g "all" = .blt) (h5 : Γ.g "has_name_form" = .fn f ["value"] (sp_any1 nameV) []) {v : D} (hv : KnA G v) (hz : SzA 1000 v) (q : DQ (.bl (namesV v)) G) :
    T_are_names Γ K CS (dEnds Θ K DQ DX) (startD N_are_names [v]) G := by
  obtain ⟨k, hk⟩ := hv.kd
  show T_are_names Γ K CS _ [some v, none, none] G
  unfold T_are_names
  rcases tup_or v with ⟨ds, rfl⟩ | hn
  · have hl := hz.len
    push_cast [↓isBlt_h h1, ↓isBlt_h h2, ↓isBlt_h h4]
    refine ⟨size_le (by omega), dLcL_map (fun d => .bl (nameV d)) trivial _ (fun d hd R hR => ?_) _ (fun p hp => rAll_of nameV lst_new (backN hp q))⟩
    push_cast [wipeD, ↓dCall_h h5, ↓dCallK_h h5]
    exact sp_any1_e (hv.mem d hd) hR
  · push_cast [↓isBlt_h h1, ↓isBlt_h h2, ↓isA_tuple hk, hn]
    refine back ?_
    have : namesV v = false := by
      unfold namesV
      split
      · cases hn
      · rfl
    rw [this] at q
    exact q
theorem p_risingA {f : Addr} (h1 : Γ.g "isinstance" = .blt) (h2 : Γ.g "tuple" = .blt) (h3 : Γ.g "zip" = .blt) (h4 : Γ.g "all" = .blt) (h5 : Γ.g "has_name_form" = .fn f ["value"] (sp_any1 nameV) []) {v : D} (hv : KnA G v) (hz : SzA 1000 v) (q : DQ (.bl (risV v)) G) :
    T_are_rising Γ K CS (dEnds Θ K DQ DX) (startD N_are_rising [v]) G := by
  obtain ⟨k, hk⟩ := hv.kd
  show T_are_rising Γ K CS _ [some v, none, none, none, none] G
  unfold T_are_rising
  refine dSeq_n fun N hN => ?_
  rcases tup_or v with ⟨ds, rfl⟩ | hn
  · have hl := hz.len
    push_cast [↓isBlt_h h1, ↓isBlt_h h2, ↓isBlt_h h4]
    refine ⟨size_le (by omega), dLcL_map (fun d => .bl (nameV d)) trivial _ (fun d hd R hR => ?_) _ (fun p hp => rAll_of nameV lst_new ?_)⟩
    · push_cast [wipeD, ↓dCall_h h5, ↓dCallK_h h5]
      exact sp_any1_e (hv.mem d hd) hR
    cases e : ds.all nameV with
    | false =>
      push_cast []
      refine backN hp ?_
      rw [risV, e, Bool.false_and] at q
      exact q
    | true =>
      push_cast []
      refine hN _ _ ?_
      clear hN N
      have sub : GSub G (gup G p (.lst (ds.map fun d => .bl (nameV d)))) := GSub.new hp
      generalize gup G p (.lst (ds.map fun d => .bl (nameV d))) = G1 at sub ⊢
      have zl : (zipD ds (ds.drop 1)).length ≤ 1000 := by
        have : ∀ xs ys : List D, (zipD xs ys).length ≤ xs.length := fun xs ys => by
          induction xs generalizing ys with
          | nil => cases ys <;> exact Nat.le_refl _
          | cons x xs ih => cases ys with
            | nil => exact Nat.zero_le _
            | cons y ys => exact Nat.succ_le_succ (ih ys)
        exact Nat.le_trans (this _ _) hl
      have c1 : cutD ds (some 1) none = ds.drop 1 := cut_from (n := 1)
      push_cast [↓isBlt_h h4, ↓isBlt_h h3, c1]
      refine ⟨size_le (by omega), dLcL_map (fun d => .bl (ltV d)) trivial _ (fun d hd R hR => ?_) _ (fun p hp => rAll_of ltV lst_new ?_)⟩
      · obtain ⟨x, hx, y, hy, rfl⟩ := zipD_mem hd
        obtain ⟨n, rfl, _⟩ := nameV_of (List.all_eq_true.mp e x hx)
        obtain ⟨m, rfl, _⟩ := nameV_of (List.all_eq_true.mp e y (List.mem_of_mem_drop hy))
        push_cast [wipeD]
        exact hR
      · refine Sb.fin (sub.new2 hp) ?_
        rw [risV, e, Bool.true_and] at q
        exact q
  · push_cast [↓isBlt_h h1, ↓isBlt_h h2, ↓isA_tuple hk, hn]
    refine back ?_
    have : risV v = false := by
      unfold risV
      split
      · cases hn
      · rfl
    rw [this] at q
    exact q
def sp_rowA : DSp := fun ds G Q X => ∃ (v : D) (n : Int), ds = [v, .int n] ∧ KnA G v ∧ SzA 1000 v ∧ Q (.bl (rowV n v)) G
theorem p_rowA {f : Addr} (h1 : Γ.g "isinstance" = .blt) (h2 : Γ.g "tuple" = .blt) (h3 : Γ.g "len" = .blt) (h4 : Γ.g "all" = .blt) (h5 : Γ.g "is_number" = .fn f ["value", "low"] sp_is_number []) {v : D} {n : Int} (hv : KnA G v) (hz : SzA 1000 v) (q : DQ (.bl (rowV n v)) G) :
    T_is_row Γ K CS (dEnds Θ K DQ DX) (startD N_is_row [v, .int n]) G := by
  obtain ⟨k, hk⟩ := hv.kd
  show T_is_row Γ K CS _ [some v, some (.int n), none, none] G
  unfold T_is_row
  rcases tup_or v with ⟨ds, rfl⟩ | hn
  · have hl := hz.len
    push_cast [↓isBlt_h h1, ↓isBlt_h h2, ↓isBlt_h h3, ↓isBlt_h h4]
    refine ⟨fun e => ⟨size_le (by omega), dLcL_map (fun d => .bl (numB d 0)) trivial _ (fun d hd R hR => ?_) _ (fun p hp => rAll_of (fun d => numB d 0) lst_new (backN hp ?_))⟩, fun e => back ?_⟩
    · obtain ⟨k2, e2⟩ := (hv.mem d hd).kd
      push_cast [wipeD, ↓dCall_h h5, ↓dCallK_h h5, ↓spn_any e2]
      exact hR
    · rw [rowV, e, Bool.true_and] at q
      exact q
    · rw [rowV, e, Bool.false_and] at q
      rw [e]
      exact q
  · push_cast [↓isBlt_h h1, ↓isBlt_h h2, ↓isA_tuple hk, hn]
    refine back ?_
    have : rowV n v = false := by
      unfold rowV
      split
      · cases hn
      · rfl
    rw [this] at q
    exact q
theorem p_storeA {f : Addr} (h1 : Γ.g "isinstance" = .blt) (h2 : Γ.g "tuple" = .blt) (h3 : Γ.g "len" = .blt) (h4 : Γ.g "all" = .blt) (h5 : Γ.g "is_number" = .fn f ["value", "low"] sp_is_number []) (h6 : Γ.g "MOST_HANDS" = .con (.int 6)) (h7 : Γ.g "MOST_HOUSES" = .con (.int 13))
    {v : D} (hv : KnA G v) (q : DQ (.bl (storeV v)) G) : T_is_store Γ K CS (dEnds Θ K DQ DX) (startD N_is_store [v]) G := by
  obtain ⟨k, hk⟩ := hv.kd
  show T_is_store Γ K CS _ [some v, none, none, none, none, none] G
  unfold T_is_store
  have no : ∀ d, storeV d = false → d = v → DQ (.bl false) G := fun d h e => by subst e; rw [h] at q; exact q
  refine dSeq_n fun N hN => ?_
  rcases tup_or v with ⟨ds, rfl⟩ | hn
  · rcases tupn3 ds with ⟨a, b, c, rfl⟩ | hl
    · push_cast [↓isBlt_h h1, ↓isBlt_h h2, ↓isBlt_h h3, ↓isBlt_h h4]
      refine dLcL_map (fun d => .bl (numB d 0)) trivial _ (fun d hd R hR => ?_) _ (fun p hp => rAll_of (fun d => numB d 0) lst_new ?_)
      · obtain ⟨k2, e2⟩ := (hv.mem d hd).kd
        push_cast [wipeD, ↓dCall_h h5, ↓dCallK_h h5, ↓spn_any e2]
        exact hR
      cases e : [a, b, c].all (fun d => numB d 0) with
      | false =>
        push_cast []
        refine backN hp (no _ ?_ rfl)
        unfold storeV
        split
        · rename_i z; cases z; rw [e, Bool.false_and]
        · rfl
      | true =>
        have e0 := e
        simp only [List.all_cons, List.all_nil, Bool.and_true, Bool.and_eq_true] at e
        obtain ⟨i, rfl, i0, i1⟩ := numB_int e.1
        obtain ⟨j, rfl, j0, j1⟩ := numB_int e.2.1
        obtain ⟨l, rfl, l0, l1⟩ := numB_int e.2.2
        push_cast []
        refine hN _ _ ?_
        clear hN N
        rw [storeV, e0, Bool.true_and] at q
        push_cast [↓dGlob_c h6, ↓dGlob_c h7, imul_t (i := 3) (j := l) (by decide) (by decide)]
        exact backN hp q
    · have e : decide ((ds.length : Int) = 3) = false := decide_eq_false (by omega)
      push_cast [↓isBlt_h h1, ↓isBlt_h h2, ↓isBlt_h h3, e]
      refine back (no _ ?_ rfl)
      unfold storeV
      split
      · rename_i z; cases z; exact absurd rfl hl
      · rfl
  · push_cast [↓isBlt_h h1, ↓isBlt_h h2, ↓isA_tuple hk, hn]
    refine back (no _ ?_ rfl)
    unfold storeV
    split
    · cases hn
    · rfl
def sp_need_storeA (C : Addr) : DSp := fun ds G Q X => ∃ v : D, ds = [v] ∧ KnA G v ∧ (storeV v = true → Q .non G) ∧ (storeV v = false → X ⟨C, []⟩ G)
theorem p_need_storeA {f C : Addr} (h1 : Γ.g "is_store" = .fn f ["value"] (sp_any1 storeV) []) (h2 : Γ.g "BadStore" = .exc C) {v : D} (hv : KnA G v) (h : storeV v = true → DQ .non G) (h' : storeV v = false → DX ⟨C, []⟩ G) :
    T_need_store Γ K CS (dEnds Θ K DQ DX) (startD N_need_store [v]) G := by
  show T_need_store Γ K CS _ [some v] G
  unfold T_need_store
  push_cast [↓dCall_h h1, ↓dCallK_h h1, ↓dGlob_e h2, ↓dRaise_h h2]
  refine sp_any1_e hv ?_
  cases e : storeV v with
  | true =>
    push_cast []
    exact back (h e)
  | false =>
    push_cast []
    exact ⟨G, RepTo.refl, h' e⟩
theorem p_wholeA (h1 : Γ.g "isinstance" = .blt) (h2 : Γ.g "int" = .blt) (h3 : Γ.g "bool" = .blt) {v : D} (hv : KnA G v) (q : DQ (.bl (isIntB v && !isBlB v)) G) : T__law_is_whole Γ K CS (dEnds Θ K DQ DX) (startD N__law_is_whole [v]) G := by
  obtain ⟨k, hk⟩ := hv.kd
  show T__law_is_whole Γ K CS _ [some v] G
  unfold T__law_is_whole
  push_cast [↓isBlt_h h1, ↓isBlt_h h2, ↓isBlt_h h3, ↓isA_int hk, ↓isA_bool hk]
  exact back q
end
end Dl

namespace Dl
open PySem PySem.Spec PyProof.Rows L2
local macro_rules
  | `(tactic| push_cast [$xs,*]) => `(tactic| simp only [↓dSeq_e, ↓dDrop_e, ↓dRet_e, ↓dRetN_e, ↓dIfS_e, ↓dgName_e, ↓dgNil_nil, ↓dgCons_cons, ↓dgTup_tup, ↓dAsg_e, ↓dPar_e, ↓dPar3_e, ↓dgSub_e, ↓dFor_e, ↓dVar_0, ↓dVar_s, ↓dC_e, ↓dBin_e, ↓dUn_e, ↓dChain_i, ↓chN_bl, ↓rt_cond, c_and, c_or, c_nand, c_self, c_self2, Int.cast_ofNat_Int, Int.reduceEq, Int.reduceLT, Int.reduceLE, Int.reduceAdd, Int.reduceSub, Int.reduceMul, Int.reduceNeg, Int.reduceNe, decide_true, decide_false, eq_self, ↓rTru_bl, ↓rTru_int, ↓rTru_non, ↓rTru_tup, ↓dTru_e, ↓dTAnd_e, ↓dTOr_e, ↓dTNot_e, ↓dAnd_e, ↓dOr_e, ↓dNot_e, ↓dIf_e, ↓dNil_e, ↓dCons_e, ↓dTup_e, ↓dLst_e, ↓dBc_e, ↓dBty_e, ↓dBi_e, ↓dGlob_con, ↓dGlob_fn, ↓dGlob_cls, ↓dGlob_exc, ↓dRaise_exc, ↓dCall_fn, ↓dCall_cls, ↓dCallK_fn, ↓dNoPart_e, ↓dPart_i, ↓pPart_int, ↓dSlice_e, ↓rSl_tup, ↓dISeq_i, ↓dIRng1_i, ↓dIRng2_i, ↓dIZip_i, ↓dIEnum_i, ↓dFld_i, ↓dFldSet_i, ↓dMeth_i, ↓dMethK_i, ↓iSeq_tup, ↓iR1_int, ↓iR2_int, ↓iZp_tup, ↓dLM_e, ↓dNext_e, ↓dBreak_e, ↓dCont_e, ↓dDisp_e, ↓dPairs_n, ↓dPairs_c, ↓dYes_e, ↓dLc_e, ↓arg0_nil, ↓arg1_one, ↓arg2_two, ↓arg3_three, ↓isBlt_b, startD, ↓dIte_t, ↓dIte_f, ↓rAdd_ii, ↓rSub_ii, ↓rMul_ii, ↓rFdiv_ii, ↓rMod_ii, ↓rPow_ii, ↓rIAdd_ii, ↓rISub_ii, ↓rNeg_i, ↓rLt_ii, ↓rLe_ii, ↓rGt_ii, ↓rGe_ii, ↓rEq_ii, ↓rEq_ss, ↓rEq_bb, ↓rNe_ii, ↓rNe_ss, ↓rInt_i, ↓rAbs_i, ↓rLen_t, ↓rIxt0, ↓rIxt1, ↓rIxt2, ↓rIxt3, ↓rIxt4, ↓rIxt5, ↓rIxt6, ↓rIxt7, ↓isi_non_int, ↓isi_non_bool, ↓isi_non_str, ↓isi_non_list, ↓isi_non_tuple, ↓isi_non_dict, ↓isi_bl_int, ↓isi_bl_bool, ↓isi_bl_str, ↓isi_bl_list, ↓isi_bl_tuple, ↓isi_bl_dict, ↓isi_int_int, ↓isi_int_bool, ↓isi_int_str, ↓isi_int_list, ↓isi_int_tuple, ↓isi_int_dict, ↓isi_str_int, ↓isi_str_bool, ↓isi_str_str, ↓isi_str_list, ↓isi_str_tuple, ↓isi_str_dict, ↓isi_tup_int, ↓isi_tup_bool, ↓isi_tup_str, ↓isi_tup_list, ↓isi_tup_tuple, ↓isi_tup_dict, List.map_cons, List.map_nil, List.length_cons, List.length_nil, List.cons_append, List.nil_append, List.getElem?_cons_zero, List.getElem?_cons_succ, List.set_cons_zero, List.set_cons_succ, List.replicate_succ, List.replicate_zero, Int.reduceToNat, Nat.reduceSub, Nat.reduceAdd, true_and, and_true, Bool.not_true, Bool.not_false, Bool.true_and, Bool.and_true, Bool.false_and, Bool.and_false, Bool.false_or, Bool.or_false, Bool.true_or, Bool.or_true, Bool.not_not, ↓dLc2_e, ↓dLRg1_e, ↓dRev_e, ↓dLenSet_e, ↓rSorted_e, ↓dSrtSet_e, ↓iEn_tup, ↓rMul_ii, ↓rMul_ti, size_lit, str_inj, String.reduceEq, Nat.reduceLeDiff, Nat.reducePow, Int.reducePow, $xs,*])
/-! ### letters, of any value -/
def ltI (n : Int) : D → Bool
  | .int i => decide (i < n)
  | _ => false
def endV (w : Str) (n : Int) : D → Bool
  | .tup [a, b] => strIs w a && (numB b 0 && ltI n b)
  | _ => false
def rndV (b c : D) : Bool := numB b 1 && numB c 1
def handV (h : Int) : D → Bool
  | .tup [a, b, c, e] => strIs "keep" a && (rndV b c && namesV e)
  | .tup [a, b, c, e, f] => strIs "ask" a && (rndV b c && (rowV h e && risV f))
  | _ => false
def houseV : D → Bool
  | .tup [a, b, c, e] => strIs "kept" a && (rndV b c && nameV e)
  | .tup [a, b, c, e, f] => strIs "have" a && (rndV b c && (namesV e && nameV f))
  | _ => false
def letterV (h o : Int) : D → Bool
  | .tup [x, y, z] => bif endV "hand" h x then (endV "house" o y && handV h z) else (endV "house" o x && (endV "hand" h y && houseV z))
  | _ => false
theorem strIs_two {a : D} {w u : Str} (h : strIs w a = true) (hn : w ≠ u) : strIs u a = false := by
  cases a <;> first
    | (simp only [strIs, decide_eq_true_eq] at h; subst h; exact decide_eq_false hn)
    | cases h
section
variable {Θ : AbsI} {K : PySem.W.Frag} {Γ : GEnv} {CS : Addr} {G : GH} {DQ : DK} {DX : DE → GH → Prop}
def sp_endA : DSp := fun ds G Q X => ∃ (v : D) (w : Str) (n : Int), ds = [v, .str w, .int n] ∧ KnA G v ∧ Q (.bl (endV w n v)) G
theorem p_endA {f : Addr} (h1 : Γ.g "isinstance" = .blt) (h2 : Γ.g "tuple" = .blt) (h3 : Γ.g "len" = .blt) (h4 : Γ.g "str" = .blt) (h5 : Γ.g "is_number" = .fn f ["value", "low"] sp_is_number []) {v : D} {w : Str} {n : Int} (hv : KnA G v) (q : DQ (.bl (endV w n v)) G) :
    T_is_end Γ K CS (dEnds Θ K DQ DX) (startD N_is_end [v, .str w, .int n]) G := by
  obtain ⟨k, hk⟩ := hv.kd
  show T_is_end Γ K CS _ [some v, some (.str w), some (.int n)] G
  unfold T_is_end
  have no : endV w n v = false → DQ (.bl false) G := fun h => by rw [h] at q; exact q
  refine dSeq_n fun N hN => ?_
  rcases tup_or v with ⟨ds, rfl⟩ | hn
  · rcases tupn2 ds with ⟨a, b, rfl⟩ | hl
    · obtain ⟨ha, hb⟩ := hv.tup2
      obtain ⟨k1, e1⟩ := ha.kd
      obtain ⟨k2, e2⟩ := hb.kd
      rcases str_or a with ⟨u, rfl⟩ | hs
      · push_cast [↓isBlt_h h1, ↓isBlt_h h2, ↓isBlt_h h3, ↓isBlt_h h4]
        refine hN _ _ ?_
        clear hN N
        push_cast [↓dCall_h h5, ↓dCallK_h h5, ↓spn_any e2]
        have e0 : strIs w (.str u) = decide (u = w) := rfl
        cases e : numB b 0 with
        | false =>
          push_cast []
          refine back ?_
          rw [endV, e, e0, Bool.false_and, Bool.and_false] at q
          simpa using q
        | true =>
          obtain ⟨i, rfl, _⟩ := numB_int e
          push_cast []
          refine back ?_
          rw [endV, e, e0, Bool.true_and] at q
          exact q
      · push_cast [↓isBlt_h h1, ↓isBlt_h h2, ↓isBlt_h h3, ↓isBlt_h h4, ↓isA_str e1, hs]
        refine back (no ?_)
        rw [endV, strIs_no hs, Bool.false_and]
    · have e : decide ((ds.length : Int) = 2) = false := decide_eq_false (by omega)
      push_cast [↓isBlt_h h1, ↓isBlt_h h2, ↓isBlt_h h3, e]
      refine back (no ?_)
      unfold endV
      split
      · rename_i z; cases z; exact absurd rfl hl
      · rfl
  · push_cast [↓isBlt_h h1, ↓isBlt_h h2, ↓isA_tuple hk, hn]
    refine back (no ?_)
    unfold endV
    split
    · cases hn
    · rfl
def sp_roundA : DSp := fun ds G Q X => ∃ (a b c : D) (r : List D) (n : Int), ds = [.tup (a :: b :: c :: r), .int n] ∧ KnA G b ∧ KnA G c ∧ Q (.bl (decide (((a :: b :: c :: r).length : Int) = n) && rndV b c)) G
theorem p_roundA {f : Addr} (h3 : Γ.g "len" = .blt) (h5 : Γ.g "is_number" = .fn f ["value", "low"] sp_is_number []) {a b c : D} {r : List D} {n : Int} (hb : KnA G b) (hc : KnA G c) (q : DQ (.bl (decide (((a :: b :: c :: r).length : Int) = n) && rndV b c)) G) :
    T_is_round Γ K CS (dEnds Θ K DQ DX) (startD N_is_round [.tup (a :: b :: c :: r), .int n]) G := by
  obtain ⟨k1, e1⟩ := hb.kd
  obtain ⟨k2, e2⟩ := hc.kd
  show T_is_round Γ K CS _ [some (.tup (a :: b :: c :: r)), some (.int n)] G
  unfold T_is_round
  generalize hl : (a :: b :: c :: r).length = l at q
  push_cast [↓isBlt_h h3, ↓dCall_h h5, ↓dCallK_h h5, ↓spn_any e1, ↓spn_any e2, hl]
  exact back q
def sp_bodyA (h : Bool) : DSp := fun ds G Q X => ∃ (s : List D) (a : Int) (v : D), (ds = if h then [.tup (.int a :: s), v] else [v]) ∧ KnA G v ∧ SzA 1000 v ∧ Q (.bl (bif h then handV a v else houseV v)) G
theorem len_ge {a b c d e f : D} {r : List D} (n : Int) (h : n ≤ 5) : decide (((a :: b :: c :: d :: e :: f :: r).length : Int) = n) = false := decide_eq_false (by simp only [List.length_cons]; omega)
theorem p_houseA {f g h : Addr} (h1 : Γ.g "isinstance" = .blt) (h2 : Γ.g "tuple" = .blt) (h3 : Γ.g "len" = .blt) (h4 : Γ.g "str" = .blt) (h5 : Γ.g "is_round" = .fn f ["body", "many"] sp_roundA []) (h6 : Γ.g "are_names" = .fn g ["value"] (sp_anyS namesV) []) (h7 : Γ.g "has_name_form" = .fn h ["value"] (sp_any1 nameV) [])
    {v : D} (hv : KnA G v) (hz : SzA 1000 v) (q : DQ (.bl (houseV v)) G) : T_is_house_body Γ K CS (dEnds Θ K DQ DX) (startD N_is_house_body [v]) G := by
  obtain ⟨k, hk⟩ := hv.kd
  show T_is_house_body Γ K CS _ [some v] G
  unfold T_is_house_body
  have no : houseV v = false → DQ (.bl false) G := fun h => by rw [h] at q; exact q
  refine dSeq_n fun N hN => ?_
  rcases tup_or v with ⟨ds, rfl⟩ | hn
  rotate_left
  · push_cast [↓isBlt_h h1, ↓isBlt_h h2, ↓isA_tuple hk, hn]
    refine back (no ?_)
    unfold houseV
    split
    · cases hn
    · cases hn
    · rfl
  rcases tupn4 ds with ⟨a, b, c, d, r, rfl⟩ | hl
  rotate_left
  · have e : decide ((ds.length : Int) < 4) = true := decide_eq_true (by omega)
    push_cast [↓isBlt_h h1, ↓isBlt_h h2, ↓isBlt_h h3, e]
    refine back (no ?_)
    unfold houseV
    split
    · rename_i z; cases z; simp at hl
    · rename_i z; cases z; simp at hl
    · rfl
  have ha := hv.mem a (by simp)
  have hb := hv.mem b (by simp)
  have hc := hv.mem c (by simp)
  have hd := hv.mem d (by simp)
  obtain ⟨k1, e1⟩ := ha.kd
  have e4 : decide (((r.length + 1 + 1 + 1 + 1 : Nat) : Int) < 4) = false := decide_eq_false (by omega)
  rcases str_or a with ⟨w, rfl⟩ | hs
  rotate_left
  · push_cast [↓isBlt_h h1, ↓isBlt_h h2, ↓isBlt_h h3, ↓isBlt_h h4, e4, ↓isA_str e1, hs]
    refine back (no ?_)
    unfold houseV
    split
    · rename_i z; cases z; rw [strIs_no hs, Bool.false_and]
    · rename_i z; cases z; rw [strIs_no hs, Bool.false_and]
    · rfl
  push_cast [↓isBlt_h h1, ↓isBlt_h h2, ↓isBlt_h h3, ↓isBlt_h h4, e4]
  refine hN _ _ ?_
  clear hN N
  refine dSeq_n fun N hN => ?_
  by_cases hw : w = "have"
  · subst hw
    have st : strIs "have" (.str "have") = true := rfl
    have st2 : strIs "kept" (.str "have") = false := by decide +kernel
    push_cast [↓dCall_h h5, ↓dCallK_h h5]
    refine ⟨_, _, _, _, _, rfl, hb, hc, ?_⟩
    rcases r with _ | ⟨e, _ | ⟨f, r⟩⟩
    · push_cast []
      refine back (no ?_)
      rw [houseV, st2, Bool.false_and]
    · push_cast []
      rw [houseV, st, Bool.true_and] at q
      cases er : rndV b c with
      | false =>
        rw [er, Bool.false_and] at q
        push_cast []
        exact back q
      | true =>
        rw [er, Bool.true_and] at q
        push_cast [↓dCall_h h6, ↓dCallK_h h6]
        refine ⟨_, rfl, hd, hz.mem d (by simp), ?_⟩
        cases en : namesV d with
        | false =>
          rw [en, Bool.false_and] at q
          push_cast []
          exact back q
        | true =>
          rw [en, Bool.true_and] at q
          push_cast [↓dCall_h h7, ↓dCallK_h h7]
          exact ⟨_, rfl, hv.mem e (by simp), back q⟩
    · rw [len_ge 5 (by decide)]
      push_cast []
      exact back (no rfl)
  · have e2 : decide (w = "have") = false := decide_eq_false hw
    have st : strIs "have" (.str w) = false := e2
    push_cast [e2]
    refine hN _ _ ?_
    clear hN N
    by_cases hw2 : w = "kept"
    · subst hw2
      have st2 : strIs "kept" (.str "kept") = true := rfl
      push_cast [↓dCall_h h5, ↓dCallK_h h5]
      refine ⟨_, _, _, _, _, rfl, hb, hc, ?_⟩
      rcases r with _ | ⟨e, r⟩
      · push_cast []
        rw [houseV, st2, Bool.true_and] at q
        cases er : rndV b c with
        | false =>
          rw [er, Bool.false_and] at q
          push_cast []
          exact back q
        | true =>
          rw [er, Bool.true_and] at q
          push_cast [↓dCall_h h7, ↓dCallK_h h7]
          exact ⟨_, rfl, hd, back q⟩
      · have e5 : decide (((D.str "kept" :: b :: c :: d :: e :: r).length : Int) = 4) = false := decide_eq_false (by simp only [List.length_cons]; omega)
        rw [e5]
        push_cast []
        refine back (no ?_)
        rcases r with _ | ⟨f, r⟩
        · rw [houseV, st, Bool.false_and]
        · rfl
    · have e3 : decide (w = "kept") = false := decide_eq_false hw2
      have st2 : strIs "kept" (.str w) = false := e3
      push_cast [e3]
      refine back (no ?_)
      unfold houseV
      split
      · rename_i z; cases z; rw [st2, Bool.false_and]
      · rename_i z; cases z; rw [st, Bool.false_and]
      · rfl
theorem p_handA {f g h i : Addr} (h1 : Γ.g "isinstance" = .blt) (h2 : Γ.g "tuple" = .blt) (h3 : Γ.g "len" = .blt) (h4 : Γ.g "str" = .blt) (h5 : Γ.g "is_round" = .fn f ["body", "many"] sp_roundA []) (h6 : Γ.g "are_names" = .fn g ["value"] (sp_anyS namesV) []) (h7 : Γ.g "is_row" = .fn h ["value", "hands"] sp_rowA []) (h8 : Γ.g "are_rising" = .fn i ["value"] (sp_anyS risV) [])
    {s : List D} {m : Int} {v : D} (hv : KnA G v) (hz : SzA 1000 v) (q : DQ (.bl (handV m v)) G) : T_is_hand_body Γ K CS (dEnds Θ K DQ DX) (startD N_is_hand_body [.tup (.int m :: s), v]) G := by
  obtain ⟨k, hk⟩ := hv.kd
  show T_is_hand_body Γ K CS _ [some (.tup (.int m :: s)), some v] G
  unfold T_is_hand_body
  have no : handV m v = false → DQ (.bl false) G := fun h => by rw [h] at q; exact q
  refine dSeq_n fun N hN => ?_
  rcases tup_or v with ⟨ds, rfl⟩ | hn
  rotate_left
  · push_cast [↓isBlt_h h1, ↓isBlt_h h2, ↓isA_tuple hk, hn]
    refine back (no ?_)
    unfold handV
    split
    · cases hn
    · cases hn
    · rfl
  rcases tupn4 ds with ⟨a, b, c, d, r, rfl⟩ | hl
  rotate_left
  · have e : decide ((ds.length : Int) < 4) = true := decide_eq_true (by omega)
    push_cast [↓isBlt_h h1, ↓isBlt_h h2, ↓isBlt_h h3, e]
    refine back (no ?_)
    unfold handV
    split
    · rename_i z; cases z; simp at hl
    · rename_i z; cases z; simp at hl
    · rfl
  have ha := hv.mem a (by simp)
  have hb := hv.mem b (by simp)
  have hc := hv.mem c (by simp)
  have hd := hv.mem d (by simp)
  obtain ⟨k1, e1⟩ := ha.kd
  have e4 : decide (((r.length + 1 + 1 + 1 + 1 : Nat) : Int) < 4) = false := decide_eq_false (by omega)
  rcases str_or a with ⟨w, rfl⟩ | hs
  rotate_left
  · push_cast [↓isBlt_h h1, ↓isBlt_h h2, ↓isBlt_h h3, ↓isBlt_h h4, e4, ↓isA_str e1, hs]
    refine back (no ?_)
    unfold handV
    split
    · rename_i z; cases z; rw [strIs_no hs, Bool.false_and]
    · rename_i z; cases z; rw [strIs_no hs, Bool.false_and]
    · rfl
  push_cast [↓isBlt_h h1, ↓isBlt_h h2, ↓isBlt_h h3, ↓isBlt_h h4, e4]
  refine hN _ _ ?_
  clear hN N
  refine dSeq_n fun N hN => ?_
  by_cases hw : w = "ask"
  · subst hw
    have st : strIs "ask" (.str "ask") = true := rfl
    have st2 : strIs "keep" (.str "ask") = false := by decide +kernel
    push_cast [↓dCall_h h5, ↓dCallK_h h5]
    refine ⟨_, _, _, _, _, rfl, hb, hc, ?_⟩
    rcases r with _ | ⟨e, _ | ⟨f, r⟩⟩
    · push_cast []
      refine back (no ?_)
      rw [handV, st2, Bool.false_and]
    · push_cast []
      rw [handV, st, Bool.true_and] at q
      cases er : rndV b c with
      | false =>
        rw [er, Bool.false_and] at q
        push_cast []
        exact back q
      | true =>
        rw [er, Bool.true_and] at q
        push_cast [↓dCall_h h7, ↓dCallK_h h7]
        refine ⟨_, _, rfl, hd, hz.mem d (by simp), ?_⟩
        cases en : rowV m d with
        | false =>
          rw [en, Bool.false_and] at q
          push_cast []
          exact back q
        | true =>
          rw [en, Bool.true_and] at q
          push_cast [↓dCall_h h8, ↓dCallK_h h8]
          exact ⟨_, rfl, hv.mem e (by simp), hz.mem e (by simp), back q⟩
    · rw [len_ge 5 (by decide)]
      push_cast []
      exact back (no rfl)
  · have e2 : decide (w = "ask") = false := decide_eq_false hw
    have st : strIs "ask" (.str w) = false := e2
    push_cast [e2]
    refine hN _ _ ?_
    clear hN N
    by_cases hw2 : w = "keep"
    · subst hw2
      have st2 : strIs "keep" (.str "keep") = true := rfl
      push_cast [↓dCall_h h5, ↓dCallK_h h5]
      refine ⟨_, _, _, _, _, rfl, hb, hc, ?_⟩
      rcases r with _ | ⟨e, r⟩
      · push_cast []
        rw [handV, st2, Bool.true_and] at q
        cases er : rndV b c with
        | false =>
          rw [er, Bool.false_and] at q
          push_cast []
          exact back q
        | true =>
          rw [er, Bool.true_and] at q
          push_cast [↓dCall_h h6, ↓dCallK_h h6]
          exact ⟨_, rfl, hd, hz.mem d (by simp), back q⟩
      · have e5 : decide (((D.str "keep" :: b :: c :: d :: e :: r).length : Int) = 4) = false := decide_eq_false (by simp only [List.length_cons]; omega)
        rw [e5]
        push_cast []
        refine back (no ?_)
        rcases r with _ | ⟨f, r⟩
        · rw [handV, st, Bool.false_and]
        · rfl
    · have e3 : decide (w = "keep") = false := decide_eq_false hw2
      have st2 : strIs "keep" (.str w) = false := e3
      push_cast [e3]
      refine back (no ?_)
      unfold handV
      split
      · rename_i z; cases z; rw [st2, Bool.false_and]
      · rename_i z; cases z; rw [st, Bool.false_and]
      · rfl
def sp_handA : DSp := fun ds G Q X => ∃ (s : List D) (m : Int) (v : D), ds = [.tup (.int m :: s), v] ∧ KnA G v ∧ SzA 1000 v ∧ Q (.bl (handV m v)) G
def sp_rightA : DSp := fun ds G Q X => ∃ (s : List D) (m o : Int) (v : D), ds = [.tup (.int m :: .int o :: s), v] ∧ KnA G v ∧ SzA 1000 v ∧ Q (.bl (letterV m o v)) G
theorem p_rightA {f g h : Addr} (h1 : Γ.g "isinstance" = .blt) (h2 : Γ.g "tuple" = .blt) (h3 : Γ.g "len" = .blt) (h5 : Γ.g "is_end" = .fn f ["value", "word", "many"] sp_endA []) (h6 : Γ.g "is_hand_body" = .fn g ["store", "body"] sp_handA []) (h7 : Γ.g "is_house_body" = .fn h ["body"] (sp_anyS houseV) [])
    {s : List D} {m o : Int} {v : D} (hv : KnA G v) (hz : SzA 1000 v) (q : DQ (.bl (letterV m o v)) G) : T_right_letter Γ K CS (dEnds Θ K DQ DX) (startD N_right_letter [.tup (.int m :: .int o :: s), v]) G := by
  obtain ⟨k, hk⟩ := hv.kd
  show T_right_letter Γ K CS _ [some (.tup (.int m :: .int o :: s)), some v, none, none, none] G
  unfold T_right_letter
  have no : letterV m o v = false → DQ (.bl false) G := fun h => by rw [h] at q; exact q
  refine dSeq_n fun N hN => ?_
  rcases tup_or v with ⟨ds, rfl⟩ | hn
  rotate_left
  · push_cast [↓isBlt_h h1, ↓isBlt_h h2, ↓isA_tuple hk, hn]
    refine back (no ?_)
    unfold letterV
    split
    · cases hn
    · rfl
  rcases tupn3 ds with ⟨x, y, z, rfl⟩ | hl
  rotate_left
  · have e : decide ((ds.length : Int) = 3) = false := decide_eq_false (by omega)
    push_cast [↓isBlt_h h1, ↓isBlt_h h2, ↓isBlt_h h3, e]
    refine back (no ?_)
    unfold letterV
    split
    · rename_i z; cases z; exact absurd rfl hl
    · rfl
  have hx := hv.mem x (by simp)
  have hy := hv.mem y (by simp)
  have hzz := hv.mem z (by simp)
  have hs := hz.mem z (by simp)
  push_cast [↓isBlt_h h1, ↓isBlt_h h2, ↓isBlt_h h3]
  refine hN _ _ ?_
  clear hN N
  refine dSeq_n fun N hN => ?_
  push_cast []
  refine hN _ _ ?_
  clear hN N
  refine dSeq_n fun N hN => ?_
  rw [letterV] at q
  push_cast [↓dCall_h h5, ↓dCallK_h h5]
  refine ⟨_, _, _, rfl, hx, ?_⟩
  cases e1 : endV "hand" m x with
  | true =>
    rw [e1, cond_true] at q
    push_cast [↓dCall_h h5, ↓dCallK_h h5]
    refine ⟨_, _, _, rfl, hy, ?_⟩
    cases e2 : endV "house" o y with
    | false =>
      rw [e2, Bool.false_and] at q
      push_cast []
      exact back q
    | true =>
      rw [e2, Bool.true_and] at q
      push_cast [↓dCall_h h6, ↓dCallK_h h6]
      exact ⟨_, _, _, rfl, hzz, hs, back q⟩
  | false =>
    rw [e1, cond_false] at q
    push_cast []
    refine hN _ _ ?_
    clear hN N
    push_cast [↓dCall_h h5, ↓dCallK_h h5]
    refine ⟨_, _, _, rfl, hx, ?_⟩
    cases e2 : endV "house" o x with
    | false =>
      rw [e2, Bool.false_and] at q
      push_cast []
      exact back q
    | true =>
      rw [e2, Bool.true_and] at q
      push_cast [↓dCall_h h5, ↓dCallK_h h5]
      refine ⟨_, _, _, rfl, hy, ?_⟩
      cases e3 : endV "hand" m y with
      | false =>
        rw [e3, Bool.false_and] at q
        push_cast []
        exact back q
      | true =>
        rw [e3, Bool.true_and] at q
        push_cast [↓dCall_h h7, ↓dCallK_h h7]
        exact ⟨_, rfl, hzz, hs, back q⟩
end
end Dl

namespace Dl
open PySem PySem.Spec PyProof.Rows L2
abbrev prog : Program := PySem.Challenge.pw_seenatonce_k25_letters_judged
def top (i : Nat) : Stmt := prog.main.body.getD i (.Pass ⟨0, 0, 0, 0⟩)
def inCls (s : Stmt) (j : Nat) : Stmt := match s with
  | .ClassDef (body := b) .. => b.getD j (.Pass ⟨0, 0, 0, 0⟩)
  | _ => .Pass ⟨0, 0, 0, 0⟩
def csOf (CS : Addr) (x : Str) : Option Addr := if x = "_law_caught" then some CS else none
abbrev s_is_number : Stmt := (top 7)
theorem h_is_number (Γ : GEnv) (K : PySem.W.Frag) (CS : Addr) : (ev 60).Ss ⟨N_is_number, defScope s_is_number, Γ, K, fun _ => true, false, csOf CS⟩ (defBody s_is_number) = T_is_number Γ K CS := by kernel_rfl
theorem sc_is_number : FnScope N_is_number ["value", "low"] (defScope s_is_number) := ⟨by kernel_rfl, by kernel_rfl, by kernel_rfl, by decide +kernel, by rfl, by decide +kernel, by decide +kernel⟩
abbrev s_is_store : Stmt := (top 8)
theorem h_is_store (Γ : GEnv) (K : PySem.W.Frag) (CS : Addr) : (ev 60).Ss ⟨N_is_store, defScope s_is_store, Γ, K, fun _ => true, false, csOf CS⟩ (defBody s_is_store) = T_is_store Γ K CS := by kernel_rfl
theorem sc_is_store : FnScope N_is_store ["value"] (defScope s_is_store) := ⟨by kernel_rfl, by kernel_rfl, by kernel_rfl, by decide +kernel, by rfl, by decide +kernel, by decide +kernel⟩
abbrev s_need_store : Stmt := (top 9)
theorem h_need_store (Γ : GEnv) (K : PySem.W.Frag) (CS : Addr) : (ev 60).Ss ⟨N_need_store, defScope s_need_store, Γ, K, fun _ => true, false, csOf CS⟩ (defBody s_need_store) = T_need_store Γ K CS := by kernel_rfl
theorem sc_need_store : FnScope N_need_store ["store"] (defScope s_need_store) := ⟨by kernel_rfl, by kernel_rfl, by kernel_rfl, by decide +kernel, by rfl, by decide +kernel, by decide +kernel⟩
abbrev s_is_row : Stmt := (top 10)
theorem h_is_row (Γ : GEnv) (K : PySem.W.Frag) (CS : Addr) : (ev 60).Ss ⟨N_is_row, defScope s_is_row, Γ, K, fun _ => true, false, csOf CS⟩ (defBody s_is_row) = T_is_row Γ K CS := by kernel_rfl
theorem sc_is_row : FnScope N_is_row ["value", "hands"] (defScope s_is_row) := ⟨by kernel_rfl, by kernel_rfl, by kernel_rfl, by decide +kernel, by rfl, by decide +kernel, by decide +kernel⟩
abbrev s_has_name_form : Stmt := (top 11)
theorem h_has_name_form (Γ : GEnv) (K : PySem.W.Frag) (CS : Addr) : (ev 60).Ss ⟨N_has_name_form, defScope s_has_name_form, Γ, K, fun _ => true, false, csOf CS⟩ (defBody s_has_name_form) = T_has_name_form Γ K CS := by kernel_rfl
theorem sc_has_name_form : FnScope N_has_name_form ["value"] (defScope s_has_name_form) := ⟨by kernel_rfl, by kernel_rfl, by kernel_rfl, by decide +kernel, by rfl, by decide +kernel, by decide +kernel⟩
abbrev s_are_rising : Stmt := (top 12)
theorem h_are_rising (Γ : GEnv) (K : PySem.W.Frag) (CS : Addr) : (ev 60).Ss ⟨N_are_rising, defScope s_are_rising, Γ, K, fun _ => true, false, csOf CS⟩ (defBody s_are_rising) = T_are_rising Γ K CS := by kernel_rfl
theorem sc_are_rising : FnScope N_are_rising ["value"] (defScope s_are_rising) := ⟨by kernel_rfl, by kernel_rfl, by kernel_rfl, by decide +kernel, by rfl, by decide +kernel, by decide +kernel⟩
abbrev s_are_names : Stmt := (top 14)
theorem h_are_names (Γ : GEnv) (K : PySem.W.Frag) (CS : Addr) : (ev 60).Ss ⟨N_are_names, defScope s_are_names, Γ, K, fun _ => true, false, csOf CS⟩ (defBody s_are_names) = T_are_names Γ K CS := by kernel_rfl
theorem sc_are_names : FnScope N_are_names ["value"] (defScope s_are_names) := ⟨by kernel_rfl, by kernel_rfl, by kernel_rfl, by decide +kernel, by rfl, by decide +kernel, by decide +kernel⟩
abbrev s_is_end : Stmt := (top 15)
theorem h_is_end (Γ : GEnv) (K : PySem.W.Frag) (CS : Addr) : (ev 60).Ss ⟨N_is_end, defScope s_is_end, Γ, K, fun _ => true, false, csOf CS⟩ (defBody s_is_end) = T_is_end Γ K CS := by kernel_rfl
theorem sc_is_end : FnScope N_is_end ["value", "word", "many"] (defScope s_is_end) := ⟨by kernel_rfl, by kernel_rfl, by kernel_rfl, by decide +kernel, by rfl, by decide +kernel, by decide +kernel⟩
abbrev s_is_round : Stmt := (top 16)
theorem h_is_round (Γ : GEnv) (K : PySem.W.Frag) (CS : Addr) : (ev 60).Ss ⟨N_is_round, defScope s_is_round, Γ, K, fun _ => true, false, csOf CS⟩ (defBody s_is_round) = T_is_round Γ K CS := by kernel_rfl
theorem sc_is_round : FnScope N_is_round ["body", "many"] (defScope s_is_round) := ⟨by kernel_rfl, by kernel_rfl, by kernel_rfl, by decide +kernel, by rfl, by decide +kernel, by decide +kernel⟩
abbrev s_is_hand_body : Stmt := (top 17)
theorem h_is_hand_body (Γ : GEnv) (K : PySem.W.Frag) (CS : Addr) : (ev 60).Ss ⟨N_is_hand_body, defScope s_is_hand_body, Γ, K, fun _ => true, false, csOf CS⟩ (defBody s_is_hand_body) = T_is_hand_body Γ K CS := by kernel_rfl
theorem sc_is_hand_body : FnScope N_is_hand_body ["store", "body"] (defScope s_is_hand_body) := ⟨by kernel_rfl, by kernel_rfl, by kernel_rfl, by decide +kernel, by rfl, by decide +kernel, by decide +kernel⟩
abbrev s_is_house_body : Stmt := (top 18)
theorem h_is_house_body (Γ : GEnv) (K : PySem.W.Frag) (CS : Addr) : (ev 60).Ss ⟨N_is_house_body, defScope s_is_house_body, Γ, K, fun _ => true, false, csOf CS⟩ (defBody s_is_house_body) = T_is_house_body Γ K CS := by kernel_rfl
theorem sc_is_house_body : FnScope N_is_house_body ["body"] (defScope s_is_house_body) := ⟨by kernel_rfl, by kernel_rfl, by kernel_rfl, by decide +kernel, by rfl, by decide +kernel, by decide +kernel⟩
abbrev s_right_letter : Stmt := (top 19)
theorem h_right_letter (Γ : GEnv) (K : PySem.W.Frag) (CS : Addr) : (ev 60).Ss ⟨N_right_letter, defScope s_right_letter, Γ, K, fun _ => true, false, csOf CS⟩ (defBody s_right_letter) = T_right_letter Γ K CS := by kernel_rfl
theorem sc_right_letter : FnScope N_right_letter ["store", "value"] (defScope s_right_letter) := ⟨by kernel_rfl, by kernel_rfl, by kernel_rfl, by decide +kernel, by rfl, by decide +kernel, by decide +kernel⟩
abbrev s_is_letter : Stmt := (top 20)
theorem h_is_letter (Γ : GEnv) (K : PySem.W.Frag) (CS : Addr) : (ev 60).Ss ⟨N_is_letter, defScope s_is_letter, Γ, K, fun _ => true, false, csOf CS⟩ (defBody s_is_letter) = T_is_letter Γ K CS := by kernel_rfl
theorem sc_is_letter : FnScope N_is_letter ["store", "value"] (defScope s_is_letter) := ⟨by kernel_rfl, by kernel_rfl, by kernel_rfl, by decide +kernel, by rfl, by decide +kernel, by decide +kernel⟩
abbrev s__law_begun : Stmt := (top 22)
abbrev N__law_begun : List Str := ["script", "great", ".0", "cell"]
def T__law_begun (Γ : GEnv) (K : PySem.W.Frag) (CS : Addr) : TSD := (dSeq (dAsg (dLc (dISeq (dVar 0)) (dgName 3) (dTru (dBin rGe (dBc (Γ.g "abs") rAbs (dCons (dVar 3) dNil)) (dBin rPow (dC (.int 10)) (dC (.int 18))))) (dBin rSub (dBc (Γ.g "abs") rAbs (dCons (dVar 3) dNil)) (dBin rPow (dC (.int 10)) (dC (.int 18)))) [2, 3]) (dgName 1)) (dRet (dDisp [((dC (.str "great")), (dVar 1)), ((dC (.str "cells")), (dLc (dISeq (dVar 0)) (dgName 3) dYes (dBc (Γ.g "abs") rAbs (dCons (dVar 3) dNil)) [2, 3])), ((dC (.str "left")), (dC (.int 0))), ((dC (.str "turn")), (dC (.int 0)))])))
theorem h__law_begun (Γ : GEnv) (K : PySem.W.Frag) (CS : Addr) : (ev 60).Ss ⟨N__law_begun, defScope s__law_begun, Γ, K, fun _ => true, false, csOf CS⟩ (defBody s__law_begun) = T__law_begun Γ K CS := by kernel_rfl
theorem sc__law_begun : FnScope N__law_begun ["script"] (defScope s__law_begun) := ⟨by kernel_rfl, by kernel_rfl, by kernel_rfl, by decide +kernel, by rfl, by decide +kernel, by decide +kernel⟩
abbrev s__law_blended : Stmt := (top 23)
abbrev N__law_blended : List Str := ["state", "turn", "found", "prime", "blend", "cell"]
def T__law_blended (Γ : GEnv) (K : PySem.W.Frag) (CS : Addr) : TSD := (dSeq (dPar 1 2 (dCons (dBin rAdd (dBin rIx (dVar 0) (dC (.str "turn"))) (dC (.int 1))) (dCons (dC (.int 0)) dNil))) (dSeq (dAsg (dVar 1) (dgSub (dVar 0) (dC (.str "turn")) rSet)) (dSeq (dFor (dISeq (dLst (dCons (dC (.int 2147483477)) (dCons (dC (.int 2147483423)) (dCons (dC (.int 2147483399)) dNil))))) (dgName 3) (dSeq (dAsg (dBin rAdd (dBin rMul (dC (.int 40014)) (dVar 1)) (dBin rFdiv (dVar 3) (dC (.int 67)))) (dgName 4)) (dSeq (dFor (dISeq (dBin rIx (dVar 0) (dC (.str "cells")))) (dgName 5) (dAsg (dBin rMod (dBc (Γ.g "int") rInt (dCons (dBin rAdd (dBin rAdd (dBin rMul (dVar 4) (dC (.int 69621))) (dVar 5)) (dVar 1)) dNil)) (dVar 3)) (dgName 4))) (dAsg (dBin rAdd (dBin rMul (dVar 2) (dC (.int 2147483647))) (dBin rMod (dBc (Γ.g "int") rInt (dCons (dBin rPow (dVar 4) (dC (.int 5))) dNil)) (dVar 3))) (dgName 2))))) (dRet (dVar 2)))))
theorem h__law_blended (Γ : GEnv) (K : PySem.W.Frag) (CS : Addr) : (ev 60).Ss ⟨N__law_blended, defScope s__law_blended, Γ, K, fun _ => true, false, csOf CS⟩ (defBody s__law_blended) = T__law_blended Γ K CS := by kernel_rfl
theorem sc__law_blended : FnScope N__law_blended ["state"] (defScope s__law_blended) := ⟨by kernel_rfl, by kernel_rfl, by kernel_rfl, by decide +kernel, by rfl, by decide +kernel, by decide +kernel⟩
abbrev s__law_draw : Stmt := (top 24)
abbrev N__law_draw : List Str := ["state", "size_here", "found"]
def T__law_draw (Γ : GEnv) (K : PySem.W.Frag) (CS : Addr) : TSD := (dSeq (dIfS (dTru (dBin rEq (dBin rIx (dVar 0) (dC (.str "left"))) (dC (.int 0)))) (dAsg (dIf (dTru (dBin rNe (dBin rIx (dVar 0) (dC (.str "great"))) (dLst dNil))) (dLM rPopAt (dBin rIx (dVar 0) (dC (.str "great"))) (dCons (dC (.int 0)) dNil)) (dCall (Γ.g "_law_blended") (dCons (dVar 0) dNil))) (dgSub (dVar 0) (dC (.str "left")) rSet)) dNext) (dSeq (dAsg (dBin rMod (dBc (Γ.g "int") rInt (dCons (dBin rIx (dVar 0) (dC (.str "left"))) dNil)) (dVar 1)) (dgName 2)) (dSeq (dAsg (dBin rFdiv (dBin rIx (dVar 0) (dC (.str "left"))) (dVar 1)) (dgSub (dVar 0) (dC (.str "left")) rSet)) (dRet (dVar 2)))))
theorem h__law_draw (Γ : GEnv) (K : PySem.W.Frag) (CS : Addr) : (ev 60).Ss ⟨N__law_draw, defScope s__law_draw, Γ, K, fun _ => true, false, csOf CS⟩ (defBody s__law_draw) = T__law_draw Γ K CS := by kernel_rfl
theorem sc__law_draw : FnScope N__law_draw ["state", "size_here"] (defScope s__law_draw) := ⟨by kernel_rfl, by kernel_rfl, by kernel_rfl, by decide +kernel, by rfl, by decide +kernel, by decide +kernel⟩
abbrev s__law_pick : Stmt := (top 25)
abbrev N__law_pick : List Str := ["state", "several"]
def T__law_pick (Γ : GEnv) (K : PySem.W.Frag) (CS : Addr) : TSD := (dRet (dBin rIx (dVar 1) (dCall (Γ.g "_law_draw") (dCons (dVar 0) (dCons (dBc (Γ.g "len") rLen (dCons (dVar 1) dNil)) dNil)))))
theorem h__law_pick (Γ : GEnv) (K : PySem.W.Frag) (CS : Addr) : (ev 60).Ss ⟨N__law_pick, defScope s__law_pick, Γ, K, fun _ => true, false, csOf CS⟩ (defBody s__law_pick) = T__law_pick Γ K CS := by kernel_rfl
theorem sc__law_pick : FnScope N__law_pick ["state", "several"] (defScope s__law_pick) := ⟨by kernel_rfl, by kernel_rfl, by kernel_rfl, by decide +kernel, by rfl, by decide +kernel, by decide +kernel⟩
abbrev s__law_is_truth : Stmt := (top 27)
abbrev N__law_is_truth : List Str := ["found", "due"]
def T__law_is_truth (Γ : GEnv) (K : PySem.W.Frag) (CS : Addr) : TSD := (dRet (dIf (dTru (dVar 1)) (dBin (rIs false) (dVar 0) (dC (.bl true))) (dBin (rIs false) (dVar 0) (dC (.bl false)))))
theorem h__law_is_truth (Γ : GEnv) (K : PySem.W.Frag) (CS : Addr) : (ev 60).Ss ⟨N__law_is_truth, defScope s__law_is_truth, Γ, K, fun _ => true, false, csOf CS⟩ (defBody s__law_is_truth) = T__law_is_truth Γ K CS := by kernel_rfl
theorem sc__law_is_truth : FnScope N__law_is_truth ["found", "due"] (defScope s__law_is_truth) := ⟨by kernel_rfl, by kernel_rfl, by kernel_rfl, by decide +kernel, by rfl, by decide +kernel, by decide +kernel⟩
abbrev s__law_is_whole : Stmt := (top 28)
theorem h__law_is_whole (Γ : GEnv) (K : PySem.W.Frag) (CS : Addr) : (ev 60).Ss ⟨N__law_is_whole, defScope s__law_is_whole, Γ, K, fun _ => true, false, csOf CS⟩ (defBody s__law_is_whole) = T__law_is_whole Γ K CS := by kernel_rfl
theorem sc__law_is_whole : FnScope N__law_is_whole ["item"] (defScope s__law_is_whole) := ⟨by kernel_rfl, by kernel_rfl, by kernel_rfl, by decide +kernel, by rfl, by decide +kernel, by decide +kernel⟩
abbrev s__law_le_number : Stmt := (top 29)
abbrev N__law_le_number : List Str := ["item", "low"]
def T__law_le_number (Γ : GEnv) (K : PySem.W.Frag) (CS : Addr) : TSD := (dRet (dAnd (dCall (Γ.g "_law_is_whole") (dCons (dVar 0) dNil)) (dChain rLe rLt (dVar 1) (dVar 0) (dBin rPow (dC (.int 10)) (dC (.int 18))))))
theorem h__law_le_number (Γ : GEnv) (K : PySem.W.Frag) (CS : Addr) : (ev 60).Ss ⟨N__law_le_number, defScope s__law_le_number, Γ, K, fun _ => true, false, csOf CS⟩ (defBody s__law_le_number) = T__law_le_number Γ K CS := by kernel_rfl
theorem sc__law_le_number : FnScope N__law_le_number ["item", "low"] (defScope s__law_le_number) := ⟨by kernel_rfl, by kernel_rfl, by kernel_rfl, by decide +kernel, by rfl, by decide +kernel, by decide +kernel⟩
abbrev s__law_le_name : Stmt := (top 30)
abbrev N__law_le_name : List Str := ["item"]
def T__law_le_name (Γ : GEnv) (K : PySem.W.Frag) (CS : Addr) : TSD := (dRet (dAnd (dBc (Γ.g "isinstance") (rIsi K) (dCons (dVar 0) (dCons (dBty (Γ.g "tuple") "tuple") dNil))) (dAnd (dBin rEq (dBc (Γ.g "len") rLen (dCons (dVar 0) dNil)) (dC (.int 2))) (dAnd (dBin rEq (dBin rIx (dVar 0) (dC (.int 0))) (dC (.str "name"))) (dCall (Γ.g "_law_le_number") (dCons (dBin rIx (dVar 0) (dC (.int 1))) (dCons (dC (.int 0)) dNil)))))))
theorem h__law_le_name (Γ : GEnv) (K : PySem.W.Frag) (CS : Addr) : (ev 60).Ss ⟨N__law_le_name, defScope s__law_le_name, Γ, K, fun _ => true, false, csOf CS⟩ (defBody s__law_le_name) = T__law_le_name Γ K CS := by kernel_rfl
theorem sc__law_le_name : FnScope N__law_le_name ["item"] (defScope s__law_le_name) := ⟨by kernel_rfl, by kernel_rfl, by kernel_rfl, by decide +kernel, by rfl, by decide +kernel, by decide +kernel⟩
abbrev s__law_le_end : Stmt := (top 31)
abbrev N__law_le_end : List Str := ["item", "word", "many"]
def T__law_le_end (Γ : GEnv) (K : PySem.W.Frag) (CS : Addr) : TSD := (dSeq (dIfS (dTOr (dTNot (dTru (dBc (Γ.g "isinstance") (rIsi K) (dCons (dVar 0) (dCons (dBty (Γ.g "tuple") "tuple") dNil))))) (dTOr (dTru (dBin rNe (dBc (Γ.g "len") rLen (dCons (dVar 0) dNil)) (dC (.int 2)))) (dTru (dBin rNe (dBin rIx (dVar 0) (dC (.int 0))) (dVar 1))))) (dRet (dC (.bl false))) dNext) (dRet (dAnd (dCall (Γ.g "_law_le_number") (dCons (dBin rIx (dVar 0) (dC (.int 1))) (dCons (dC (.int 0)) dNil))) (dBin rLt (dBin rIx (dVar 0) (dC (.int 1))) (dVar 2)))))
theorem h__law_le_end (Γ : GEnv) (K : PySem.W.Frag) (CS : Addr) : (ev 60).Ss ⟨N__law_le_end, defScope s__law_le_end, Γ, K, fun _ => true, false, csOf CS⟩ (defBody s__law_le_end) = T__law_le_end Γ K CS := by kernel_rfl
theorem sc__law_le_end : FnScope N__law_le_end ["item", "word", "many"] (defScope s__law_le_end) := ⟨by kernel_rfl, by kernel_rfl, by kernel_rfl, by decide +kernel, by rfl, by decide +kernel, by decide +kernel⟩
abbrev s__law_le_names : Stmt := (top 32)
abbrev N__law_le_names : List Str := ["item", ".0", "name"]
def T__law_le_names (Γ : GEnv) (K : PySem.W.Frag) (CS : Addr) : TSD := (dRet (dAnd (dBc (Γ.g "isinstance") (rIsi K) (dCons (dVar 0) (dCons (dBty (Γ.g "tuple") "tuple") dNil))) (dBin rEq (dLc (dISeq (dVar 0)) (dgName 2) (dTNot (dTru (dCall (Γ.g "_law_le_name") (dCons (dVar 2) dNil)))) (dC (.int 1)) [1, 2]) (dLst dNil))))
theorem h__law_le_names (Γ : GEnv) (K : PySem.W.Frag) (CS : Addr) : (ev 60).Ss ⟨N__law_le_names, defScope s__law_le_names, Γ, K, fun _ => true, false, csOf CS⟩ (defBody s__law_le_names) = T__law_le_names Γ K CS := by kernel_rfl
theorem sc__law_le_names : FnScope N__law_le_names ["item"] (defScope s__law_le_names) := ⟨by kernel_rfl, by kernel_rfl, by kernel_rfl, by decide +kernel, by rfl, by decide +kernel, by decide +kernel⟩
abbrev s__law_le_body : Stmt := (top 33)
abbrev N__law_le_body : List Str := ["item", "hands", "is_hand", "words_here", "numbers", ".0", "number", "name"]
def T__law_le_body (Γ : GEnv) (K : PySem.W.Frag) (CS : Addr) : TSD := (dSeq (dAsg (dIf (dTru (dVar 2)) (dLst (dCons (dC (.str "ask")) (dCons (dC (.str "keep")) dNil))) (dLst (dCons (dC (.str "have")) (dCons (dC (.str "kept")) dNil)))) (dgName 3)) (dSeq (dIfS (dTOr (dTNot (dTru (dBc (Γ.g "isinstance") (rIsi K) (dCons (dVar 0) (dCons (dBty (Γ.g "tuple") "tuple") dNil))))) (dTOr (dTru (dBin (rIn true) (dBc (Γ.g "len") rLen (dCons (dVar 0) dNil)) (dTup (dCons (dC (.int 4)) (dCons (dC (.int 5)) dNil))))) (dTNot (dTru (dBc (Γ.g "isinstance") (rIsi K) (dCons (dBin rIx (dVar 0) (dC (.int 0))) (dCons (dBty (Γ.g "str") "str") dNil))))))) (dRet (dC (.bl false))) dNext) (dSeq (dIfS (dTOr (dTru (dBin (rIn true) (dBin rIx (dVar 0) (dC (.int 0))) (dVar 3))) (dTru (dBin rNe (dBc (Γ.g "len") rLen (dCons (dVar 0) dNil)) (dIf (dTru (dBin (rIn false) (dBin rIx (dVar 0) (dC (.int 0))) (dTup (dCons (dC (.str "ask")) (dCons (dC (.str "have")) dNil))))) (dC (.int 5)) (dC (.int 4)))))) (dRet (dC (.bl false))) dNext) (dSeq (dIfS (dTOr (dTNot (dTru (dCall (Γ.g "_law_le_number") (dCons (dBin rIx (dVar 0) (dC (.int 1))) (dCons (dC (.int 1)) dNil))))) (dTNot (dTru (dCall (Γ.g "_law_le_number") (dCons (dBin rIx (dVar 0) (dC (.int 2))) (dCons (dC (.int 1)) dNil)))))) (dRet (dC (.bl false))) dNext) (dSeq (dIfS (dTru (dBin rEq (dBin rIx (dVar 0) (dC (.int 0))) (dC (.str "kept")))) (dRet (dCall (Γ.g "_law_le_name") (dCons (dBin rIx (dVar 0) (dC (.int 3))) dNil))) dNext) (dSeq (dIfS (dTru (dBin rEq (dBin rIx (dVar 0) (dC (.int 0))) (dC (.str "have")))) (dRet (dAnd (dCall (Γ.g "_law_le_names") (dCons (dBin rIx (dVar 0) (dC (.int 3))) dNil)) (dCall (Γ.g "_law_le_name") (dCons (dBin rIx (dVar 0) (dC (.int 4))) dNil)))) dNext) (dSeq (dIfS (dTru (dBin rEq (dBin rIx (dVar 0) (dC (.int 0))) (dC (.str "keep")))) (dRet (dCall (Γ.g "_law_le_names") (dCons (dBin rIx (dVar 0) (dC (.int 3))) dNil))) dNext) (dSeq (dIfS (dTOr (dTNot (dTru (dBc (Γ.g "isinstance") (rIsi K) (dCons (dBin rIx (dVar 0) (dC (.int 3))) (dCons (dBty (Γ.g "tuple") "tuple") dNil))))) (dTOr (dTru (dBin rNe (dBc (Γ.g "len") rLen (dCons (dBin rIx (dVar 0) (dC (.int 3))) dNil)) (dVar 1))) (dTNot (dTru (dCall (Γ.g "_law_le_names") (dCons (dBin rIx (dVar 0) (dC (.int 4))) dNil)))))) (dRet (dC (.bl false))) dNext) (dSeq (dIfS (dTru (dBin rNe (dLc (dISeq (dBin rIx (dVar 0) (dC (.int 3)))) (dgName 6) (dTNot (dTru (dCall (Γ.g "_law_le_number") (dCons (dVar 6) (dCons (dC (.int 0)) dNil))))) (dC (.int 1)) [5, 6]) (dLst dNil))) (dRet (dC (.bl false))) dNext) (dSeq (dAsg (dLc (dISeq (dBin rIx (dVar 0) (dC (.int 4)))) (dgName 7) dYes (dBin rIx (dVar 7) (dC (.int 1))) [5, 7]) (dgName 4)) (dRet (dBin rEq (dVar 4) (dSrtSet (Γ.g "sorted") (Γ.g "set") (dVar 4))))))))))))))
theorem h__law_le_body (Γ : GEnv) (K : PySem.W.Frag) (CS : Addr) : (ev 60).Ss ⟨N__law_le_body, defScope s__law_le_body, Γ, K, fun _ => true, false, csOf CS⟩ (defBody s__law_le_body) = T__law_le_body Γ K CS := by kernel_rfl
theorem sc__law_le_body : FnScope N__law_le_body ["item", "hands", "is_hand"] (defScope s__law_le_body) := ⟨by kernel_rfl, by kernel_rfl, by kernel_rfl, by decide +kernel, by rfl, by decide +kernel, by decide +kernel⟩
abbrev s__law_le_letter : Stmt := (top 34)
abbrev N__law_le_letter : List Str := ["item", "hands", "houses"]
def T__law_le_letter (Γ : GEnv) (K : PySem.W.Frag) (CS : Addr) : TSD := (dSeq (dIfS (dTOr (dTNot (dTru (dBc (Γ.g "isinstance") (rIsi K) (dCons (dVar 0) (dCons (dBty (Γ.g "tuple") "tuple") dNil))))) (dTru (dBin rNe (dBc (Γ.g "len") rLen (dCons (dVar 0) dNil)) (dC (.int 3))))) (dRet (dC (.bl false))) dNext) (dSeq (dIfS (dTAnd (dTru (dCall (Γ.g "_law_le_end") (dCons (dBin rIx (dVar 0) (dC (.int 0))) (dCons (dC (.str "hand")) (dCons (dVar 1) dNil))))) (dTru (dCall (Γ.g "_law_le_end") (dCons (dBin rIx (dVar 0) (dC (.int 1))) (dCons (dC (.str "house")) (dCons (dVar 2) dNil)))))) (dRet (dCall (Γ.g "_law_le_body") (dCons (dBin rIx (dVar 0) (dC (.int 2))) (dCons (dVar 1) (dCons (dC (.bl true)) dNil))))) dNext) (dSeq (dIfS (dTOr (dTNot (dTru (dCall (Γ.g "_law_le_end") (dCons (dBin rIx (dVar 0) (dC (.int 0))) (dCons (dC (.str "house")) (dCons (dVar 2) dNil)))))) (dTNot (dTru (dCall (Γ.g "_law_le_end") (dCons (dBin rIx (dVar 0) (dC (.int 1))) (dCons (dC (.str "hand")) (dCons (dVar 1) dNil))))))) (dRet (dC (.bl false))) dNext) (dRet (dCall (Γ.g "_law_le_body") (dCons (dBin rIx (dVar 0) (dC (.int 2))) (dCons (dVar 1) (dCons (dC (.bl false)) dNil))))))))
theorem h__law_le_letter (Γ : GEnv) (K : PySem.W.Frag) (CS : Addr) : (ev 60).Ss ⟨N__law_le_letter, defScope s__law_le_letter, Γ, K, fun _ => true, false, csOf CS⟩ (defBody s__law_le_letter) = T__law_le_letter Γ K CS := by kernel_rfl
theorem sc__law_le_letter : FnScope N__law_le_letter ["item", "hands", "houses"] (defScope s__law_le_letter) := ⟨by kernel_rfl, by kernel_rfl, by kernel_rfl, by decide +kernel, by rfl, by decide +kernel, by decide +kernel⟩
abbrev s__law_le_drawn : Stmt := (top 35)
abbrev N__law_le_drawn : List Str := ["state", "hands", "houses", "hand", "house", "life", "turn", "names_here", "row", "way", ".0", "lap"]
def T__law_le_drawn (Γ : GEnv) (K : PySem.W.Frag) (CS : Addr) : TSD := (dSeq (dPar 3 4 (dCons (dTup (dCons (dC (.str "hand")) (dCons (dCall (Γ.g "_law_draw") (dCons (dVar 0) (dCons (dBin rAdd (dVar 1) (dC (.int 1))) dNil))) dNil))) (dCons (dTup (dCons (dC (.str "house")) (dCons (dCall (Γ.g "_law_draw") (dCons (dVar 0) (dCons (dBin rAdd (dVar 2) (dC (.int 1))) dNil))) dNil))) dNil))) (dSeq (dPar 5 6 (dCons (dBin rAdd (dC (.int 1)) (dCall (Γ.g "_law_draw") (dCons (dVar 0) (dCons (dC (.int 3)) dNil)))) (dCons (dBin rAdd (dC (.int 1)) (dCall (Γ.g "_law_draw") (dCons (dVar 0) (dCons (dC (.int 40)) dNil)))) dNil))) (dSeq (dAsg (dBc (Γ.g "tuple") rTuple (dCons (dLc (dBi (Γ.g "range") (dIRng1 (dCons (dCall (Γ.g "_law_draw") (dCons (dVar 0) (dCons (dC (.int 4)) dNil))) dNil))) (dgName 11) dYes (dTup (dCons (dC (.str "name")) (dCons (dCall (Γ.g "_law_draw") (dCons (dVar 0) (dCons (dC (.int 9)) dNil))) dNil))) [10, 11]) dNil)) (dgName 7)) (dSeq (dAsg (dBc (Γ.g "tuple") rTuple (dCons (dLc (dBi (Γ.g "range") (dIRng1 (dCons (dBin rAdd (dVar 1) (dCall (Γ.g "_law_pick") (dCons (dVar 0) (dCons (dLst (dCons (dC (.int 0)) (dCons (dC (.int 0)) (dCons (dC (.int 0)) (dCons (dC (.int 1)) dNil))))) dNil)))) dNil))) (dgName 11) dYes (dCall (Γ.g "_law_draw") (dCons (dVar 0) (dCons (dC (.int 5)) dNil))) [10, 11]) dNil)) (dgName 8)) (dSeq (dAsg (dCall (Γ.g "_law_draw") (dCons (dVar 0) (dCons (dC (.int 4)) dNil))) (dgName 9)) (dSeq (dIfS (dTru (dBin rEq (dVar 9) (dC (.int 0)))) (dRet (dTup (dCons (dVar 3) (dCons (dVar 4) (dCons (dTup (dCons (dC (.str "ask")) (dCons (dVar 5) (dCons (dVar 6) (dCons (dVar 8) (dCons (dBc (Γ.g "tuple") rTuple (dCons (dBc (Γ.g "sorted") rSorted (dCons (dVar 7) dNil)) dNil)) dNil)))))) dNil))))) dNext) (dSeq (dIfS (dTru (dBin rEq (dVar 9) (dC (.int 1)))) (dRet (dTup (dCons (dVar 3) (dCons (dVar 4) (dCons (dTup (dCons (dC (.str "keep")) (dCons (dVar 5) (dCons (dVar 6) (dCons (dVar 7) dNil))))) dNil))))) dNext) (dSeq (dIfS (dTru (dBin rEq (dVar 9) (dC (.int 2)))) (dRet (dTup (dCons (dVar 4) (dCons (dVar 3) (dCons (dTup (dCons (dC (.str "have")) (dCons (dVar 5) (dCons (dVar 6) (dCons (dVar 7) (dCons (dTup (dCons (dC (.str "name")) (dCons (dCall (Γ.g "_law_draw") (dCons (dVar 0) (dCons (dC (.int 9)) dNil))) dNil))) dNil)))))) dNil))))) dNext) (dRet (dTup (dCons (dVar 4) (dCons (dVar 3) (dCons (dTup (dCons (dC (.str "kept")) (dCons (dVar 5) (dCons (dVar 6) (dCons (dTup (dCons (dC (.str "name")) (dCons (dCall (Γ.g "_law_draw") (dCons (dVar 0) (dCons (dC (.int 9)) dNil))) dNil))) dNil))))) dNil)))))))))))))
theorem h__law_le_drawn (Γ : GEnv) (K : PySem.W.Frag) (CS : Addr) : (ev 60).Ss ⟨N__law_le_drawn, defScope s__law_le_drawn, Γ, K, fun _ => true, false, csOf CS⟩ (defBody s__law_le_drawn) = T__law_le_drawn Γ K CS := by kernel_rfl
theorem sc__law_le_drawn : FnScope N__law_le_drawn ["state", "hands", "houses"] (defScope s__law_le_drawn) := ⟨by kernel_rfl, by kernel_rfl, by kernel_rfl, by decide +kernel, by rfl, by decide +kernel, by decide +kernel⟩
abbrev s__law_le_bent : Stmt := (top 36)
abbrev N__law_le_bent : List Str := ["state", "item", "some", "at", "way"]
def T__law_le_bent (Γ : GEnv) (K : PySem.W.Frag) (CS : Addr) : TSD := (dSeq (dIfS (dTOr (dTNot (dTru (dBc (Γ.g "isinstance") (rIsi K) (dCons (dVar 1) (dCons (dBty (Γ.g "tuple") "tuple") dNil))))) (dTOr (dTru (dBin rEq (dVar 1) (dTup dNil))) (dTru (dBin rEq (dCall (Γ.g "_law_draw") (dCons (dVar 0) (dCons (dC (.int 9)) dNil))) (dC (.int 0)))))) (dSeq (dAsg (dLst (dCons (dC .non) (dCons (dC (.int 5)) (dCons (dC (.bl true)) (dCons (dC (.int 0)) (dCons (dUn rNeg (dC (.int 1))) (dCons (dC (.str "name")) (dCons (dC (.str "ask")) (dCons (dC (.str "hand")) (dCons (dTup dNil) (dCons (dLst dNil) (dCons dDisp0 (dCons (dTup (dCons (dC (.str "name")) (dCons (dC (.int 2)) dNil))) (dCons (dTup (dCons (dC (.str "house")) (dCons (dC (.int 0)) dNil))) (dCons (dBin rPow (dC (.int 10)) (dC (.int 18))) dNil))))))))))))))) (dgName 2)) (dRet (dCall (Γ.g "_law_pick") (dCons (dVar 0) (dCons (dVar 2) dNil))))) dNext) (dSeq (dPar 3 4 (dCons (dCall (Γ.g "_law_draw") (dCons (dVar 0) (dCons (dBc (Γ.g "len") rLen (dCons (dVar 1) dNil)) dNil))) (dCons (dCall (Γ.g "_law_draw") (dCons (dVar 0) (dCons (dC (.int 7)) dNil))) dNil))) (dSeq (dIfS (dTru (dBin rLt (dVar 4) (dC (.int 4)))) (dRet (dBin rAdd (dBin rAdd (dSlice (dVar 1) dNoPart (dPart (dVar 3))) (dTup (dCons (dCall (Γ.g "_law_le_bent") (dCons (dVar 0) (dCons (dBin rIx (dVar 1) (dVar 3)) dNil))) dNil))) (dSlice (dVar 1) (dPart (dBin rAdd (dVar 3) (dC (.int 1)))) dNoPart))) dNext) (dSeq (dIfS (dTru (dBin rEq (dVar 4) (dC (.int 4)))) (dRet (dBin rAdd (dSlice (dVar 1) dNoPart (dPart (dVar 3))) (dSlice (dVar 1) (dPart (dBin rAdd (dVar 3) (dC (.int 1)))) dNoPart))) dNext) (dRet (dIf (dTru (dBin rEq (dVar 4) (dC (.int 5)))) (dBin rAdd (dBin rAdd (dSlice (dVar 1) dNoPart (dPart (dVar 3))) (dSlice (dVar 1) (dPart (dVar 3)) (dPart (dBin rAdd (dVar 3) (dC (.int 1)))))) (dSlice (dVar 1) (dPart (dVar 3)) dNoPart)) (dBc (Γ.g "list") rList (dCons (dVar 1) dNil))))))))
theorem h__law_le_bent (Γ : GEnv) (K : PySem.W.Frag) (CS : Addr) : (ev 60).Ss ⟨N__law_le_bent, defScope s__law_le_bent, Γ, K, fun _ => true, false, csOf CS⟩ (defBody s__law_le_bent) = T__law_le_bent Γ K CS := by kernel_rfl
theorem sc__law_le_bent : FnScope N__law_le_bent ["state", "item"] (defScope s__law_le_bent) := ⟨by kernel_rfl, by kernel_rfl, by kernel_rfl, by decide +kernel, by rfl, by decide +kernel, by decide +kernel⟩
abbrev s_law : Stmt := (top 37)
abbrev N_law : List Str := ["script", "state", "turn", "hands", "lies", "houses", "bent", "some", "item", "letter", "wrong"]
def T_law (Γ : GEnv) (K : PySem.W.Frag) (CS : Addr) : TSD := (dSeq (dAsg (dCall (Γ.g "_law_begun") (dCons (dVar 0) dNil)) (dgName 1)) (dSeq (dFor (dBi (Γ.g "range") (dIRng1 (dCons (dBin rAdd (dC (.int 3)) (dBc (Γ.g "min") rMin (dCons (dBc (Γ.g "len") rLen (dCons (dVar 0) dNil)) (dCons (dC (.int 5)) dNil)))) dNil))) (dgName 2) (dSeq (dPar 3 4 (dCons (dBin rAdd (dC (.int 1)) (dCall (Γ.g "_law_draw") (dCons (dVar 1) (dCons (dC (.int 6)) dNil)))) (dCons (dCall (Γ.g "_law_draw") (dCons (dVar 1) (dCons (dC (.int 5)) dNil))) dNil))) (dSeq (dAsg (dBin rAdd (dBin rAdd (dBin rMul (dC (.int 3)) (dVar 4)) (dC (.int 1))) (dCall (Γ.g "_law_draw") (dCons (dVar 1) (dCons (dBin rSub (dC (.int 13)) (dBin rMul (dC (.int 3)) (dVar 4))) dNil)))) (dgName 5)) (dSeq (dAsg (dCall (Γ.g "_law_le_drawn") (dCons (dVar 1) (dCons (dVar 3) (dCons (dVar 5) dNil)))) (dgName 9)) (dSeq (dAsg (dCall (Γ.g "_law_le_bent") (dCons (dVar 1) (dCons (dVar 9) dNil))) (dgName 6)) (dSeq (dAsg (dLst (dCons (dVar 9) (dCons (dVar 6) (dCons (dCall (Γ.g "_law_le_bent") (dCons (dVar 1) (dCons (dVar 9) dNil))) (dCons (dCall (Γ.g "_law_le_bent") (dCons (dVar 1) (dCons (dVar 6) dNil))) dNil))))) (dgName 7)) (dSeq (dFor (dISeq (dBin rAdd (dVar 7) (dLst (dCons (dTup (dCons (dBin rIx (dVar 9) (dC (.int 1))) (dCons (dBin rIx (dVar 9) (dC (.int 0))) (dCons (dBin rIx (dVar 9) (dC (.int 2))) dNil)))) dNil)))) (dgName 8) (dIfS (dTNot (dTru (dCall (Γ.g "_law_is_truth") (dCons (dCall (Γ.g "is_letter") (dCons (dTup (dCons (dVar 3) (dCons (dVar 5) (dCons (dVar 4) dNil)))) (dCons (dVar 8) dNil))) (dCons (dCall (Γ.g "_law_le_letter") (dCons (dVar 8) (dCons (dVar 3) (dCons (dVar 5) dNil)))) dNil))))) (dRet (dC (.bl false))) dNext)) (dSeq (dIfS (dTru (dBin (rIs true) (dCallK (Γ.g "is_letter") 0 ["store", "value"] dNil (dCons (dTup (dCons (dVar 3) (dCons (dVar 5) (dCons (dVar 4) dNil)))) (dCons (dC .non) dNil))) (dC (.bl false)))) (dRet (dC (.bl false))) dNext) (dSeq (dAsg (dLst (dCons (dC .non) (dCons (dTup (dCons (dVar 3) (dCons (dBin rMul (dC (.int 3)) (dVar 4)) (dCons (dVar 4) dNil)))) (dCons (dTup (dCons (dC (.int 0)) (dCons (dC (.int 4)) (dCons (dC (.int 1)) dNil)))) (dCons (dTup (dCons (dC (.int 7)) (dCons (dC (.int 4)) (dCons (dC (.int 1)) dNil)))) (dCons (dTup (dCons (dC (.int 2)) (dCons (dC (.int 14)) (dCons (dC (.int 1)) dNil)))) (dCons (dLst (dCons (dC (.int 2)) (dCons (dC (.int 4)) (dCons (dC (.int 1)) dNil)))) (dCons (dTup (dCons (dC (.int 2)) (dCons (dC (.int 4)) dNil))) (dCons (dTup (dCons (dC (.int 2)) (dCons (dC (.int 4)) (dCons (dC (.bl true)) dNil)))) dNil))))))))) (dgName 7)) (dSeq (dAsg (dCall (Γ.g "_law_pick") (dCons (dVar 1) (dCons (dBin rAdd (dVar 7) (dLst (dCons (dTup (dCons (dC (.int 2)) (dCons (dC (.int 4)) (dCons (dUn rNeg (dC (.int 1))) dNil)))) dNil))) dNil))) (dgName 10)) (dIfS (dTNot (dTru (dBc (Γ.g "isinstance") (rIsi K) (dCons (dCaught K CS (dCall (Γ.g "is_letter") (dCons (dVar 10) (dCons (dVar 9) dNil)))) (dCons (dGlob (Γ.g "BadStore")) dNil))))) (dRet (dC (.bl false))) dNext))))))))))) (dRet (dC (.bl true)))))
theorem h_law (Γ : GEnv) (K : PySem.W.Frag) (CS : Addr) : (ev 60).Ss ⟨N_law, defScope s_law, Γ, K, fun _ => true, true, csOf CS⟩ (defBody s_law) = T_law Γ K CS := by kernel_rfl
theorem sc_law : FnScope N_law ["script"] (defScope s_law) := ⟨by kernel_rfl, by kernel_rfl, by kernel_rfl, by decide +kernel, by rfl, by decide +kernel, by decide +kernel⟩
end Dl

namespace Dl
open PySem PySem.Spec PyProof.Rows L2
local macro_rules
  | `(tactic| push_cast [$xs,*]) => `(tactic| simp only [↓dSeq_e, ↓dDrop_e, ↓dRet_e, ↓dRetN_e, ↓dIfS_e, ↓dgName_e, ↓dgNil_nil, ↓dgCons_cons, ↓dgTup_tup, ↓dAsg_e, ↓dPar_e, ↓dPar3_e, ↓dgSub_e, ↓dFor_e, ↓dVar_0, ↓dVar_s, ↓dC_e, ↓dBin_e, ↓dUn_e, ↓dChain_i, ↓chN_bl, ↓rt_cond, c_and, c_or, c_nand, c_self, c_self2, Int.cast_ofNat_Int, Int.reduceEq, Int.reduceLT, Int.reduceLE, Int.reduceAdd, Int.reduceSub, Int.reduceMul, Int.reduceNeg, Int.reduceNe, decide_true, decide_false, eq_self, ↓rTru_bl, ↓rTru_int, ↓rTru_non, ↓rTru_tup, ↓dTru_e, ↓dTAnd_e, ↓dTOr_e, ↓dTNot_e, ↓dAnd_e, ↓dOr_e, ↓dNot_e, ↓dIf_e, ↓dNil_e, ↓dCons_e, ↓dTup_e, ↓dLst_e, ↓dBc_e, ↓dBty_e, ↓dBi_e, ↓dGlob_con, ↓dGlob_fn, ↓dGlob_cls, ↓dGlob_exc, ↓dRaise_exc, ↓dCall_fn, ↓dCall_cls, ↓dCallK_fn, ↓dNoPart_e, ↓dPart_i, ↓pPart_int, ↓dSlice_e, ↓rSl_tup, ↓dISeq_i, ↓dIRng1_i, ↓dIRng2_i, ↓dIZip_i, ↓dIEnum_i, ↓dFld_i, ↓dFldSet_i, ↓dMeth_i, ↓dMethK_i, ↓iSeq_tup, ↓iR1_int, ↓iR2_int, ↓iZp_tup, ↓dLM_e, ↓dNext_e, ↓dBreak_e, ↓dCont_e, ↓dDisp_e, ↓dPairs_n, ↓dPairs_c, ↓dYes_e, ↓dLc_e, ↓arg0_nil, ↓arg1_one, ↓arg2_two, ↓arg3_three, ↓isBlt_b, startD, ↓dIte_t, ↓dIte_f, ↓rAdd_ii, ↓rSub_ii, ↓rMul_ii, ↓rFdiv_ii, ↓rMod_ii, ↓rPow_ii, ↓rIAdd_ii, ↓rISub_ii, ↓rNeg_i, ↓rLt_ii, ↓rLe_ii, ↓rGt_ii, ↓rGe_ii, ↓rEq_ii, ↓rEq_ss, ↓rEq_bb, ↓rNe_ii, ↓rNe_ss, ↓rInt_i, ↓rAbs_i, ↓rLen_t, ↓rIxt0, ↓rIxt1, ↓rIxt2, ↓rIxt3, ↓rIxt4, ↓rIxt5, ↓rIxt6, ↓rIxt7, ↓isi_non_int, ↓isi_non_bool, ↓isi_non_str, ↓isi_non_list, ↓isi_non_tuple, ↓isi_non_dict, ↓isi_bl_int, ↓isi_bl_bool, ↓isi_bl_str, ↓isi_bl_list, ↓isi_bl_tuple, ↓isi_bl_dict, ↓isi_int_int, ↓isi_int_bool, ↓isi_int_str, ↓isi_int_list, ↓isi_int_tuple, ↓isi_int_dict, ↓isi_str_int, ↓isi_str_bool, ↓isi_str_str, ↓isi_str_list, ↓isi_str_tuple, ↓isi_str_dict, ↓isi_tup_int, ↓isi_tup_bool, ↓isi_tup_str, ↓isi_tup_list, ↓isi_tup_tuple, ↓isi_tup_dict, List.map_cons, List.map_nil, List.length_cons, List.length_nil, List.cons_append, List.nil_append, List.getElem?_cons_zero, List.getElem?_cons_succ, List.set_cons_zero, List.set_cons_succ, List.replicate_succ, List.replicate_zero, Int.reduceToNat, Nat.reduceSub, Nat.reduceAdd, true_and, and_true, Bool.not_true, Bool.not_false, Bool.true_and, Bool.and_true, Bool.false_and, Bool.and_false, Bool.false_or, Bool.or_false, Bool.true_or, Bool.or_true, Bool.not_not, ↓dLc2_e, ↓dLRg1_e, ↓dRev_e, ↓dLenSet_e, ↓rSorted_e, ↓dSrtSet_e, ↓iEn_tup, ↓rMul_ii, ↓rMul_ti, size_lit, str_inj, String.reduceEq, Nat.reduceLeDiff, Nat.reducePow, Int.reducePow, $xs,*])
section
variable {Θ : AbsI} {K : PySem.W.Frag} {Γ : GEnv} {CS : Addr} {G : GH} {DQ : DK} {DX : DE → GH → Prop}
def sp_truth : DSp := fun ds G Q X => ∃ a b : Bool, ds = [.bl a, .bl b] ∧ Q (.bl (bif b then a else !a)) G
theorem p_truth {a b : Bool} (q : DQ (.bl (bif b then a else !a)) G) : T__law_is_truth Γ K CS (dEnds Θ K DQ DX) (startD N__law_is_truth [.bl a, .bl b]) G := by
  show T__law_is_truth Γ K CS _ [some (.bl a), some (.bl b)] G
  unfold T__law_is_truth
  cases b <;> cases a <;> (
    push_cast []
    exact back q)
theorem p_le_number {f : Addr} (h1 : Γ.g "_law_is_whole" = .fn f ["item"] (sp_any1 fun v => isIntB v && !isBlB v) []) {v : D} {low : Int} (h : sp_is_number [v, .int low] G DQ DX) (hv : KnA G v) :
    T__law_le_number Γ K CS (dEnds Θ K DQ DX) (startD N__law_le_number [v, .int low]) G := by
  have q := h.2
  show T__law_le_number Γ K CS _ [some v, some (.int low)] G
  unfold T__law_le_number
  push_cast [↓dCall_h h1, ↓dCallK_h h1]
  refine sp_any1_e hv ?_
  have cp : CPow 10 18 := ⟨by decide, by decide, by decide⟩
  cases v with
  | int i =>
    have e : (isIntB (.int i) && !isBlB (.int i)) = true := rfl
    rw [e]
    push_cast []
    cases e1 : decide (low ≤ i) with
    | true =>
      rw [numB, e1, Bool.true_and] at q
      push_cast []
      exact ⟨cp, back q⟩
    | false =>
      rw [numB, e1, Bool.false_and] at q
      push_cast []
      exact back q
  | bl b =>
    have e : (isIntB (.bl b) && !isBlB (.bl b)) = false := rfl
    rw [e]
    push_cast []
    exact back q
  | _ =>
    simp only [isIntB, Bool.false_and]
    push_cast []
    exact back q
def sp_numA : DSp := fun ds G Q X => ∃ (v : D) (low : Int), ds = [v, .int low] ∧ KnA G v ∧ Q (.bl (numB v low)) G
theorem p_le_name {f : Addr} (h1 : Γ.g "isinstance" = .blt) (h2 : Γ.g "tuple" = .blt) (h3 : Γ.g "len" = .blt) (h5 : Γ.g "_law_le_number" = .fn f ["item", "low"] sp_numA []) {v : D} (hv : KnA G v) (q : DQ (.bl (nameV v)) G) :
    T__law_le_name Γ K CS (dEnds Θ K DQ DX) (startD N__law_le_name [v]) G := by
  obtain ⟨k, hk⟩ := hv.kd
  show T__law_le_name Γ K CS _ [some v] G
  unfold T__law_le_name
  rcases tup_or v with ⟨ds, rfl⟩ | hn
  · rcases tupn2 ds with ⟨a, b, rfl⟩ | hl
    · obtain ⟨ha, hb⟩ := hv.tup2
      obtain ⟨k1, e1⟩ := ha.kd
      push_cast [↓isBlt_h h1, ↓isBlt_h h2, ↓isBlt_h h3]
      refine rEq_str e1 ?_
      cases e : strIs "name" a with
      | true =>
        rw [nameV, e, Bool.true_and] at q
        push_cast [↓dCall_h h5, ↓dCallK_h h5]
        exact ⟨_, _, rfl, hb, back q⟩
      | false =>
        rw [nameV, e, Bool.false_and] at q
        push_cast []
        exact back q
    · have e : decide ((ds.length : Int) = 2) = false := decide_eq_false (by omega)
      push_cast [↓isBlt_h h1, ↓isBlt_h h2, ↓isBlt_h h3, e]
      refine back ?_
      have : nameV (.tup ds) = false := by
        unfold nameV
        split
        · rename_i z; cases z; exact absurd rfl hl
        · rfl
      rw [this] at q
      exact q
  · push_cast [↓isBlt_h h1, ↓isBlt_h h2, ↓isA_tuple hk, hn]
    refine back ?_
    have : nameV v = false := by
      unfold nameV
      split
      · cases hn
      · rfl
    rw [this] at q
    exact q
theorem p_le_end {f : Addr} (h1 : Γ.g "isinstance" = .blt) (h2 : Γ.g "tuple" = .blt) (h3 : Γ.g "len" = .blt) (h5 : Γ.g "_law_le_number" = .fn f ["item", "low"] sp_numA []) {v : D} {w : Str} {n : Int} (hv : KnA G v) (q : DQ (.bl (endV w n v)) G) :
    T__law_le_end Γ K CS (dEnds Θ K DQ DX) (startD N__law_le_end [v, .str w, .int n]) G := by
  obtain ⟨k, hk⟩ := hv.kd
  show T__law_le_end Γ K CS _ [some v, some (.str w), some (.int n)] G
  unfold T__law_le_end
  have no : endV w n v = false → DQ (.bl false) G := fun h => by rw [h] at q; exact q
  refine dSeq_n fun N hN => ?_
  rcases tup_or v with ⟨ds, rfl⟩ | hn
  · rcases tupn2 ds with ⟨a, b, rfl⟩ | hl
    · obtain ⟨ha, hb⟩ := hv.tup2
      obtain ⟨k1, e1⟩ := ha.kd
      push_cast [↓isBlt_h h1, ↓isBlt_h h2, ↓isBlt_h h3]
      refine rNe_str e1 ?_
      cases e : strIs w a with
      | false =>
        push_cast []
        refine back (no ?_)
        rw [endV, e, Bool.false_and]
      | true =>
        push_cast []
        refine hN _ _ ?_
        clear hN N
        rw [endV, e, Bool.true_and] at q
        push_cast [↓dCall_h h5, ↓dCallK_h h5]
        refine ⟨_, _, rfl, hb, ?_⟩
        cases e2 : numB b 0 with
        | false =>
          rw [e2, Bool.false_and] at q
          push_cast []
          exact back q
        | true =>
          obtain ⟨i, rfl, _⟩ := numB_int e2
          rw [e2, Bool.true_and] at q
          push_cast []
          exact back q
    · have e : decide ((ds.length : Int) = 2) = false := decide_eq_false (by omega)
      push_cast [↓isBlt_h h1, ↓isBlt_h h2, ↓isBlt_h h3, e]
      refine back (no ?_)
      unfold endV
      split
      · rename_i z; cases z; exact absurd rfl hl
      · rfl
  · push_cast [↓isBlt_h h1, ↓isBlt_h h2, ↓isA_tuple hk, hn]
    refine back (no ?_)
    unfold endV
    split
    · cases hn
    · rfl
/-- [1 for x in ds if not f(x)] -/
def oneF (f : D → Bool) (d : D) : Option D := if f d then none else some (.int 1)
theorem ones_nil {f : D → Bool} : ∀ {ds : List D}, (ds.filterMap (oneF f)).isEmpty = ds.all f
  | [] => rfl
  | d :: ds => by
    rw [List.filterMap_cons, List.all_cons]
    cases e : f d with
    | true =>
      have e2 : oneF f d = none := by rw [oneF, e]; rfl
      rw [e2, Bool.true_and]
      exact ones_nil
    | false =>
      have e2 : oneF f d = some (.int 1) := by rw [oneF, e]; rfl
      rw [e2]
      rfl
theorem ones_ok {f : D → Bool} {n : Nat} {ds : List D} : okTL n (ds.filterMap (oneF f)) = true := okTL_of fun d hd => by
  obtain ⟨x, _, h⟩ := List.mem_filterMap.mp hd
  unfold oneF at h
  split at h
  · cases h
  · cases h
    cases n <;> rfl
theorem p_le_names {f : Addr} (h1 : Γ.g "isinstance" = .blt) (h2 : Γ.g "tuple" = .blt) (h5 : Γ.g "_law_le_name" = .fn f ["item"] (sp_any1 nameV) []) {v : D} (hv : KnA G v) (hz : SzA 1000 v) (q : DQ (.bl (namesV v)) G) :
    T__law_le_names Γ K CS (dEnds Θ K DQ DX) (startD N__law_le_names [v]) G := by
  obtain ⟨k, hk⟩ := hv.kd
  show T__law_le_names Γ K CS _ [some v, none, none] G
  unfold T__law_le_names
  rcases tup_or v with ⟨ds, rfl⟩ | hn
  · have hl := hz.len
    push_cast [↓isBlt_h h1, ↓isBlt_h h2]
    refine ⟨size_le (by omega), dLcL_fm (oneF nameV) trivial _ (fun d hd R hR => ?_) _ (fun p hp p2 hp2 => rEq_ll (n := 1) (m := 1) (lst_of (gup_old gup_same hp2)) (ys := []) lst_new ones_ok rfl (by decide) (by decide) ?_)⟩
    · unfold oneF at hR
      push_cast [wipeD, ↓dCall_h h5, ↓dCallK_h h5]
      refine sp_any1_e (hv.mem d hd) ?_
      cases e : nameV d with
      | true => rw [e] at hR; push_cast []; exact hR
      | false => rw [e] at hR; push_cast []; exact hR
    · rw [eqTL_nil, ones_nil]
      exact Sb.fin ((GSub.new hp).new2 hp2) q
  · push_cast [↓isBlt_h h1, ↓isBlt_h h2, ↓isA_tuple hk, hn]
    refine back ?_
    have : namesV v = false := by
      unfold namesV
      split
      · cases hn
      · rfl
    rw [this] at q
    exact q
/-! the body -/
theorem ris_of : ∀ {ns : List Int}, (zipD (ns.map fun n => D.tup [.str "name", .int n]) ((ns.map fun n => D.tup [.str "name", .int n]).drop 1)).all ltV = true ↔ ns.Pairwise (· < ·)
  | [] => by simp [zipD]
  | [a] => by simp [zipD]
  | a :: b :: ns => by
    have ih := ris_of (ns := b :: ns)
    have e : (zipD ((a :: b :: ns).map fun n => D.tup [.str "name", .int n]) (((a :: b :: ns).map fun n => D.tup [.str "name", .int n]).drop 1)).all ltV = (decide (a < b) && (zipD ((b :: ns).map fun n => D.tup [.str "name", .int n]) (((b :: ns).map fun n => D.tup [.str "name", .int n]).drop 1)).all ltV) := rfl
    rw [e, Bool.and_eq_true, decide_eq_true_eq, ih]
    constructor
    · rintro ⟨h1, h2⟩
      refine List.pairwise_cons.mpr ⟨fun x hx => ?_, h2⟩
      rcases List.mem_cons.mp hx with rfl | hx
      · exact h1
      · exact Int.lt_trans h1 ((List.pairwise_cons.mp h2).1 x hx)
    · intro h
      exact ⟨(List.pairwise_cons.mp h).1 b List.mem_cons_self, (List.pairwise_cons.mp h).2⟩
theorem sorted_uniq : ∀ {xs ys : List Int}, xs.Pairwise (· < ·) → ys.Pairwise (· < ·) → (∀ k, k ∈ xs ↔ k ∈ ys) → xs = ys
  | [], [], _, _, _ => rfl
  | [], y :: ys, _, _, h => by have := (h y).mpr List.mem_cons_self; cases this
  | x :: xs, [], _, _, h => by have := (h x).mp List.mem_cons_self; cases this
  | x :: xs, y :: ys, h1, h2, h => by
    obtain ⟨a1, a2⟩ := List.pairwise_cons.mp h1
    obtain ⟨b1, b2⟩ := List.pairwise_cons.mp h2
    have exy : x = y := by
      rcases List.mem_cons.mp ((h x).mp List.mem_cons_self) with e | e
      · exact e
      · rcases List.mem_cons.mp ((h y).mpr List.mem_cons_self) with e2 | e2
        · exact e2.symm
        · have := b1 x e
          have := a1 y e2
          omega
    subst exy
    rw [sorted_uniq a2 b2 fun k => ⟨fun hk => ?_, fun hk => ?_⟩]
    · rcases List.mem_cons.mp ((h k).mp (List.mem_cons_of_mem _ hk)) with e | e
      · subst e; have := a1 k hk; omega
      · exact e
    · rcases List.mem_cons.mp ((h k).mpr (List.mem_cons_of_mem _ hk)) with e | e
      · subst e; have := b1 k hk; omega
      · exact e
theorem names_of : ∀ {ds : List D}, ds.all nameV = true → ∃ ns : List Int, ds = ns.map fun n => D.tup [.str "name", .int n]
  | [], _ => ⟨[], rfl⟩
  | d :: ds, h => by
    rw [List.all_cons, Bool.and_eq_true] at h
    obtain ⟨n, rfl, _⟩ := nameV_of h.1
    obtain ⟨ns, rfl⟩ := names_of h.2
    exact ⟨n :: ns, rfl⟩
def sp_leBody : DSp := fun ds G Q X => ∃ (v : D) (n : Int) (h : Bool), ds = [v, .int n, .bl h] ∧ KnA G v ∧ SzA 60 v ∧ Q (.bl (bif h then handV n v else houseV v)) G
theorem in2 {w a b : Str} {p : Addr} {neg : Bool} {G : GH} {Q : DK} (hp : G p = some (.lst [.str a, .str b])) : rIn neg (.str w) (.ref p) G Q = Q (.bl (if neg then !(decide (a = w) || decide (b = w)) else (decide (a = w) || decide (b = w)))) G := by
  have e : inD (.str w) [D.str a, .str b] = (decide (a = w) || decide (b = w)) := by
    show ((a == w) || ((b == w) || false)) = _
    rw [Bool.or_false]
    congr 1 <;> rw [Bool.eq_iff_iff, beq_iff_eq, decide_eq_true_eq]
  unfold rIn
  rw [show seqOf G (.ref p) = some [.str a, .str b] from lst_of hp]
  dsimp only
  rw [e]
  refine propext ⟨fun h => ?_, fun h => .inl ⟨rfl, rfl, h⟩⟩
  rcases h with h | h
  · exact h.2.2
  · cases h.1
theorem in2t {w a b : Str} {neg : Bool} {G : GH} {Q : DK} : rIn neg (.str w) (.tup [.str a, .str b]) G Q = Q (.bl (if neg then !(decide (a = w) || decide (b = w)) else (decide (a = w) || decide (b = w)))) G := by
  have e : inD (.str w) [D.str a, .str b] = (decide (a = w) || decide (b = w)) := by
    show ((a == w) || ((b == w) || false)) = _
    rw [Bool.or_false]
    congr 1 <;> rw [Bool.eq_iff_iff, beq_iff_eq, decide_eq_true_eq]
  unfold rIn
  rw [show seqOf G (.tup [.str a, .str b]) = some [.str a, .str b] from rfl]
  dsimp only
  rw [e]
  refine propext ⟨fun h => ?_, fun h => .inl ⟨rfl, rfl, h⟩⟩
  rcases h with h | h
  · exact h.2.2
  · cases h.1
theorem in2i {w a b : Int} {neg : Bool} {G : GH} {Q : DK} : rIn neg (.int w) (.tup [.int a, .int b]) G Q = Q (.bl (if neg then !(decide (a = w) || decide (b = w)) else (decide (a = w) || decide (b = w)))) G := by
  have e : inD (.int w) [D.int a, .int b] = (decide (a = w) || decide (b = w)) := by
    show ((a == w) || ((b == w) || false)) = _
    rw [Bool.or_false]
    congr 1 <;> rw [Bool.eq_iff_iff, beq_iff_eq, decide_eq_true_eq]
  unfold rIn
  rw [show seqOf G (.tup [.int a, .int b]) = some [.int a, .int b] from rfl]
  dsimp only
  rw [e]
  refine propext ⟨fun h => ?_, fun h => .inl ⟨rfl, rfl, h⟩⟩
  rcases h with h | h
  · exact h.2.2
  · cases h.1
theorem tup45 (ds : List D) : (∃ a b c d, ds = [a, b, c, d]) ∨ (∃ a b c d e, ds = [a, b, c, d, e]) ∨ (ds.length ≠ 4 ∧ ds.length ≠ 5) := by
  match ds with
  | [] => exact .inr (.inr (by simp))
  | [_] => exact .inr (.inr (by simp))
  | [_, _] => exact .inr (.inr (by simp))
  | [_, _, _] => exact .inr (.inr (by simp))
  | [a, b, c, d] => exact .inl ⟨a, b, c, d, rfl⟩
  | [a, b, c, d, e] => exact .inr (.inl ⟨a, b, c, d, e, rfl⟩)
  | _ :: _ :: _ :: _ :: _ :: _ :: _ => exact .inr (.inr (by simp))
theorem ris_names {e : D} (h : namesV e = false) : risV e = false := by
  cases e with
  | tup es =>
    show (es.all nameV && _) = false
    rw [show es.all nameV = false from h, Bool.false_and]
  | _ => rfl
def numOf : D → D
  | .tup [_, x] => x
  | x => x
theorem eqTL_ints : ∀ {ns ms : List Int}, eqTL (ns.map D.int) (ms.map D.int) = decide (ns = ms)
  | [], [] => rfl
  | [], _ :: _ => rfl
  | _ :: _, [] => rfl
  | a :: ns, b :: ms => by
    simp only [List.map_cons, eqTL, eqT, eqTL_ints]
    rw [Bool.eq_iff_iff]
    simp
theorem p_le_body {f f2 f3 : Addr} (h1 : Γ.g "isinstance" = .blt) (h2 : Γ.g "tuple" = .blt) (h3 : Γ.g "len" = .blt) (h4 : Γ.g "str" = .blt) (h5 : Γ.g "_law_le_number" = .fn f ["item", "low"] sp_numA []) (h6 : Γ.g "_law_le_name" = .fn f2 ["item"] (sp_any1 nameV) []) (h7 : Γ.g "_law_le_names" = .fn f3 ["item"] (sp_anyS namesV) []) (h8 : Γ.g "sorted" = .blt) (h9 : Γ.g "set" = .blt)
    {v : D} {n : Int} {h : Bool} (hv : KnA G v) (hz : SzA 60 v) (q : DQ (.bl (bif h then handV n v else houseV v)) G) : T__law_le_body Γ K CS (dEnds Θ K DQ DX) (startD N__law_le_body [v, .int n, .bl h]) G := by
  show T__law_le_body Γ K CS _ [some v, some (.int n), some (.bl h), none, none, none, none, none] G
  unfold T__law_le_body
  cases h

  · refine dSeq_n fun N hN => ?_
    push_cast []
    refine fun p hp => hN _ _ ?_
    clear hN N
    have Fp : gup G p (.lst [.str "have", .str "kept"]) p = some (.lst [.str "have", .str "kept"]) := gup_same
    have sub : GSub G (gup G p (.lst [.str "have", .str "kept"])) := GSub.new hp
    have hv' := hv.keep (Known.sub sub)
    generalize gup G p (.lst [.str "have", .str "kept"]) = G1 at Fp sub hv' ⊢
    have no : houseV v = false → DQ (.bl false) G := fun h => by
      have q : DQ (.bl (houseV v)) G := q
      rw [h] at q
      exact q
    have q : DQ (.bl (houseV v)) G := q
    obtain ⟨k, hk⟩ := hv'.kd
    refine dSeq_n fun N hN => ?_
    rcases tup_or v with ⟨ds, rfl⟩ | hn
    rotate_left
    · push_cast [↓isBlt_h h1, ↓isBlt_h h2, ↓isA_tuple hk, hn]
      refine Sb.fin sub (no ?_)
      cases v <;> first | rfl | cases hn
    rcases tup45 ds with ⟨a, b, c, d, rfl⟩ | ⟨a, b, c, d, e, rfl⟩ | ⟨l4, l5⟩
    rotate_left
    rotate_left
    · have e4 : decide ((4 : Int) = (ds.length : Int)) = false := decide_eq_false (by omega)
      have e5 : decide ((5 : Int) = (ds.length : Int)) = false := decide_eq_false (by omega)
      push_cast [↓isBlt_h h1, ↓isBlt_h h2, ↓isBlt_h h3, ↓in2i, e4, e5, Bool.or_self, if_true]
      refine Sb.fin sub (no ?_)
      unfold houseV
      split
      · rename_i z; cases z; exact absurd rfl l4
      · rename_i z; cases z; exact absurd rfl l5
      · rfl
    · have ha := hv'.mem a (by simp)
      have hb := hv'.mem b (by simp)
      have hc := hv'.mem c (by simp)
      have hd := hv'.mem d (by simp)

      obtain ⟨k1, e1⟩ := ha.kd
      rcases str_or a with ⟨w, rfl⟩ | hs
      rotate_left
      · push_cast [↓isBlt_h h1, ↓isBlt_h h2, ↓isBlt_h h3, ↓isBlt_h h4, ↓in2i, ↓isA_str e1, hs, Bool.or_self, if_true]
        refine Sb.fin sub (no ?_)
        rw [houseV, strIs_no hs, Bool.false_and]
      push_cast [↓isBlt_h h1, ↓isBlt_h h2, ↓isBlt_h h3, ↓isBlt_h h4, ↓in2i, Bool.or_self, if_true]
      refine hN _ _ ?_
      clear hN N
      refine dSeq_n fun N hN => ?_
      by_cases hw : w = "kept"
      rotate_left
      · have st : strIs "kept" (.str w) = false := decide_eq_false hw
        by_cases hw2 : w = "have"
        · subst hw2
          push_cast [↓isBlt_h h1, ↓isBlt_h h2, ↓isBlt_h h3, ↓in2 Fp, ↓in2t, Bool.or_self, if_true, if_false, Bool.false_eq_true]
          refine Sb.fin sub (no ?_)
          rw [houseV, st, Bool.false_and]
        · have d1 : decide (("have" : Str) = w) = false := decide_eq_false (fun z => hw2 z.symm)
          have d2 : decide (("kept" : Str) = w) = false := decide_eq_false (fun z => hw z.symm)
          push_cast [↓isBlt_h h1, ↓isBlt_h h2, ↓isBlt_h h3, ↓in2 Fp, d1, d2, Bool.or_self, if_true]
          refine Sb.fin sub (no ?_)
          rw [houseV, st, Bool.false_and]
      subst hw
      have st : strIs "kept" (.str "kept") = true := rfl
      push_cast [↓isBlt_h h1, ↓isBlt_h h2, ↓isBlt_h h3, ↓in2 Fp, ↓in2t, Bool.or_self, if_true, if_false, Bool.false_eq_true]
      refine hN _ _ ?_
      clear hN N
      refine dSeq_n fun N hN => ?_
      rw [houseV, st, Bool.true_and] at q
      push_cast [↓dCall_h h5, ↓dCallK_h h5]
      refine ⟨_, _, rfl, hb, ?_⟩
      cases eb : numB b 1 with
      | false =>
        rw [rndV, eb, Bool.false_and, Bool.false_and] at q
        push_cast []
        exact Sb.fin sub q
      | true =>
        push_cast [↓dCall_h h5, ↓dCallK_h h5]
        refine ⟨_, _, rfl, hc, ?_⟩
        cases ec : numB c 1 with
        | false =>
          rw [rndV, eb, ec, Bool.and_false, Bool.false_and] at q
          push_cast []
          exact Sb.fin sub q
        | true =>
          rw [rndV, eb, ec, Bool.and_self, Bool.true_and] at q
          push_cast []
          refine hN _ _ ?_
          clear hN N
          refine dSeq_n fun N hN => ?_
          push_cast [↓dCall_h h6, ↓dCallK_h h6]
          exact sp_any1_e hd (Sb.fin sub q)

    · have ha := hv'.mem a (by simp)
      have hb := hv'.mem b (by simp)
      have hc := hv'.mem c (by simp)
      have hd := hv'.mem d (by simp)
      have he := hv'.mem e (by simp)
      obtain ⟨k1, e1⟩ := ha.kd
      rcases str_or a with ⟨w, rfl⟩ | hs
      rotate_left
      · push_cast [↓isBlt_h h1, ↓isBlt_h h2, ↓isBlt_h h3, ↓isBlt_h h4, ↓in2i, ↓isA_str e1, hs, Bool.or_self, if_true]
        refine Sb.fin sub (no ?_)
        rw [houseV, strIs_no hs, Bool.false_and]
      push_cast [↓isBlt_h h1, ↓isBlt_h h2, ↓isBlt_h h3, ↓isBlt_h h4, ↓in2i, Bool.or_self, if_true]
      refine hN _ _ ?_
      clear hN N
      refine dSeq_n fun N hN => ?_
      by_cases hw : w = "have"
      rotate_left
      · have st : strIs "have" (.str w) = false := decide_eq_false hw
        by_cases hw2 : w = "kept"
        · subst hw2
          push_cast [↓isBlt_h h1, ↓isBlt_h h2, ↓isBlt_h h3, ↓in2 Fp, ↓in2t, Bool.or_self, if_true, if_false, Bool.false_eq_true]
          refine Sb.fin sub (no ?_)
          rw [houseV, st, Bool.false_and]
        · have d1 : decide (("have" : Str) = w) = false := decide_eq_false (fun z => hw z.symm)
          have d2 : decide (("kept" : Str) = w) = false := decide_eq_false (fun z => hw2 z.symm)
          push_cast [↓isBlt_h h1, ↓isBlt_h h2, ↓isBlt_h h3, ↓in2 Fp, d1, d2, Bool.or_self, if_true]
          refine Sb.fin sub (no ?_)
          rw [houseV, st, Bool.false_and]
      subst hw
      have st : strIs "have" (.str "have") = true := rfl
      push_cast [↓isBlt_h h1, ↓isBlt_h h2, ↓isBlt_h h3, ↓in2 Fp, ↓in2t, Bool.or_self, if_true, if_false, Bool.false_eq_true]
      refine hN _ _ ?_
      clear hN N
      refine dSeq_n fun N hN => ?_
      rw [houseV, st, Bool.true_and] at q
      push_cast [↓dCall_h h5, ↓dCallK_h h5]
      refine ⟨_, _, rfl, hb, ?_⟩
      cases eb : numB b 1 with
      | false =>
        rw [rndV, eb, Bool.false_and, Bool.false_and] at q
        push_cast []
        exact Sb.fin sub q
      | true =>
        push_cast [↓dCall_h h5, ↓dCallK_h h5]
        refine ⟨_, _, rfl, hc, ?_⟩
        cases ec : numB c 1 with
        | false =>
          rw [rndV, eb, ec, Bool.and_false, Bool.false_and] at q
          push_cast []
          exact Sb.fin sub q
        | true =>
          rw [rndV, eb, ec, Bool.and_self, Bool.true_and] at q
          push_cast []
          refine hN _ _ ?_
          clear hN N
          refine dSeq_n fun N hN => ?_
          push_cast []
          refine hN _ _ ?_
          clear hN N
          refine dSeq_n fun N hN => ?_
          push_cast [↓dCall_h h7, ↓dCallK_h h7]
          refine ⟨_, rfl, hd, (hz.mem d (by simp)).mono (by decide), ?_⟩
          cases en : namesV d with
          | false =>
            rw [en, Bool.false_and] at q
            push_cast []
            exact Sb.fin sub q
          | true =>
            rw [en, Bool.true_and] at q
            push_cast [↓dCall_h h6, ↓dCallK_h h6]
            exact sp_any1_e he (Sb.fin sub q)


  · refine dSeq_n fun N hN => ?_
    push_cast []
    refine fun p hp => hN _ _ ?_
    clear hN N
    have Fp : gup G p (.lst [.str "ask", .str "keep"]) p = some (.lst [.str "ask", .str "keep"]) := gup_same
    have sub : GSub G (gup G p (.lst [.str "ask", .str "keep"])) := GSub.new hp
    have hv' := hv.keep (Known.sub sub)
    generalize gup G p (.lst [.str "ask", .str "keep"]) = G1 at Fp sub hv' ⊢
    have no : handV n v = false → DQ (.bl false) G := fun h => by
      have q : DQ (.bl (handV n v)) G := q
      rw [h] at q
      exact q
    have q : DQ (.bl (handV n v)) G := q
    obtain ⟨k, hk⟩ := hv'.kd
    refine dSeq_n fun N hN => ?_
    rcases tup_or v with ⟨ds, rfl⟩ | hn
    rotate_left
    · push_cast [↓isBlt_h h1, ↓isBlt_h h2, ↓isA_tuple hk, hn]
      refine Sb.fin sub (no ?_)
      cases v <;> first | rfl | cases hn
    rcases tup45 ds with ⟨a, b, c, d, rfl⟩ | ⟨a, b, c, d, e, rfl⟩ | ⟨l4, l5⟩
    rotate_left
    rotate_left
    · have e4 : decide ((4 : Int) = (ds.length : Int)) = false := decide_eq_false (by omega)
      have e5 : decide ((5 : Int) = (ds.length : Int)) = false := decide_eq_false (by omega)
      push_cast [↓isBlt_h h1, ↓isBlt_h h2, ↓isBlt_h h3, ↓in2i, e4, e5, Bool.or_self, if_true]
      refine Sb.fin sub (no ?_)
      unfold handV
      split
      · rename_i z; cases z; exact absurd rfl l4
      · rename_i z; cases z; exact absurd rfl l5
      · rfl
    · have ha := hv'.mem a (by simp)
      have hb := hv'.mem b (by simp)
      have hc := hv'.mem c (by simp)
      have hd := hv'.mem d (by simp)

      obtain ⟨k1, e1⟩ := ha.kd
      rcases str_or a with ⟨w, rfl⟩ | hs
      rotate_left
      · push_cast [↓isBlt_h h1, ↓isBlt_h h2, ↓isBlt_h h3, ↓isBlt_h h4, ↓in2i, ↓isA_str e1, hs, Bool.or_self, if_true]
        refine Sb.fin sub (no ?_)
        rw [handV, strIs_no hs, Bool.false_and]
      push_cast [↓isBlt_h h1, ↓isBlt_h h2, ↓isBlt_h h3, ↓isBlt_h h4, ↓in2i, Bool.or_self, if_true]
      refine hN _ _ ?_
      clear hN N
      refine dSeq_n fun N hN => ?_
      by_cases hw : w = "keep"
      rotate_left
      · have st : strIs "keep" (.str w) = false := decide_eq_false hw
        by_cases hw2 : w = "ask"
        · subst hw2
          push_cast [↓isBlt_h h1, ↓isBlt_h h2, ↓isBlt_h h3, ↓in2 Fp, ↓in2t, Bool.or_self, if_true, if_false, Bool.false_eq_true]
          refine Sb.fin sub (no ?_)
          rw [handV, st, Bool.false_and]
        · have d1 : decide (("ask" : Str) = w) = false := decide_eq_false (fun z => hw2 z.symm)
          have d2 : decide (("keep" : Str) = w) = false := decide_eq_false (fun z => hw z.symm)
          push_cast [↓isBlt_h h1, ↓isBlt_h h2, ↓isBlt_h h3, ↓in2 Fp, d1, d2, Bool.or_self, if_true]
          refine Sb.fin sub (no ?_)
          rw [handV, st, Bool.false_and]
      subst hw
      have st : strIs "keep" (.str "keep") = true := rfl
      push_cast [↓isBlt_h h1, ↓isBlt_h h2, ↓isBlt_h h3, ↓in2 Fp, ↓in2t, Bool.or_self, if_true, if_false, Bool.false_eq_true]
      refine hN _ _ ?_
      clear hN N
      refine dSeq_n fun N hN => ?_
      rw [handV, st, Bool.true_and] at q
      push_cast [↓dCall_h h5, ↓dCallK_h h5]
      refine ⟨_, _, rfl, hb, ?_⟩
      cases eb : numB b 1 with
      | false =>
        rw [rndV, eb, Bool.false_and, Bool.false_and] at q
        push_cast []
        exact Sb.fin sub q
      | true =>
        push_cast [↓dCall_h h5, ↓dCallK_h h5]
        refine ⟨_, _, rfl, hc, ?_⟩
        cases ec : numB c 1 with
        | false =>
          rw [rndV, eb, ec, Bool.and_false, Bool.false_and] at q
          push_cast []
          exact Sb.fin sub q
        | true =>
          rw [rndV, eb, ec, Bool.and_self, Bool.true_and] at q
          push_cast []
          refine hN _ _ ?_
          clear hN N
          refine dSeq_n fun N hN => ?_
          push_cast []
          refine hN _ _ ?_
          clear hN N
          refine dSeq_n fun N hN => ?_
          push_cast []
          refine hN _ _ ?_
          clear hN N
          refine dSeq_n fun N hN => ?_
          push_cast [↓dCall_h h7, ↓dCallK_h h7]
          exact ⟨_, rfl, hd, (hz.mem d (by simp)).mono (by decide), Sb.fin sub q⟩

    · have ha := hv'.mem a (by simp)
      have hb := hv'.mem b (by simp)
      have hc := hv'.mem c (by simp)
      have hd := hv'.mem d (by simp)
      have he := hv'.mem e (by simp)
      obtain ⟨k1, e1⟩ := ha.kd
      rcases str_or a with ⟨w, rfl⟩ | hs
      rotate_left
      · push_cast [↓isBlt_h h1, ↓isBlt_h h2, ↓isBlt_h h3, ↓isBlt_h h4, ↓in2i, ↓isA_str e1, hs, Bool.or_self, if_true]
        refine Sb.fin sub (no ?_)
        rw [handV, strIs_no hs, Bool.false_and]
      push_cast [↓isBlt_h h1, ↓isBlt_h h2, ↓isBlt_h h3, ↓isBlt_h h4, ↓in2i, Bool.or_self, if_true]
      refine hN _ _ ?_
      clear hN N
      refine dSeq_n fun N hN => ?_
      by_cases hw : w = "ask"
      rotate_left
      · have st : strIs "ask" (.str w) = false := decide_eq_false hw
        by_cases hw2 : w = "keep"
        · subst hw2
          push_cast [↓isBlt_h h1, ↓isBlt_h h2, ↓isBlt_h h3, ↓in2 Fp, ↓in2t, Bool.or_self, if_true, if_false, Bool.false_eq_true]
          refine Sb.fin sub (no ?_)
          rw [handV, st, Bool.false_and]
        · have d1 : decide (("ask" : Str) = w) = false := decide_eq_false (fun z => hw z.symm)
          have d2 : decide (("keep" : Str) = w) = false := decide_eq_false (fun z => hw2 z.symm)
          push_cast [↓isBlt_h h1, ↓isBlt_h h2, ↓isBlt_h h3, ↓in2 Fp, d1, d2, Bool.or_self, if_true]
          refine Sb.fin sub (no ?_)
          rw [handV, st, Bool.false_and]
      subst hw
      have st : strIs "ask" (.str "ask") = true := rfl
      push_cast [↓isBlt_h h1, ↓isBlt_h h2, ↓isBlt_h h3, ↓in2 Fp, ↓in2t, Bool.or_self, if_true, if_false, Bool.false_eq_true]
      refine hN _ _ ?_
      clear hN N
      refine dSeq_n fun N hN => ?_
      rw [handV, st, Bool.true_and] at q
      push_cast [↓dCall_h h5, ↓dCallK_h h5]
      refine ⟨_, _, rfl, hb, ?_⟩
      cases eb : numB b 1 with
      | false =>
        rw [rndV, eb, Bool.false_and, Bool.false_and] at q
        push_cast []
        exact Sb.fin sub q
      | true =>
        push_cast [↓dCall_h h5, ↓dCallK_h h5]
        refine ⟨_, _, rfl, hc, ?_⟩
        cases ec : numB c 1 with
        | false =>
          rw [rndV, eb, ec, Bool.and_false, Bool.false_and] at q
          push_cast []
          exact Sb.fin sub q
        | true =>
          rw [rndV, eb, ec, Bool.and_self, Bool.true_and] at q
          push_cast []
          refine hN _ _ ?_
          clear hN N
          refine dSeq_n fun N hN => ?_
          push_cast []
          refine hN _ _ ?_
          clear hN N
          refine dSeq_n fun N hN => ?_
          push_cast []
          refine hN _ _ ?_
          clear hN N
          refine dSeq_n fun N hN => ?_
          push_cast []
          refine hN _ _ ?_
          clear hN N
          refine dSeq_n fun N hN => ?_
          obtain ⟨k3, e3⟩ := hd.kd
          rcases tup_or d with ⟨rs, rfl⟩ | hn
          rotate_left
          · push_cast [↓isBlt_h h1, ↓isBlt_h h2, ↓isA_tuple e3, hn]
            have e0 : rowV n d = false := by cases d <;> first | rfl | cases hn
            rw [e0, Bool.false_and] at q
            exact Sb.fin sub q
          have hl := (hz.mem (.tup rs) (by simp)).len
          cases el : decide ((rs.length : Int) = n) with
          | false =>
            push_cast [↓isBlt_h h1, ↓isBlt_h h2, ↓isBlt_h h3, el]
            rw [rowV, el, Bool.false_and, Bool.false_and] at q
            exact Sb.fin sub q
          | true =>
            rw [rowV, el, Bool.true_and] at q
            push_cast [↓isBlt_h h1, ↓isBlt_h h2, ↓isBlt_h h3, el, ↓dCall_h h7, ↓dCallK_h h7]
            refine ⟨_, rfl, he, (hz.mem e (by simp)).mono (by decide), ?_⟩
            cases en : namesV e with
            | false =>
              rw [ris_names en, Bool.and_false] at q
              push_cast []
              exact Sb.fin sub q
            | true =>
              obtain ⟨es, rfl⟩ : ∃ es, e = .tup es := by
                cases e <;> first | exact ⟨_, rfl⟩ | cases en
              obtain ⟨ns, rfl⟩ := names_of (show es.all nameV = true from en)
              have hnl := (hz.mem _ (List.mem_cons_of_mem _ (List.mem_cons_of_mem _ (List.mem_cons_of_mem _ (List.mem_cons_of_mem _ List.mem_cons_self))))).len
              rw [List.length_map] at hnl
              push_cast []
              refine hN _ _ ?_
              clear hN N
              refine dSeq_n fun N hN => ?_
              push_cast []
              refine ⟨size_le (by omega), dLcL_fm (oneF fun d => numB d 0) trivial _ (fun d0 hd0 R hR => ?_) _ (fun p1 hp1 p2 hp2 => rNe_ll (n := 1) (m := 1) (lst_of (gup_old gup_same hp2)) (ys := []) lst_new ones_ok rfl (by decide) (by decide) ?_)⟩
              · have hR : R (if numB d0 0 = true then none else some (.int 1)) _ := hR
                push_cast [wipeD, ↓dCall_h h5, ↓dCallK_h h5]
                refine ⟨_, _, rfl, hd.mem d0 hd0, ?_⟩
                cases e0 : numB d0 0 with
                | true => rw [e0] at hR; push_cast []; exact hR
                | false => rw [e0] at hR; push_cast []; exact hR
              rw [eqTL_nil, ones_nil]
              have sub := (sub.new2 (o := .lst (rs.filterMap (oneF fun d => numB d 0))) hp1).new2 (o := .lst []) hp2
              generalize gup (gup G1 p1 _) p2 _ = G2 at sub ⊢
              cases er : rs.all fun d => numB d 0 with
              | false =>
                push_cast []
                rw [er, Bool.false_and] at q
                exact Sb.fin sub q
              | true =>
                rw [er, Bool.true_and] at q
                push_cast []
                refine hN _ _ ?_
                clear hN N
                refine dSeq_n fun N hN => ?_
                push_cast [List.length_map]
                refine ⟨size_le (by omega), dLcL_map numOf trivial _ (fun d0 hd0 R hR => ?_) _ (fun p3 hp3 => hN _ _ ?_)⟩
                · obtain ⟨m, _, rfl⟩ := List.mem_map.mp hd0
                  push_cast [wipeD]
                  exact hR
                clear hN N
                have em : (ns.map fun m => D.tup [.str "name", .int m]).map numOf = ns.map D.int := by rw [List.map_map]; rfl
                rw [em]
                have F3 : gup G2 p3 (.lst (ns.map D.int)) p3 = some (.lst (ns.map D.int)) := gup_same
                have sub := sub.new2 (o := .lst (ns.map D.int)) hp3
                generalize gup G2 p3 (.lst (ns.map D.int)) = G3 at sub F3 ⊢
                push_cast [↓isBlt_h h8, ↓isBlt_h h9]
                refine ⟨ns, lst_of F3, by omega, fun ms p4 hs1 hs2 hs3 hp4 => rEq_ll (n := 1) (m := 1) (lst_of (gup_old F3 hp4)) (ys := ms.map D.int) lst_new (okTL_ints _) (okTL_ints _) (by decide) (by decide) ?_⟩
                rw [eqTL_ints]
                refine Sb.fin (sub.new2 hp4) ?_
                have ee : risV (.tup (ns.map fun m => D.tup [.str "name", .int m])) = decide (ns = ms) := by
                  rw [risV, show (ns.map fun m => D.tup [.str "name", .int m]).all nameV = true from en, Bool.true_and, Bool.eq_iff_iff, ris_of, decide_eq_true_eq]
                  exact ⟨fun hp => sorted_uniq hp hs1 fun k => (hs2 k).symm, fun e => by rw [e]; exact hs1⟩
                rw [ee] at q
                exact q


--TAIL
theorem end_one {h o : Int} {x : D} (e : endV "hand" h x = true) : endV "house" o x = false := by
  unfold endV at e ⊢
  split at e
  · rw [Bool.and_eq_true] at e
    rw [strIs_two (u := "house") e.1 (by decide +kernel), Bool.false_and]
  · cases e
def sp_leLetter : DSp := fun ds G Q X => ∃ (v : D) (m o : Int), ds = [v, .int m, .int o] ∧ KnA G v ∧ SzA 60 v ∧ Q (.bl (letterV m o v)) G
theorem p_le_letter {f g : Addr} (h1 : Γ.g "isinstance" = .blt) (h2 : Γ.g "tuple" = .blt) (h3 : Γ.g "len" = .blt) (h5 : Γ.g "_law_le_end" = .fn f ["item", "word", "many"] sp_endA []) (h6 : Γ.g "_law_le_body" = .fn g ["item", "hands", "is_hand"] sp_leBody [])
    {m o : Int} {v : D} (hv : KnA G v) (hz : SzA 60 v) (q : DQ (.bl (letterV m o v)) G) : T__law_le_letter Γ K CS (dEnds Θ K DQ DX) (startD N__law_le_letter [v, .int m, .int o]) G := by
  obtain ⟨k, hk⟩ := hv.kd
  show T__law_le_letter Γ K CS _ [some v, some (.int m), some (.int o)] G
  unfold T__law_le_letter
  have no : letterV m o v = false → DQ (.bl false) G := fun h => by rw [h] at q; exact q
  refine dSeq_n fun N hN => ?_
  rcases tup_or v with ⟨ds, rfl⟩ | hn
  rotate_left
  · push_cast [↓isBlt_h h1, ↓isBlt_h h2, ↓isA_tuple hk, hn]
    refine back (no ?_)
    cases v <;> first | rfl | cases hn
  rcases tupn3 ds with ⟨x, y, z, rfl⟩ | hl
  rotate_left
  · have e : decide ((ds.length : Int) = 3) = false := decide_eq_false (by omega)
    push_cast [↓isBlt_h h1, ↓isBlt_h h2, ↓isBlt_h h3, e]
    refine back (no ?_)
    unfold letterV
    split
    · rename_i z; cases z; exact absurd rfl hl
    · rfl
  have hx := hv.mem x (by simp)
  have hy := hv.mem y (by simp)
  have hzz := hv.mem z (by simp)
  have hs := hz.mem z (by simp)
  rw [letterV] at q
  push_cast [↓isBlt_h h1, ↓isBlt_h h2, ↓isBlt_h h3]
  refine hN _ _ ?_
  clear hN N
  refine dSeq_n fun N hN => ?_
  push_cast [↓dCall_h h5, ↓dCallK_h h5]
  refine ⟨_, _, _, rfl, hx, ?_⟩
  cases e1 : endV "hand" m x with
  | true =>
    rw [e1, cond_true] at q
    push_cast [↓dCall_h h5, ↓dCallK_h h5]
    refine ⟨_, _, _, rfl, hy, ?_⟩
    cases e2 : endV "house" o y with
    | true =>
      rw [e2, Bool.true_and] at q
      push_cast [↓dCall_h h6, ↓dCallK_h h6]
      exact ⟨_, _, _, rfl, hzz, hs, back q⟩
    | false =>
      rw [e2, Bool.false_and] at q
      push_cast []
      refine hN _ _ ?_
      clear hN N
      refine dSeq_n fun N hN => ?_
      push_cast [↓dCall_h h5, ↓dCallK_h h5]
      refine ⟨_, _, _, rfl, hx, ?_⟩
      rw [end_one e1]
      push_cast []
      exact back q
  | false =>
    rw [e1, cond_false] at q
    push_cast []
    refine hN _ _ ?_
    clear hN N
    refine dSeq_n fun N hN => ?_
    push_cast [↓dCall_h h5, ↓dCallK_h h5]
    refine ⟨_, _, _, rfl, hx, ?_⟩
    cases e2 : endV "house" o x with
    | false =>
      rw [e2, Bool.false_and] at q
      push_cast []
      exact back q
    | true =>
      rw [e2, Bool.true_and] at q
      push_cast [↓dCall_h h5, ↓dCallK_h h5]
      refine ⟨_, _, _, rfl, hy, ?_⟩
      cases e3 : endV "hand" m y with
      | false =>
        rw [e3, Bool.false_and] at q
        push_cast []
        exact back q
      | true =>
        rw [e3, Bool.true_and] at q
        push_cast []
        refine hN _ _ ?_
        clear hN N
        push_cast [↓dCall_h h6, ↓dCallK_h h6]
        exact ⟨_, _, _, rfl, hzz, hs, back q⟩
def sp_isLetter (C : Addr) : DSp := fun ds G Q X => ∃ (st v : D), ds = [st, v] ∧ KnA G st ∧ KnA G v ∧ SzA 1000 v ∧ (∀ a b c : Int, st = .tup [.int a, .int b, .int c] → storeV st = true → Q (.bl (letterV a b v)) G) ∧ (storeV st = false → X ⟨C, []⟩ G)
theorem store_of {st : D} (h : storeV st = true) : ∃ a b c : Int, st = .tup [.int a, .int b, .int c] := by
  unfold storeV at h
  split at h
  · exact ⟨_, _, _, rfl⟩
  · cases h
theorem p_isLetter {f g C : Addr} (h1 : Γ.g "need_store" = .fn f ["store"] (sp_need_storeA C) []) (h2 : Γ.g "right_letter" = .fn g ["store", "value"] sp_rightA []) {st v : D} (hs : KnA G st) (hv : KnA G v) (hz : SzA 1000 v)
    (q : ∀ a b c : Int, st = .tup [.int a, .int b, .int c] → storeV st = true → DQ (.bl (letterV a b v)) G) (hx : storeV st = false → DX ⟨C, []⟩ G) : T_is_letter Γ K CS (dEnds Θ K DQ DX) (startD N_is_letter [st, v]) G := by
  show T_is_letter Γ K CS _ [some st, some v] G
  unfold T_is_letter
  refine dSeq_n fun N hN => ?_
  push_cast [↓dCall_h h1, ↓dCallK_h h1]
  refine ⟨st, rfl, hs, fun e => hN _ _ ?_, fun e => ⟨G, RepTo.refl, hx e⟩⟩
  clear hN N
  obtain ⟨a, b, c, rfl⟩ := store_of e
  push_cast [↓dCall_h h2, ↓dCallK_h h2]
  exact ⟨_, _, _, _, rfl, hv, hz, back (q a b c rfl e)⟩
/-! ### drawn letters, and bent ones -/
inductive Wf (G : GH) (n : Nat) : Nat → D → Prop
  | fl {k : Nat} {x : D} : flatD x = true → Wf G n k x
  | rf {k : Nat} {a : Addr} {kd : Kd} : kdOf G (.ref a) = some kd → Wf G n k (.ref a)
  | tp {k : Nat} {ds : List D} : ds.length ≤ n → (∀ e ∈ ds, Wf G n k e) → Wf G n (k + 1) (.tup ds)
theorem Wf.kn {n k : Nat} {x : D} (h : Wf G n k x) : KnA G x := by
  induction h with
  | fl h => exact .sc h
  | rf h => exact .rf h
  | tp _ _ ih => exact .tp ih
theorem Wf.sz {n k : Nat} {x : D} (h : Wf G n k x) : SzA n x := by
  induction h with
  | fl h => exact .o (by cases ‹D› <;> first | rfl | cases h)
  | rf h => exact .o rfl
  | tp h _ ih => exact .tp h ih
theorem Wf.mono {n k : Nat} {x : D} (h : Wf G n k x) {m : Nat} (hm : n ≤ m) : ∀ {j : Nat}, k ≤ j → Wf G m j x := by
  induction h with
  | fl h => exact fun _ => .fl h
  | rf h => exact fun _ => .rf h
  | @tp k ds h _ ih =>
    intro j hj
    obtain ⟨i, rfl⟩ : ∃ i, j = i + 1 := ⟨j - 1, by omega⟩
    exact .tp (by omega) fun e he => ih e he (by omega)
theorem Wf.keep {G' : GH} {n k : Nat} {x : D} (h : Wf G n k x) (e : Known G G') : Wf G' n k x := by
  induction h with
  | fl h => exact .fl h
  | rf h => exact .rf (e _ _ h)
  | tp h _ ih => exact .tp h ih
theorem Wf.mem {n k : Nat} {ds : List D} (h : Wf G n (k + 1) (.tup ds)) : ∀ e ∈ ds, Wf G n k e := by
  cases h with
  | fl h => cases h
  | tp _ h => exact h
theorem Wf.len {n k : Nat} {ds : List D} (h : Wf G n k (.tup ds)) : ds.length ≤ n := h.sz.len
end
end Dl

namespace Dl
open PySem PySem.Spec PyProof.Rows L2
local macro_rules
  | `(tactic| push_cast [$xs,*]) => `(tactic| simp only [↓dSeq_e, ↓dDrop_e, ↓dRet_e, ↓dRetN_e, ↓dIfS_e, ↓dgName_e, ↓dgNil_nil, ↓dgCons_cons, ↓dgTup_tup, ↓dAsg_e, ↓dPar_e, ↓dPar3_e, ↓dgSub_e, ↓dFor_e, ↓dVar_0, ↓dVar_s, ↓dC_e, ↓dBin_e, ↓dUn_e, ↓dChain_i, ↓chN_bl, ↓rt_cond, c_and, c_or, c_nand, c_self, c_self2, Int.cast_ofNat_Int, Int.reduceEq, Int.reduceLT, Int.reduceLE, Int.reduceAdd, Int.reduceSub, Int.reduceMul, Int.reduceNeg, Int.reduceNe, decide_true, decide_false, eq_self, ↓rTru_bl, ↓rTru_int, ↓rTru_non, ↓rTru_tup, ↓dTru_e, ↓dTAnd_e, ↓dTOr_e, ↓dTNot_e, ↓dAnd_e, ↓dOr_e, ↓dNot_e, ↓dIf_e, ↓dNil_e, ↓dCons_e, ↓dTup_e, ↓dLst_e, ↓dBc_e, ↓dBty_e, ↓dBi_e, ↓dGlob_con, ↓dGlob_fn, ↓dGlob_cls, ↓dGlob_exc, ↓dRaise_exc, ↓dCall_fn, ↓dCall_cls, ↓dCallK_fn, ↓dNoPart_e, ↓dPart_i, ↓pPart_int, ↓dSlice_e, ↓rSl_tup, ↓dISeq_i, ↓dIRng1_i, ↓dIRng2_i, ↓dIZip_i, ↓dIEnum_i, ↓dFld_i, ↓dFldSet_i, ↓dMeth_i, ↓dMethK_i, ↓iSeq_tup, ↓iR1_int, ↓iR2_int, ↓iZp_tup, ↓dLM_e, ↓dNext_e, ↓dBreak_e, ↓dCont_e, ↓dDisp_e, ↓dPairs_n, ↓dPairs_c, ↓dYes_e, ↓dLc_e, ↓arg0_nil, ↓arg1_one, ↓arg2_two, ↓arg3_three, ↓isBlt_b, startD, ↓dIte_t, ↓dIte_f, ↓rAdd_ii, ↓rSub_ii, ↓rMul_ii, ↓rFdiv_ii, ↓rMod_ii, ↓rPow_ii, ↓rIAdd_ii, ↓rISub_ii, ↓rNeg_i, ↓rLt_ii, ↓rLe_ii, ↓rGt_ii, ↓rGe_ii, ↓rEq_ii, ↓rEq_ss, ↓rEq_bb, ↓rNe_ii, ↓rNe_ss, ↓rInt_i, ↓rAbs_i, ↓rLen_t, ↓rIxt0, ↓rIxt1, ↓rIxt2, ↓rIxt3, ↓rIxt4, ↓rIxt5, ↓rIxt6, ↓rIxt7, ↓isi_non_int, ↓isi_non_bool, ↓isi_non_str, ↓isi_non_list, ↓isi_non_tuple, ↓isi_non_dict, ↓isi_bl_int, ↓isi_bl_bool, ↓isi_bl_str, ↓isi_bl_list, ↓isi_bl_tuple, ↓isi_bl_dict, ↓isi_int_int, ↓isi_int_bool, ↓isi_int_str, ↓isi_int_list, ↓isi_int_tuple, ↓isi_int_dict, ↓isi_str_int, ↓isi_str_bool, ↓isi_str_str, ↓isi_str_list, ↓isi_str_tuple, ↓isi_str_dict, ↓isi_tup_int, ↓isi_tup_bool, ↓isi_tup_str, ↓isi_tup_list, ↓isi_tup_tuple, ↓isi_tup_dict, List.map_cons, List.map_nil, List.length_cons, List.length_nil, List.cons_append, List.nil_append, List.getElem?_cons_zero, List.getElem?_cons_succ, List.set_cons_zero, List.set_cons_succ, List.replicate_succ, List.replicate_zero, Int.reduceToNat, Nat.reduceSub, Nat.reduceAdd, true_and, and_true, Bool.not_true, Bool.not_false, Bool.true_and, Bool.and_true, Bool.false_and, Bool.and_false, Bool.false_or, Bool.or_false, Bool.true_or, Bool.or_true, Bool.not_not, ↓dLc2_e, ↓dLRg1_e, ↓dRev_e, ↓dLenSet_e, ↓rSorted_e, ↓dSrtSet_e, ↓iEn_tup, ↓rMul_ii, ↓rMul_ti, size_lit, str_inj, String.reduceEq, Nat.reduceLeDiff, Nat.reducePow, Int.reducePow, $xs,*])
section
variable {K : PySem.W.Frag} {Γ : GEnv} {CS : Addr} {G : GH} {DQ : DK} {DX : DE → GH → Prop} {T : List (Addr × Str)}
/-- a value like a letter's: three things, shallow -/
structure Lt (d : D) : Prop where
  wf : ∀ G, Wf G 7 4 d
  ex : ∃ x y z, d = .tup [x, y, z]
theorem Known.kpb {G G1 : GH} {s : Addr} {b : Nat} (h : KpB G s b G1) (hs : ∃ j, G s = Option.some (.abs j [])) : Known G G1 := let ⟨_, _, h⟩ := h; .kp h hs
theorem kS_names (ns : List Int) : (ns.map fun n => D.tup [.str "name", .int n]) = ((ns.map fun n => [(.inr "name" : Key), .inl n]).map tupKs) := by
  rw [List.map_map]
  rfl
theorem names_lt {ns : List Int} {G : GH} (h : ns.length ≤ 7) {k : Nat} : Wf G 7 (k + 2) (.tup (ns.map fun n => D.tup [.str "name", .int n])) := .tp (by rw [List.length_map]; exact h) fun e he => by
  obtain ⟨n, _, rfl⟩ := List.mem_map.mp he
  refine .tp (by simp) fun e he => ?_
  simp only [List.mem_cons, List.not_mem_nil, or_false] at he
  rcases he with rfl | rfl <;> exact .fl rfl
theorem row_lt {ns : List Int} {G : GH} (h : ns.length ≤ 7) {k : Nat} : Wf G 7 (k + 1) (.tup (ns.map D.int)) := .tp (by rw [List.length_map]; exact h) fun e he => by
  obtain ⟨n, _, rfl⟩ := List.mem_map.mp he
  exact .fl rfl
theorem end_lt {w : Str} {n : Int} {G : GH} {k : Nat} : Wf G 7 (k + 1) (.tup [.str w, .int n]) := .tp (by simp) fun e he => by
  simp only [List.mem_cons, List.not_mem_nil, or_false] at he
  rcases he with rfl | rfl <;> exact .fl rfl
theorem lt_mk {w u : Str} {n m : Int} {ds : List D} (h : ∀ G, Wf G 7 3 (.tup ds)) : Lt (.tup [.tup [.str w, .int n], .tup [.str u, .int m], .tup ds]) := ⟨fun G => .tp (by simp) fun e he => by
  simp only [List.mem_cons, List.not_mem_nil, or_false] at he
  rcases he with rfl | rfl | rfl
  · exact end_lt
  · exact end_lt
  · exact h G, _, _, _, rfl⟩
def sp_drawn : DSp := fun ds G Q X => ∃ (s : Addr) (k : Nat) (m o : Int), ds = [.ref s, .int m, .int o] ∧ G s = some (.abs k []) ∧ k < 1000000000 ∧ (1 ≤ m ∧ m ≤ 6) ∧ (1 ≤ o ∧ o ≤ 13) ∧ ∀ d, Lt d → Q d (gup G s (.abs (k + 30) []))
theorem p_drawn {f g : Addr} (h1 : Γ.g "_law_draw" = .fn f ["state", "size_here"] spDraw []) (h2 : Γ.g "_law_pick" = .fn g ["state", "several"] spPick []) (h3 : Γ.g "tuple" = .blt) (h4 : Γ.g "range" = .blt) (h5 : Γ.g "sorted" = .blt)
    {s : Addr} {k : Nat} {m o : Int} (hs : G s = some (.abs k [])) (hk : k < 1000000000) (hm : 1 ≤ m ∧ m ≤ 6) (ho : 1 ≤ o ∧ o ≤ 13) (q : ∀ d, Lt d → DQ d (gup G s (.abs (k + 30) []))) :
    T__law_le_drawn Γ K CS (dEnds (drawI T) K DQ DX) (startD N__law_le_drawn [.ref s, .int m, .int o]) G := by
  show T__law_le_drawn Γ K CS _ [some (.ref s), some (.int m), some (.int o), none, none, none, none, none, none, none, none, none] G
  unfold T__law_le_drawn
  refine dSeq_n fun N hN => ?_
  push_cast [↓dCall_h h1, ↓dCallK_h h1]
  refine ((Kp.refl hs).toB (Nat.le_refl k)).spd (by omega) (by omega) (by omega) fun a G1 a0 a1 kp _ => ?_
  try push_cast [↓dCall_h h1, ↓dCallK_h h1]
  refine kp.spd (by omega) (by omega) (by omega) fun b G2 b0 b1 kp _ => ?_
  try push_cast []
  refine hN _ _ ?_
  clear hN N
  refine dSeq_n fun N hN => ?_
  push_cast [↓dCall_h h1, ↓dCallK_h h1]
  refine kp.spd (by omega) (by omega) (by omega) fun l G3 l0 l1 kp _ => ?_
  try push_cast [↓dCall_h h1, ↓dCallK_h h1]
  refine kp.spd (by omega) (by omega) (by omega) fun t G4 t0 t1 kp _ => ?_
  try push_cast []
  refine hN _ _ ?_
  clear hN N
  refine dSeq_n fun N hN => ?_
  push_cast [↓dCall_h h1, ↓dCallK_h h1, ↓isBlt_h h3, ↓isBlt_h h4]
  refine kp.spd (by omega) (by omega) (by omega) fun c G5 c0 c1 kp5 _ => ?_
  try push_cast []
  refine ⟨by omega, size_le (by rw [rangeD_len]; omega), dLcL_iy (fun ys r G1 => (∃ ns : List Int, ys = (ns.map fun n => D.tup [.str "name", .int n])) ∧ ys.length + r.length = c.toNat ∧ KpB G s (k + 5 + ys.length) G1) (fun _ _ _ _ => trivial) _ (fun d r ys G6 hd hlt hI R hR => ?_) _ _ ⟨⟨[], rfl⟩, by rw [rangeD_len]; simp, kp5⟩ ?_⟩
  · obtain ⟨⟨ns, rfl⟩, hlen, kp⟩ := hI
    simp only [List.length_cons, List.length_map] at hlen kp
    push_cast [wipeD, ↓dCall_h h1, ↓dCallK_h h1]
    refine kp.spd (by omega) (by omega) (by omega) fun n G7 n0 n1 kp _ => ?_
    try push_cast []
    refine hR _ _ ⟨⟨ns ++ [n], by simp⟩, by simp; omega, ?_⟩
    simp only [List.length_append, List.length_map, List.length_cons, List.length_nil]
    exact kp
  clear kp5
  rintro zs G6 ⟨⟨ns, rfl⟩, hlen, kp⟩ p hp
  simp only [List.length_map, List.length_nil, Nat.add_zero] at hlen kp
  push_cast []
  refine ⟨_, seq_lst gup_same, hN _ _ ?_⟩
  clear hN N
  have kp := kp.new (o := .lst (ns.map fun n => D.tup [.str "name", .int n])) hp
  generalize gup G6 p (.lst (ns.map fun n => D.tup [.str "name", .int n])) = G7 at kp ⊢
  clear hp
  have kp : KpB G s (k + 8) G7 := kp.mono (by omega)
  refine dSeq_n fun N hN => ?_
  push_cast [↓dCall_h h2, ↓dCallK_h h2, ↓isBlt_h h3, ↓isBlt_h h4]
  refine fun p2 hp2 => ?_
  refine (kp.new hp2).pick (.inr ⟨p2, rfl, gup_same⟩) (by decide) (by decide) (by omega) fun e G8 he kp _ => ?_
  obtain ⟨i, rfl, i0, i1⟩ : ∃ i : Int, e = .int i ∧ 0 ≤ i ∧ i ≤ 1 := by
    simp only [List.mem_cons, List.not_mem_nil, or_false] at he
    rcases he with rfl | rfl | rfl | rfl <;> exact ⟨_, rfl, by decide, by decide⟩
  try push_cast []
  refine ⟨by omega, size_le (by rw [rangeD_len]; omega), dLcL_iy (fun ys r G1 => (∃ ns : List Int, ys = ns.map D.int) ∧ ys.length + r.length = (m + i).toNat ∧ KpB G s (k + 9 + ys.length) G1) (fun _ _ _ _ => trivial) _ (fun d r ys G6 hd hlt hI R hR => ?_) _ _ ⟨⟨[], rfl⟩, by rw [rangeD_len]; simp, kp⟩ ?_⟩
  · obtain ⟨⟨ns, rfl⟩, hlen, kp⟩ := hI
    simp only [List.length_cons, List.length_map] at hlen kp
    push_cast [wipeD, ↓dCall_h h1, ↓dCallK_h h1]
    refine kp.spd (by omega) (by omega) (by omega) fun n G7 n0 n1 kp _ => ?_
    try push_cast []
    refine hR _ _ ⟨⟨ns ++ [n], by simp⟩, by simp; omega, ?_⟩
    simp only [List.length_append, List.length_map, List.length_cons, List.length_nil]
    exact kp
  clear kp
  rintro zs G9 ⟨⟨rs, rfl⟩, hrl, kp⟩ p3 hp3
  simp only [List.length_map, List.length_nil, Nat.add_zero] at hrl kp
  push_cast []
  refine ⟨_, seq_lst gup_same, hN _ _ ?_⟩
  clear hN N
  have kp := kp.new (o := .lst (rs.map D.int)) hp3
  generalize gup G9 p3 (.lst (rs.map D.int)) = G10 at kp ⊢
  clear hp3
  have kp : KpB G s (k + 16) G10 := kp.mono (by omega)
  have nl : ns.length ≤ 7 := by omega
  have rl : rs.length ≤ 7 := by omega
  refine dSeq_n fun N hN => ?_
  push_cast [↓dCall_h h1, ↓dCallK_h h1]
  refine kp.spd (by omega) (by omega) (by omega) fun wy G11 w0 w1 kp _ => hN _ _ ?_
  clear hN N
  refine dSeq_n fun N hN => ?_
  have body : ∀ (w : Str) (u v : Int) (es : List D), es.length ≤ 4 → (∀ e ∈ es, ∀ G, Wf G 7 2 e) → ∀ G, Wf G 7 3 (.tup (.str w :: .int u :: .int v :: es)) := fun w u v es hl he G => .tp (by simp only [List.length_cons]; omega) fun e h => by
    rcases List.mem_cons.mp h with rfl | h
    · exact .fl rfl
    rcases List.mem_cons.mp h with rfl | h
    · exact .fl rfl
    rcases List.mem_cons.mp h with rfl | h
    · exact .fl rfl
    exact he e h G
  push_cast [↓isBlt_h h3, ↓isBlt_h h5]
  refine ⟨fun _ => ?_, fun _ => hN _ _ ?_⟩
  · refine .inr ⟨ns.map fun n => [(.inr "name" : Key), .inl n], [true], false, by rw [← kS_names]; rfl, fun ks hk => ?_, fun kss' p4 hpm _ hp4 => ?_⟩
    · obtain ⟨n, _, rfl⟩ := List.mem_map.mp hk
      rfl
    obtain ⟨ns', hp', rfl⟩ := perm_map_inv hpm ns rfl
    have nl' : ns'.length ≤ 7 := by rw [hp'.length_eq]; exact nl
    rw [← kS_names]
    push_cast []
    refine ⟨_, seq_lst gup_same, ?_⟩
    refine (kp.new hp4).fin (by omega) (q _ (lt_mk (body _ _ _ _ (by simp) fun e he G => ?_)))
    simp only [List.mem_cons, List.not_mem_nil, or_false] at he
    rcases he with rfl | rfl
    · exact row_lt rl
    · exact names_lt nl'
  clear hN N
  refine dSeq_n fun N hN => ?_
  push_cast []
  refine ⟨fun _ => ?_, fun _ => hN _ _ ?_⟩
  · refine kp.fin (by omega) (q _ (lt_mk (body _ _ _ _ (by simp) fun e he G => ?_)))
    simp only [List.mem_cons, List.not_mem_nil, or_false] at he
    subst he
    exact names_lt nl
  clear hN N
  refine dSeq_n fun N hN => ?_
  push_cast [↓dCall_h h1, ↓dCallK_h h1]
  refine ⟨fun _ => ?_, fun _ => hN _ _ ?_⟩
  · refine kp.spd (by omega) (by omega) (by omega) fun x G12 x0 x1 kp _ => ?_
    try push_cast []
    refine kp.fin (by omega) (q _ (lt_mk (body _ _ _ _ (by simp) fun e he G => ?_)))
    simp only [List.mem_cons, List.not_mem_nil, or_false] at he
    rcases he with rfl | rfl
    · exact names_lt nl
    · exact end_lt
  clear hN N
  push_cast [↓dCall_h h1, ↓dCallK_h h1]
  refine kp.spd (by omega) (by omega) (by omega) fun x G12 x0 x1 kp _ => ?_
  try push_cast []
  refine kp.fin (by omega) (q _ (lt_mk (body _ _ _ _ (by simp) fun e he G => ?_)))
  simp only [List.mem_cons, List.not_mem_nil, or_false] at he
  subst he
  exact end_lt
def sp_bent (lv : Nat) : DSp := fun ds G Q X => ∃ (s : Addr) (b n : Nat) (x : D), ds = [.ref s, x] ∧ G s = some (.abs b []) ∧ b + 4 * (lv + 1) < 1000000000 ∧ n ≤ 50 ∧ Wf G n lv x ∧ ∀ d G', KpB G s (b + 4 * (lv + 1)) G' → Wf G' (n + 2) (lv + 1) d → Q d G'
def sp_bents (N : Nat) : DSp := fun ds G Q X => ∃ lv, lv ≤ N ∧ sp_bent lv ds G Q X
theorem p_bent {f g : Addr} (h1 : Γ.g "_law_draw" = .fn f ["state", "size_here"] spDraw []) (h2 : Γ.g "_law_pick" = .fn g ["state", "several"] spPick []) (h3 : Γ.g "tuple" = .blt) (h4 : Γ.g "isinstance" = .blt) (h5 : Γ.g "len" = .blt) (h6 : Γ.g "list" = .blt)
    {lv : Nat} (hr : ∀ l, lv = l + 1 → ∃ b M, l ≤ M ∧ Γ.g "_law_le_bent" = .fn b ["state", "item"] (sp_bents M) []) {s : Addr} {b n : Nat} {x : D} (hs : G s = some (.abs b [])) (hb : b + 4 * (lv + 1) < 1000000000) (hn : n ≤ 50) (hx : Wf G n lv x)
    (q : ∀ d G', KpB G s (b + 4 * (lv + 1)) G' → Wf G' (n + 2) (lv + 1) d → DQ d G') :
    T__law_le_bent Γ K CS (dEnds (drawI T) K DQ DX) (startD N__law_le_bent [.ref s, x]) G := by
  show T__law_le_bent Γ K CS _ [some (.ref s), some x, none, none, none] G
  unfold T__law_le_bent
  have hk := hx.kn
  have back' : ∀ {d : D} {G' : GH}, DQ d G' → ∃ G'', RepTo (drawI T) K G' G'' ∧ DQ d G'' := fun h => ⟨_, RepTo.refl, h⟩
  have cp : CPow 10 18 := ⟨by decide, by decide, by decide⟩
  have kp0 := (Kp.refl hs).toB (Nat.le_refl b)
  -- the other values
  have odd : ∀ {c : Nat} {G1 : GH} {N : Ro → GH → Prop} {r2 r3 r4 : Option D}, c ≤ b + 3 → KpB G s c G1 →
      (dSeq (dAsg (dLst (dCons (dC .non) (dCons (dC (.int 5)) (dCons (dC (.bl true)) (dCons (dC (.int 0)) (dCons (dUn rNeg (dC (.int 1))) (dCons (dC (.str "name")) (dCons (dC (.str "ask")) (dCons (dC (.str "hand")) (dCons (dTup dNil) (dCons (dLst dNil) (dCons dDisp0 (dCons (dTup (dCons (dC (.str "name")) (dCons (dC (.int 2)) dNil))) (dCons (dTup (dCons (dC (.str "house")) (dCons (dC (.int 0)) dNil))) (dCons (dBin rPow (dC (.int 10)) (dC (.int 18))) dNil))))))))))))))) (dgName 2)) (dRet (dCall (Γ.g "_law_pick") (dCons (dVar 0) (dCons (dVar 2) dNil)))))
        { dEnds (drawI T) K DQ DX with nx := N } [some (.ref s), some x, r2, r3, r4] G1 := fun {c G1 N r2 r3 r4} hc kp => by
    refine dSeq_n fun N hN => ?_
    push_cast [dDisp0]
    refine fun p1 hp1 p2 hp2 => ⟨cp, ?_⟩
    try push_cast []
    refine fun p3 hp3 => hN _ _ ?_
    clear hN N
    have kp := ((kp.new (o := .lst []) hp1).new (o := .dct []) hp2)
    have F1 : gup (gup G1 p1 (.lst [])) p2 (.dct []) p1 = some (.lst []) := gup_old gup_same hp2
    have F2 : gup (gup G1 p1 (.lst [])) p2 (.dct []) p2 = some (.dct []) := gup_same
    have n1 : p1 ≠ s := fun e => by subst e; obtain ⟨j, _, k⟩ := kp; have := k.src; rw [F1] at this; cases this
    have n2 : p2 ≠ s := fun e => by subst e; obtain ⟨j, _, k⟩ := kp; have := k.src; rw [F2] at this; cases this
    generalize gup (gup G1 p1 (.lst [])) p2 (.dct []) = G2 at kp F1 F2 hp3 ⊢
    push_cast [↓dCall_h h2, ↓dCallK_h h2]
    have F1 := gup_old (o := .lst [.non, .int 5, .bl true, .int 0, .int (-1), .str "name", .str "ask", .str "hand", .tup [], .ref p1, .ref p2, .tup [.str "name", .int 2], .tup [.str "house", .int 0], .int 1000000000000000000]) F1 hp3
    have F2 := gup_old (o := .lst [.non, .int 5, .bl true, .int 0, .int (-1), .str "name", .str "ask", .str "hand", .tup [], .ref p1, .ref p2, .tup [.str "name", .int 2], .tup [.str "house", .int 0], .int 1000000000000000000]) F2 hp3
    refine (kp.new hp3).pick (.inr ⟨p3, rfl, gup_same⟩) (by simp) (by simp) (by omega) fun d G3 hd kp st => back' (q d G3 (kp.mono (by omega)) ?_)
    have F1 := st _ _ n1 F1
    have F2 := st _ _ n2 F2
    have pr : ∀ (w : Str) (i : Int), Wf G3 (n + 2) (lv + 1) (.tup [.str w, .int i]) := fun w i => .tp (by simp) fun e he => by
      simp only [List.mem_cons, List.not_mem_nil, or_false] at he
      rcases he with rfl | rfl <;> exact .fl rfl
    simp only [List.mem_cons, List.not_mem_nil, or_false] at hd
    rcases hd with rfl | rfl | rfl | rfl | rfl | rfl | rfl | rfl | rfl | rfl | rfl | rfl | rfl | rfl
    · exact .fl rfl
    · exact .fl rfl
    · exact .fl rfl
    · exact .fl rfl
    · exact .fl rfl
    · exact .fl rfl
    · exact .fl rfl
    · exact .fl rfl
    · exact .tp (by simp) fun e he => nomatch he
    · exact .rf (kd := .lst) (by simp only [kdOf, F1])
    · exact .rf (kd := .dct) (by simp only [kdOf, F2])
    · exact pr _ _
    · exact pr _ _
    · exact .fl rfl
  obtain ⟨k, e0⟩ := hk.kd
  generalize (dSeq (dAsg (dLst (dCons (dC .non) (dCons (dC (.int 5)) (dCons (dC (.bl true)) (dCons (dC (.int 0)) (dCons (dUn rNeg (dC (.int 1))) (dCons (dC (.str "name")) (dCons (dC (.str "ask")) (dCons (dC (.str "hand")) (dCons (dTup dNil) (dCons (dLst dNil) (dCons dDisp0 (dCons (dTup (dCons (dC (.str "name")) (dCons (dC (.int 2)) dNil))) (dCons (dTup (dCons (dC (.str "house")) (dCons (dC (.int 0)) dNil))) (dCons (dBin rPow (dC (.int 10)) (dC (.int 18))) dNil))))))))))))))) (dgName 2)) (dRet (dCall (Γ.g "_law_pick") (dCons (dVar 0) (dCons (dVar 2) dNil))))) = B at odd ⊢
  refine dSeq_n fun N hN => ?_
  rcases tup_or x with ⟨ds, rfl⟩ | hnt
  rotate_left
  · push_cast [↓isBlt_h h3, ↓isBlt_h h4, ↓isA_tuple e0, hnt]
    exact odd (by omega) kp0
  obtain ⟨l, rfl⟩ : ∃ l, lv = l + 1 := by
    cases lv with
    | zero => cases hx with | fl h => cases h
    | succ l => exact ⟨l, rfl⟩
  obtain ⟨fb, M, hM, hr⟩ := hr l rfl
  have hl := hx.len
  push_cast [↓isBlt_h h3, ↓isBlt_h h4]
  refine rEq_tn ?_
  cases ds with
  | nil =>
    push_cast [List.isEmpty_nil]
    exact odd (by omega) kp0
  | cons d0 ds =>
  push_cast [List.isEmpty_cons, ↓dCall_h h1, ↓dCallK_h h1]
  refine kp0.spd (by omega) (by omega) (by omega) fun a G1 a0 a1 kp _ => ?_
  try push_cast []
  refine ⟨fun _ => odd (by omega) kp, fun _ => hN _ _ ?_⟩
  clear hN N odd kp0
  generalize hes : d0 :: ds = es at hx hl ⊢
  have el : 0 < es.length := by rw [← hes]; simp
  clear hes e0
  refine dSeq_n fun N hN => ?_
  push_cast [↓dCall_h h1, ↓dCallK_h h1, ↓isBlt_h h5]
  refine kp.spd (by omega) (by omega) (by omega) fun i G2 i0 i1 kp2 _ => ?_
  try push_cast [↓dCall_h h1, ↓dCallK_h h1]
  refine kp2.spd (by omega) (by omega) (by omega) fun wy G3 w0 w1 kp3 _ => ?_
  try push_cast []
  refine hN _ _ ?_
  clear hN N
  have hx := hx.keep (Known.kpb kp3 ⟨_, hs⟩)
  clear kp kp2
  obtain ⟨i, rfl⟩ : ∃ j : Nat, i = j := ⟨i.toNat, by omega⟩
  have c1 : cutD es none (some ((i : Nat) : Int)) = es.take i := cut_to
  have c2 : cutD es (some ((i : Nat) + 1 : Int)) none = es.drop (i + 1) := by rw [show (i : Int) + 1 = ((i + 1 : Nat) : Int) by omega, cut_from]
  have ge : es[((i : Nat) : Int).toNat]? = some (es[i]'(by omega)) := by
    rw [show ((i : Nat) : Int).toNat = i by omega]
    exact List.getElem?_eq_getElem (by omega)
  have lt1 : (es.take i).length = i := by rw [List.length_take]; omega
  have lt2 : (es.drop (i + 1)).length = es.length - (i + 1) := List.length_drop
  have ix : ∀ {Q : DK}, rIx (.tup es) (.int (i : Nat)) G3 Q = Q (es[i]'(by omega)) G3 := rIx_t (at_int (by omega) ge)
  have wi : Wf G3 n l (es[i]'(by omega)) := hx.mem _ (List.getElem_mem _)
  obtain ⟨j3, hj3, k3⟩ := kp3
  refine dSeq_n fun N hN => ?_
  push_cast [c1, c2, ↓ix, ↓dCall_h hr, ↓dCallK_h hr]
  refine ⟨fun _ => ?_, fun _ => hN _ _ ?_⟩
  · refine ⟨l, hM, s, j3, n, _, rfl, k3.src, by omega, hn, wi, fun d G4 kp4 wd => ?_⟩
    have kn := Known.kpb kp4 ⟨_, k3.src⟩
    push_cast [↓rAdd_tt, c1, c2, List.length_append, lt1, lt2]
    refine ⟨size_le (by omega), size_le (by omega), back' (q _ _ ?_ (.tp ?_ fun e he => ?_))⟩
    · obtain ⟨j4, hj4, k4⟩ := kp4
      exact ⟨j4, by omega, k3.trans k4⟩
    · simp only [List.length_append, List.length_cons, List.length_nil, lt1, lt2]
      omega
    · simp only [List.mem_append, List.mem_cons, List.not_mem_nil, or_false] at he
      rcases he with (he | rfl) | he
      · exact ((hx.mem e (List.mem_of_mem_take he)).keep kn).mono (by omega) (by omega)
      · exact wd
      · exact ((hx.mem e (List.mem_of_mem_drop he)).keep kn).mono (by omega) (by omega)
  clear hN N
  have fin : ∀ (ds : List D), ds.length ≤ n + 2 → (∀ e ∈ ds, e ∈ es) → ∃ G'', RepTo (drawI T) K G3 G'' ∧ DQ (.tup ds) G'' := fun ds hl he => back' (q _ _ ⟨j3, by omega, k3⟩ (.tp hl fun e h => (hx.mem e (he e h)).mono (by omega) (by omega)))
  refine dSeq_n fun N hN => ?_
  push_cast [c1, c2, ↓rAdd_tt]
  refine ⟨fun _ => ⟨size_le (by omega), fin _ (by rw [List.length_append]; omega) fun e he => ?_⟩, fun _ => hN _ _ ?_⟩
  · rcases List.mem_append.mp he with he | he
    · exact List.mem_of_mem_take he
    · exact List.mem_of_mem_drop he
  clear hN N
  have c3 : cutD es (some ((i : Nat) : Int)) none = es.drop i := cut_from
  have lt3 : (es.drop i).length = es.length - i := List.length_drop
  have c4 : ∃ ds, cutD es (some ((i : Nat) : Int)) (some ((i : Nat) + 1 : Int)) = ds ∧ ds.length ≤ 1 ∧ ∀ e ∈ ds, e ∈ es := by
    refine ⟨_, rfl, ?_, fun e he => ?_⟩
    · rw [show ((i : Nat) : Int) + 1 = ((i + 1 : Nat) : Int) by omega]
      unfold cutD
      rw [HT.sIx_nat, HT.sIx_nat, List.length_take]
      omega
    · unfold cutD at he
      exact List.mem_of_mem_drop (List.mem_of_mem_take he)
  obtain ⟨ds, c4, l4, m4⟩ := c4
  push_cast [c1, c3, c4, ↓rAdd_tt, ↓isBlt_h h6, List.length_append]
  refine ⟨fun _ => ⟨size_le (by omega), size_le (by omega), fin _ (by simp only [List.length_append]; omega) fun e he => ?_⟩, fun _ => ⟨es, rfl, fun p hp => back' (q _ _ ⟨j3, by omega, k3.new hp⟩ (.rf (kd := .lst) (by simp only [kdOf, gup_same])))⟩⟩
  simp only [List.mem_append] at he
  rcases he with (he | he) | he
  · exact List.mem_of_mem_take he
  · exact m4 e he
  · exact List.mem_of_mem_drop he
end
end Dl

namespace Dl
open PySem PySem.Spec PyProof.Rows L2
local macro_rules
  | `(tactic| push_cast [$xs,*]) => `(tactic| simp only [↓dSeq_e, ↓dDrop_e, ↓dRet_e, ↓dRetN_e, ↓dIfS_e, ↓dgName_e, ↓dgNil_nil, ↓dgCons_cons, ↓dgTup_tup, ↓dAsg_e, ↓dPar_e, ↓dPar3_e, ↓dgSub_e, ↓dFor_e, ↓dVar_0, ↓dVar_s, ↓dC_e, ↓dBin_e, ↓dUn_e, ↓dChain_i, ↓chN_bl, ↓rt_cond, c_and, c_or, c_nand, c_self, c_self2, Int.cast_ofNat_Int, Int.reduceEq, Int.reduceLT, Int.reduceLE, Int.reduceAdd, Int.reduceSub, Int.reduceMul, Int.reduceNeg, Int.reduceNe, decide_true, decide_false, eq_self, ↓rTru_bl, ↓rTru_int, ↓rTru_non, ↓rTru_tup, ↓dTru_e, ↓dTAnd_e, ↓dTOr_e, ↓dTNot_e, ↓dAnd_e, ↓dOr_e, ↓dNot_e, ↓dIf_e, ↓dNil_e, ↓dCons_e, ↓dTup_e, ↓dLst_e, ↓dBc_e, ↓dBty_e, ↓dBi_e, ↓dGlob_con, ↓dGlob_fn, ↓dGlob_cls, ↓dGlob_exc, ↓dRaise_exc, ↓dCall_fn, ↓dCall_cls, ↓dCallK_fn, ↓dNoPart_e, ↓dPart_i, ↓pPart_int, ↓dSlice_e, ↓rSl_tup, ↓dISeq_i, ↓dIRng1_i, ↓dIRng2_i, ↓dIZip_i, ↓dIEnum_i, ↓dFld_i, ↓dFldSet_i, ↓dMeth_i, ↓dMethK_i, ↓iSeq_tup, ↓iR1_int, ↓iR2_int, ↓iZp_tup, ↓dLM_e, ↓dNext_e, ↓dBreak_e, ↓dCont_e, ↓dDisp_e, ↓dPairs_n, ↓dPairs_c, ↓dYes_e, ↓dLc_e, ↓arg0_nil, ↓arg1_one, ↓arg2_two, ↓arg3_three, ↓isBlt_b, startD, ↓dIte_t, ↓dIte_f, ↓rAdd_ii, ↓rSub_ii, ↓rMul_ii, ↓rFdiv_ii, ↓rMod_ii, ↓rPow_ii, ↓rIAdd_ii, ↓rISub_ii, ↓rNeg_i, ↓rLt_ii, ↓rLe_ii, ↓rGt_ii, ↓rGe_ii, ↓rEq_ii, ↓rEq_ss, ↓rEq_bb, ↓rNe_ii, ↓rNe_ss, ↓rInt_i, ↓rAbs_i, ↓rLen_t, ↓rIxt0, ↓rIxt1, ↓rIxt2, ↓rIxt3, ↓rIxt4, ↓rIxt5, ↓rIxt6, ↓rIxt7, ↓isi_non_int, ↓isi_non_bool, ↓isi_non_str, ↓isi_non_list, ↓isi_non_tuple, ↓isi_non_dict, ↓isi_bl_int, ↓isi_bl_bool, ↓isi_bl_str, ↓isi_bl_list, ↓isi_bl_tuple, ↓isi_bl_dict, ↓isi_int_int, ↓isi_int_bool, ↓isi_int_str, ↓isi_int_list, ↓isi_int_tuple, ↓isi_int_dict, ↓isi_str_int, ↓isi_str_bool, ↓isi_str_str, ↓isi_str_list, ↓isi_str_tuple, ↓isi_str_dict, ↓isi_tup_int, ↓isi_tup_bool, ↓isi_tup_str, ↓isi_tup_list, ↓isi_tup_tuple, ↓isi_tup_dict, List.map_cons, List.map_nil, List.length_cons, List.length_nil, List.cons_append, List.nil_append, List.getElem?_cons_zero, List.getElem?_cons_succ, List.set_cons_zero, List.set_cons_succ, List.replicate_succ, List.replicate_zero, Int.reduceToNat, Nat.reduceSub, Nat.reduceAdd, true_and, and_true, Bool.not_true, Bool.not_false, Bool.true_and, Bool.and_true, Bool.false_and, Bool.and_false, Bool.false_or, Bool.or_false, Bool.true_or, Bool.or_true, Bool.not_not, ↓dLc2_e, ↓dLRg1_e, ↓dRev_e, ↓dLenSet_e, ↓rSorted_e, ↓dSrtSet_e, ↓iEn_tup, ↓rMul_ii, ↓rMul_ti, size_lit, str_inj, String.reduceEq, Nat.reduceLeDiff, Nat.reducePow, Int.reducePow, $xs,*])
section
variable {K : PySem.W.Frag} {Γ : GEnv} {CS : Addr} {G : GH} {DQ : DK} {DX : DE → GH → Prop} {T : List (Addr × Str)}
structure Gm25 (Γ : GEnv) (K : PySem.W.Frag) (CS : Addr) where
  {f1 f2 f3 f4 f5 f6 f7 f8 C : Addr}
  begun : Γ.g "_law_begun" = .fn f1 ["script"] spBegun []
  draw : Γ.g "_law_draw" = .fn f2 ["state", "size_here"] spDraw []
  pick : Γ.g "_law_pick" = .fn f3 ["state", "several"] spPick []
  drawn : Γ.g "_law_le_drawn" = .fn f4 ["state", "hands", "houses"] sp_drawn []
  bent : Γ.g "_law_le_bent" = .fn f5 ["state", "item"] (sp_bents 5) []
  truth : Γ.g "_law_is_truth" = .fn f6 ["found", "due"] sp_truth []
  letter : Γ.g "is_letter" = .fn f7 ["store", "value"] (sp_isLetter C) [(0, ["store", "value"])]
  leLetter : Γ.g "_law_le_letter" = .fn f8 ["item", "hands", "houses"] sp_leLetter []
  bad : Γ.g "BadStore" = .exc C
  eb : EK K CS C
  range_ : Γ.g "range" = .blt
  len_ : Γ.g "len" = .blt
  min_ : Γ.g "min" = .blt
  isi : Γ.g "isinstance" = .blt
theorem rIsT_bb {a b : Bool} {G : GH} {Q : DK} : rIs true (.bl a) (.bl b) G Q = Q (.bl (!decide (a = b))) G := rfl
theorem storeV_ok {a b c : Int} (ha : 1 ≤ a ∧ a ≤ 6) (hb : 3 * c + 1 ≤ b ∧ b ≤ 13) (hc : 0 ≤ c) : storeV (.tup [.int a, .int b, .int c]) = true := by
  simp only [storeV, List.all_cons, List.all_nil, numB, Bool.and_true, Bool.and_eq_true, decide_eq_true_eq]
  omega
theorem storeV_no {a b c : Int} (h : b < 3 * c + 1) : storeV (.tup [.int a, .int b, .int c]) = false := by
  simp only [storeV]
  rw [decide_eq_false (show ¬ (3 * c + 1 ≤ b) by omega)]
  simp
theorem KnA.ofWf {G : GH} {n k : Nat} {x : D} (h : Wf G n k x) : KnA G x := h.kn
theorem p_law (g : Gm25 Γ K CS) {sc : Addr} {ns : List Int} {mo : MO} (h1 : G sc = some mo) (hmo : mo = .lst (ns.map D.int) ∨ mo = .fro (ns.map D.int)) (h2 : ns.length ≤ 63) (hend : ∀ G', DQ (.bl true) G') : T_law Γ K CS (dEnds (drawI T) K DQ DX) (startD N_law [.ref sc]) G := by
  show T_law Γ K CS _ [some (.ref sc), none, none, none, none, none, none, none, none, none, none] G
  unfold T_law
  refine dSeq_n fun N hN => ?_
  push_cast [↓dCall_h g.begun, ↓dCallK_h g.begun]
  refine ⟨ns, lst_mo h1 hmo, by omega, fun s hs => hN _ _ ?_⟩
  clear hN N
  have nsc : sc ≠ s := fun e => by rw [e, hs] at h1; cases h1
  have hmo' : gup G s (.abs 0 []) sc = some mo := by rw [gup_ne nsc]; exact h1
  have kp := (Kp.refl (G := gup G s (.abs 0 [])) (s := s) (k := 0) gup_same).toB (Nat.le_refl 0)
  generalize gup G s (.abs 0 []) = G0 at kp hmo' ⊢
  refine dSeq_j (fun ρ' G' => ∃ x2 x3 x4 x5 x6 x7 x8 x9 x10 : Option D, ρ' = [some (.ref sc), some (.ref s), x2, x3, x4, x5, x6, x7, x8, x9, x10]) (fun N hN => ?_) ?_
  rotate_left
  · rintro ρ G2 ⟨x2, x3, x4, x5, x6, x7, x8, x9, x10, rfl⟩
    push_cast []
    exact back (hend _)
  have ll : lstOf G0 (.ref sc) = some (ns.map D.int) := lst_mo hmo' hmo
  have hL5 : ∀ L : Int, (if (5 : Int) < (ns.length : Int) then (5 : Int) else (ns.length : Int)) = L → 0 ≤ L ∧ L ≤ 5 := fun L e => by
    rw [← e]
    split <;> omega
  push_cast [↓isBlt_h g.range_, ↓isBlt_h g.min_, ↓isBlt_h g.len_, ↓rLen_l ll, List.length_map, ↓rMin_ii]
  generalize (if (5 : Int) < (ns.length : Int) then (5 : Int) else (ns.length : Int)) = L at hL5 ⊢
  obtain ⟨L0, L5⟩ := hL5 L rfl
  refine ⟨by omega, ?_⟩
  refine dLoop_rng (fun j ρ' G' => (∃ x2 x3 x4 x5 x6 x7 x8 x9 x10 : Option D, ρ' = [some (.ref sc), some (.ref s), x2, x3, x4, x5, x6, x7, x8, x9, x10]) ∧ KpB G0 s (200 * j) G') _ (fun _ => trivial) ?_ ?_ _ _ ⟨⟨_, _, _, _, _, _, _, _, _, rfl⟩, kp⟩
  rotate_left
  · rintro ρ G2 ⟨⟨x2, x3, x4, x5, x6, x7, x8, x9, x10, rfl⟩, kp⟩
    exact hN _ _ ⟨_, _, _, _, _, _, _, _, _, rfl⟩
  clear kp hL5
  rintro j hj J hJ ρ G1 ⟨⟨x2, x3, x4, x5, x6, x7, x8, x9, x10, rfl⟩, kp⟩
  have hj' : j < 8 := by omega
  simp only [dgName_e, List.set_cons_succ, List.set_cons_zero, Int.zero_add]
  refine dSeq_n fun N hN => ?_
  push_cast [↓dCall_h g.draw, ↓dCallK_h g.draw]
  refine kp.spd (by omega) (by omega) (by omega) fun h G2 h0 h1' kp _ => ?_
  try push_cast [↓dCall_h g.draw, ↓dCallK_h g.draw]
  refine kp.spd (by omega) (by omega) (by omega) fun l G3 l0 l1 kp _ => ?_
  try push_cast []
  refine hN _ _ ?_
  clear hN N
  refine dSeq_n fun N hN => ?_
  push_cast [↓dCall_h g.draw, ↓dCallK_h g.draw, imul_t (i := 3) (j := l) (by decide) (by decide)]
  refine kp.spd (by omega) (by omega) (by omega) fun o' G4 o0 o1 kp _ => ?_
  try push_cast []
  refine hN _ _ ?_
  clear hN N
  obtain ⟨o, eo⟩ : ∃ o, 3 * l + 1 + o' = o := ⟨_, rfl⟩
  rw [eo]
  obtain ⟨m, em⟩ : ∃ m, 1 + h = m := ⟨_, rfl⟩
  rw [em]
  have st : storeV (.tup [.int m, .int o, .int l]) = true := storeV_ok (by omega) (by omega) l0
  refine dSeq_n fun N hN => ?_
  push_cast [↓dCall_h g.drawn, ↓dCallK_h g.drawn]
  obtain ⟨b, hb, k1⟩ := kp
  refine ⟨s, b, _, _, rfl, k1.src, by omega, by omega, by omega, fun d hd => hN _ _ ?_⟩
  clear hN N
  have kp := (k1.draw (j := b + 30)).toB (b := 200 * j + 33) (by omega)
  generalize gup G4 s (.abs (b + 30) []) = G5 at kp ⊢
  clear k1
  obtain ⟨y0, y1, y2, rfl⟩ := hd.ex
  refine dSeq_n fun N hN => ?_
  push_cast [↓dCall_h g.bent, ↓dCallK_h g.bent]
  obtain ⟨b1, hb1, k1⟩ := kp
  refine ⟨4, by decide, s, b1, 7, _, rfl, k1.src, by omega, by omega, hd.wf _, fun d1 G6 kp6 w1 => hN _ _ ?_⟩
  clear hN N
  obtain ⟨b6, hb6, k6⟩ := kp6
  refine dSeq_n fun N hN => ?_
  push_cast [↓dCall_h g.bent, ↓dCallK_h g.bent]
  refine ⟨4, by decide, s, b6, 7, _, rfl, k6.src, by omega, by omega, hd.wf _, fun d2 G7 kp7 w2 => ?_⟩
  obtain ⟨b7, hb7, k7⟩ := kp7
  try push_cast [↓dCall_h g.bent, ↓dCallK_h g.bent]
  have kn7 := Known.kp k7 ⟨_, k6.src⟩
  refine ⟨5, by decide, s, b7, 9, _, rfl, k7.src, by omega, by omega, w1.keep kn7, fun d3 G8 kp8 w3 => ?_⟩
  obtain ⟨b8, hb8, k8⟩ := kp8
  have kn8 := Known.kp k8 ⟨_, k7.src⟩
  try push_cast []
  refine fun p hp => hN _ _ ?_
  clear hN N
  have W1 : Wf G8 11 6 d1 := ((w1.keep kn7).keep kn8).mono (by decide) (by decide)
  have W2 : Wf G8 11 6 d2 := (w2.keep kn8).mono (by decide) (by decide)
  have W3 : Wf G8 11 6 d3 := w3
  have W0 : Wf G8 11 6 (.tup [y0, y1, y2]) := (hd.wf G8).mono (by decide) (by decide)
  have W4 : Wf G8 11 6 (.tup [y1, y0, y2]) := by
    have hh := hd.wf G8
    
    refine (Wf.tp (k := 3) (by simp) fun e he => ?_ : Wf G8 7 4 (.tup [y1, y0, y2])).mono (by decide) (by decide)
    refine hh.mem e ?_
    simp only [List.mem_cons, List.not_mem_nil, or_false] at he ⊢
    rcases he with rfl | rfl | rfl <;> simp
  have kp : KpB G0 s (200 * j + 33 + 70) G8 := ⟨b8, by omega, (k1.trans (k6.trans (k7.trans k8)))⟩
  clear k1 k6 k7 k8 w1 w2 w3 kn7 kn8
  have kp := kp.new (o := .lst [.tup [y0, y1, y2], d1, d2, d3]) hp
  have kn := Known.new (o := .lst [.tup [y0, y1, y2], d1, d2, d3]) hp
  have Fp : gup G8 p (.lst [.tup [y0, y1, y2], d1, d2, d3]) p = some (.lst [.tup [y0, y1, y2], d1, d2, d3]) := gup_same
  have W0 := W0.keep kn
  have W1 := W1.keep kn
  have W2 := W2.keep kn
  have W3 := W3.keep kn
  have W4 := W4.keep kn
  generalize gup G8 p (.lst [.tup [y0, y1, y2], d1, d2, d3]) = G9 at kp Fp W0 W1 W2 W3 W4 ⊢
  clear kn hp
  refine dSeq_j (fun ρ' G' => ∃ x2 x7 x8 x10 : Option D, ρ' = [some (.ref sc), some (.ref s), x2, some (.int m), some (.int l), some (.int o), some d1, x7, x8, some (.tup [y0, y1, y2]), x10] ∧ KpB G0 s (200 * j + 103) G' ∧ Wf G' 11 6 (.tup [y0, y1, y2])) (fun N hN => ?_) ?_
  · push_cast []
    refine fun p2 hp2 => ⟨_, _, gup_old Fp hp2, gup_same, size_le (by simp), fun p3 hp3 => ?_⟩
    have kp := (kp.new (o := .lst [.tup [y1, y0, y2]]) hp2).new (o := .lst ([.tup [y0, y1, y2], d1, d2, d3] ++ [.tup [y1, y0, y2]])) hp3
    have kn := (Known.new (o := .lst [.tup [y1, y0, y2]]) hp2).trans (Known.new (o := .lst ([.tup [y0, y1, y2], d1, d2, d3] ++ [.tup [y1, y0, y2]])) hp3)
    have F3 : gup (gup G9 p2 (.lst [.tup [y1, y0, y2]])) p3 (.lst ([.tup [y0, y1, y2], d1, d2, d3] ++ [.tup [y1, y0, y2]])) p3 = some (.lst ([.tup [y0, y1, y2], d1, d2, d3] ++ [.tup [y1, y0, y2]])) := gup_same
    have W0 := W0.keep kn
    have W1 := W1.keep kn
    have W2 := W2.keep kn
    have W3 := W3.keep kn
    have W4 := W4.keep kn
    generalize gup (gup G9 p2 (.lst [.tup [y1, y0, y2]])) p3 (.lst ([.tup [y0, y1, y2], d1, d2, d3] ++ [.tup [y1, y0, y2]])) = G10 at kp F3 W0 W1 W2 W3 W4 ⊢
    show iSeq (.ref p3) G10 _
    rw [iSeq_lst (lst_of F3)]
    refine dLoop_ix (fun r ρ' G' => G' = G10 ∧ (∀ e ∈ r, Wf G10 11 6 e) ∧ ∃ x8 : Option D, ρ' = [some (.ref sc), some (.ref s), some (.int (j : Nat)), some (.int m), some (.int l), some (.int o), some d1, some (.ref p), x8, some (.tup [y0, y1, y2]), x10]) _ (fun r ρ' G' hI => by rw [hI.1]; exact lst_of F3) ?_ ?_ _ _ ⟨rfl, fun e he => ?_, _, rfl⟩
    · rintro e r he hr J2 hJ2 ρ G' ⟨rfl, hw, x8, rfl⟩
      have we := hw e List.mem_cons_self
      simp only [dgName_e, List.set_cons_succ, List.set_cons_zero]
      push_cast [↓dCall_h g.truth, ↓dCallK_h g.truth, ↓dCall_h g.letter, ↓dCallK_h g.letter, ↓dCall_h g.leLetter, ↓dCallK_h g.leLetter]
      refine ⟨_, _, rfl, KnA.ints [m, o, l], we.kn, we.sz.mono (by decide), fun a b c e1 _ => ?_, fun e1 => ?_⟩
      · simp only [D.tup.injEq, List.cons.injEq, D.int.injEq, and_true] at e1
        obtain ⟨rfl, rfl, rfl⟩ := e1
        refine ⟨_, _, _, rfl, we.kn, we.sz.mono (by decide), ⟨_, _, rfl, ?_⟩⟩
        cases letterV m o e <;> (
          push_cast [cond_true, cond_false, Bool.not_false]
          exact hJ2 _ _ ⟨rfl, fun e' he' => hw e' (List.mem_cons_of_mem _ he'), _, rfl⟩)
      · rw [st] at e1
        cases e1
    · rintro ρ G' ⟨rfl, _, x8, rfl⟩
      exact hN _ _ ⟨_, _, _, _, rfl, kp, W0⟩
    · simp only [List.cons_append, List.nil_append, List.mem_cons, List.not_mem_nil, or_false] at he
      rcases he with rfl | rfl | rfl | rfl | rfl
      · exact W0
      · exact W1
      · exact W2
      · exact W3
      · exact W4
  clear W1 W2 W3 W4 Fp kp W0
  rintro ρ G10 ⟨x2, x7, x8, x10, rfl, kp, W0⟩
  refine dSeq_n fun N hN => ?_
  push_cast [↓dCall_h g.letter, ↓dCallK_h g.letter]
  refine ⟨List.mem_singleton.mpr rfl, ⟨by kernel_rfl, ?_⟩⟩
  show sp_isLetter g.C [.tup [.int m, .int o, .int l], .non] _ _ _
  refine ⟨_, _, rfl, KnA.ints [m, o, l], .sc rfl, .o rfl, fun a b c e1 _ => ?_, fun e1 => ?_⟩
  rotate_left
  · rw [st] at e1
    cases e1
  rw [show letterV a b .non = false from rfl]
  push_cast [↓rIsT_bb]
  refine hN _ _ ?_
  clear hN N e1 a b c
  refine dSeq_n fun N hN => ?_
  push_cast [imul_t (i := 3) (j := l) (by decide) (by decide)]
  refine fun p1 hp1 p2 hp2 => hN _ _ ?_
  clear hN N
  have F1 : gup G10 p1 (.lst [.int 2, .int 4, .int 1]) p1 = some (.lst [.int 2, .int 4, .int 1]) := gup_same
  have F1 := gup_old (o := .lst [.non, .tup [.int m, .int (3 * l), .int l], .tup [.int 0, .int 4, .int 1], .tup [.int 7, .int 4, .int 1], .tup [.int 2, .int 14, .int 1], .ref p1, .tup [.int 2, .int 4], .tup [.int 2, .int 4, .bl true]]) F1 hp2
  have F2 : gup (gup G10 p1 (.lst [.int 2, .int 4, .int 1])) p2 (.lst [.non, .tup [.int m, .int (3 * l), .int l], .tup [.int 0, .int 4, .int 1], .tup [.int 7, .int 4, .int 1], .tup [.int 2, .int 14, .int 1], .ref p1, .tup [.int 2, .int 4], .tup [.int 2, .int 4, .bl true]]) p2 = some (.lst [.non, .tup [.int m, .int (3 * l), .int l], .tup [.int 0, .int 4, .int 1], .tup [.int 7, .int 4, .int 1], .tup [.int 2, .int 14, .int 1], .ref p1, .tup [.int 2, .int 4], .tup [.int 2, .int 4, .bl true]]) := gup_same
  have kp := (kp.new (o := .lst [.int 2, .int 4, .int 1]) hp1).new (o := .lst [.non, .tup [.int m, .int (3 * l), .int l], .tup [.int 0, .int 4, .int 1], .tup [.int 7, .int 4, .int 1], .tup [.int 2, .int 14, .int 1], .ref p1, .tup [.int 2, .int 4], .tup [.int 2, .int 4, .bl true]]) hp2
  have W0 := (W0.keep (Known.new (o := .lst [.int 2, .int 4, .int 1]) hp1)).keep (Known.new (o := .lst [.non, .tup [.int m, .int (3 * l), .int l], .tup [.int 0, .int 4, .int 1], .tup [.int 7, .int 4, .int 1], .tup [.int 2, .int 14, .int 1], .ref p1, .tup [.int 2, .int 4], .tup [.int 2, .int 4, .bl true]]) hp2)
  generalize gup (gup G10 p1 _) p2 _ = G11 at F1 F2 kp W0 ⊢
  clear hp1 hp2
  have n1 : p1 ≠ s := fun e => by subst e; obtain ⟨j, _, k⟩ := kp; have := k.src; rw [F1] at this; cases this
  refine dSeq_n fun N hN => ?_
  push_cast [↓dCall_h g.pick, ↓dCallK_h g.pick]
  refine fun p3 hp3 => ⟨_, _, gup_old F2 hp3, gup_same, size_le (by simp), fun p4 hp4 => ?_⟩
  have kp := (kp.new (o := .lst [.tup [.int 2, .int 4, .int (-1)]]) hp3)
  have F1 := gup_old (o := .lst [.tup [.int 2, .int 4, .int (-1)]]) F1 hp3
  have W0 := W0.keep (Known.new (o := .lst [.tup [.int 2, .int 4, .int (-1)]]) hp3)
  generalize gup G11 p3 _ = G12 at F1 kp W0 hp4 ⊢
  have kn := Known.new (o := .lst ([.non, .tup [.int m, .int (3 * l), .int l], .tup [.int 0, .int 4, .int 1], .tup [.int 7, .int 4, .int 1], .tup [.int 2, .int 14, .int 1], .ref p1, .tup [.int 2, .int 4], .tup [.int 2, .int 4, .bl true]] ++ [.tup [.int 2, .int 4, .int (-1)]])) hp4
  have F1 := gup_old (o := .lst ([.non, .tup [.int m, .int (3 * l), .int l], .tup [.int 0, .int 4, .int 1], .tup [.int 7, .int 4, .int 1], .tup [.int 2, .int 14, .int 1], .ref p1, .tup [.int 2, .int 4], .tup [.int 2, .int 4, .bl true]] ++ [.tup [.int 2, .int 4, .int (-1)]])) F1 hp4
  have W0 := W0.keep kn
  have kp := kp.new (o := .lst ([.non, .tup [.int m, .int (3 * l), .int l], .tup [.int 0, .int 4, .int 1], .tup [.int 7, .int 4, .int 1], .tup [.int 2, .int 14, .int 1], .ref p1, .tup [.int 2, .int 4], .tup [.int 2, .int 4, .bl true]] ++ [.tup [.int 2, .int 4, .int (-1)]])) hp4
  have sr := kp.src
  refine kp.pick (.inr ⟨p4, rfl, gup_same⟩) (by simp) (by simp) (by omega) fun w G13 hw kp st2 => ?_
  have F1 := st2 _ _ n1 F1
  obtain ⟨j0, _, sr⟩ := sr
  have W0 : Wf G13 11 6 (.tup [y0, y1, y2]) := W0.keep fun a k e => by
    obtain ⟨u, qu, _⟩ := kd_some (G' := G13) e
    have na : a ≠ s := fun z => by
      subst z
      simp only [kdOf, sr] at e
      cases e
    rw [kd_at_eq (G := gup G12 p4 _) (by rw [qu]; exact st2 a u na qu)]
    exact e
  refine hN _ _ ?_
  clear hN N
  have hk : KnA G13 w ∧ storeV w = false := by
    simp only [List.cons_append, List.nil_append, List.mem_cons, List.not_mem_nil, or_false] at hw
    rcases hw with rfl | rfl | rfl | rfl | rfl | rfl | rfl | rfl | rfl
    · exact ⟨.sc rfl, rfl⟩
    · exact ⟨KnA.ints [m, 3 * l, l], storeV_no (by omega)⟩
    · exact ⟨KnA.ints [0, 4, 1], by decide⟩
    · exact ⟨KnA.ints [7, 4, 1], by decide⟩
    · exact ⟨KnA.ints [2, 14, 1], by decide⟩
    · exact ⟨.rf (k := .lst) (by simp only [kdOf, F1]), rfl⟩
    · exact ⟨KnA.ints [2, 4], rfl⟩
    · exact ⟨.tp fun e he => by
        simp only [List.mem_cons, List.not_mem_nil, or_false] at he
        rcases he with rfl | rfl | rfl <;> exact .sc rfl, rfl⟩
    · exact ⟨KnA.ints [2, 4, -1], by decide⟩
  push_cast [↓isBlt_h g.isi, ↓dCaught, ↓dCall_h g.letter, ↓dCallK_h g.letter]
  refine ⟨_, _, rfl, hk.1, W0.kn, W0.sz.mono (by decide), fun a b c _ e => ?_, fun _ => ⟨g.eb.m, rfl, fun p5 hp5 => ?_⟩⟩
  · rw [hk.2] at e
    cases e
  push_cast [↓dGlob_e g.bad, ↓dRaise_h g.bad]
  refine isi_exc g.eb gup_same ?_
  push_cast []
  exact hJ _ _ ⟨⟨_, _, _, _, _, _, _, _, _, rfl⟩, (kp.new hp5).mono (by omega)⟩
end
end Dl

namespace Dl
open PySem PySem.Spec PyProof.Rows L2
def dd_is_number : He.DefD := ⟨("is_number", none), "is_number", "is_number", defArgs s_is_number, defBody s_is_number, defScope s_is_number, [], []⟩
def dd_is_store : He.DefD := ⟨("is_store", none), "is_store", "is_store", defArgs s_is_store, defBody s_is_store, defScope s_is_store, [], []⟩
def dd_need_store : He.DefD := ⟨("need_store", none), "need_store", "need_store", defArgs s_need_store, defBody s_need_store, defScope s_need_store, [], []⟩
def dd_is_row : He.DefD := ⟨("is_row", none), "is_row", "is_row", defArgs s_is_row, defBody s_is_row, defScope s_is_row, [], []⟩
def dd_has_name_form : He.DefD := ⟨("has_name_form", none), "has_name_form", "has_name_form", defArgs s_has_name_form, defBody s_has_name_form, defScope s_has_name_form, [], []⟩
def dd_are_rising : He.DefD := ⟨("are_rising", none), "are_rising", "are_rising", defArgs s_are_rising, defBody s_are_rising, defScope s_are_rising, [], []⟩
def dd_are_names : He.DefD := ⟨("are_names", none), "are_names", "are_names", defArgs s_are_names, defBody s_are_names, defScope s_are_names, [], []⟩
def dd_is_end : He.DefD := ⟨("is_end", none), "is_end", "is_end", defArgs s_is_end, defBody s_is_end, defScope s_is_end, [], []⟩
def dd_is_round : He.DefD := ⟨("is_round", none), "is_round", "is_round", defArgs s_is_round, defBody s_is_round, defScope s_is_round, [], []⟩
def dd_is_hand_body : He.DefD := ⟨("is_hand_body", none), "is_hand_body", "is_hand_body", defArgs s_is_hand_body, defBody s_is_hand_body, defScope s_is_hand_body, [], []⟩
def dd_is_house_body : He.DefD := ⟨("is_house_body", none), "is_house_body", "is_house_body", defArgs s_is_house_body, defBody s_is_house_body, defScope s_is_house_body, [], []⟩
def dd_right_letter : He.DefD := ⟨("right_letter", none), "right_letter", "right_letter", defArgs s_right_letter, defBody s_right_letter, defScope s_right_letter, [], []⟩
def dd_is_letter : He.DefD := ⟨("is_letter", none), "is_letter", "is_letter", defArgs s_is_letter, defBody s_is_letter, defScope s_is_letter, [], []⟩
def dd__law_begun : He.DefD := ⟨("_law_begun", none), "_law_begun", "_law_begun", defArgs s__law_begun, defBody s__law_begun, defScope s__law_begun, [], []⟩
def dd__law_blended : He.DefD := ⟨("_law_blended", none), "_law_blended", "_law_blended", defArgs s__law_blended, defBody s__law_blended, defScope s__law_blended, [], []⟩
def dd__law_draw : He.DefD := ⟨("_law_draw", none), "_law_draw", "_law_draw", defArgs s__law_draw, defBody s__law_draw, defScope s__law_draw, [], []⟩
def dd__law_pick : He.DefD := ⟨("_law_pick", none), "_law_pick", "_law_pick", defArgs s__law_pick, defBody s__law_pick, defScope s__law_pick, [], []⟩
abbrev s__law_caught : Stmt := (top 26)
def dd__law_caught : He.DefD := ⟨("_law_caught", none), "_law_caught", "_law_caught", defArgs s__law_caught, defBody s__law_caught, defScope s__law_caught, [], []⟩
def dd__law_is_truth : He.DefD := ⟨("_law_is_truth", none), "_law_is_truth", "_law_is_truth", defArgs s__law_is_truth, defBody s__law_is_truth, defScope s__law_is_truth, [], []⟩
def dd__law_is_whole : He.DefD := ⟨("_law_is_whole", none), "_law_is_whole", "_law_is_whole", defArgs s__law_is_whole, defBody s__law_is_whole, defScope s__law_is_whole, [], []⟩
def dd__law_le_number : He.DefD := ⟨("_law_le_number", none), "_law_le_number", "_law_le_number", defArgs s__law_le_number, defBody s__law_le_number, defScope s__law_le_number, [], []⟩
def dd__law_le_name : He.DefD := ⟨("_law_le_name", none), "_law_le_name", "_law_le_name", defArgs s__law_le_name, defBody s__law_le_name, defScope s__law_le_name, [], []⟩
def dd__law_le_end : He.DefD := ⟨("_law_le_end", none), "_law_le_end", "_law_le_end", defArgs s__law_le_end, defBody s__law_le_end, defScope s__law_le_end, [], []⟩
def dd__law_le_names : He.DefD := ⟨("_law_le_names", none), "_law_le_names", "_law_le_names", defArgs s__law_le_names, defBody s__law_le_names, defScope s__law_le_names, [], []⟩
def dd__law_le_body : He.DefD := ⟨("_law_le_body", none), "_law_le_body", "_law_le_body", defArgs s__law_le_body, defBody s__law_le_body, defScope s__law_le_body, [], []⟩
def dd__law_le_letter : He.DefD := ⟨("_law_le_letter", none), "_law_le_letter", "_law_le_letter", defArgs s__law_le_letter, defBody s__law_le_letter, defScope s__law_le_letter, [], []⟩
def dd__law_le_drawn : He.DefD := ⟨("_law_le_drawn", none), "_law_le_drawn", "_law_le_drawn", defArgs s__law_le_drawn, defBody s__law_le_drawn, defScope s__law_le_drawn, [], []⟩
def dd__law_le_bent : He.DefD := ⟨("_law_le_bent", none), "_law_le_bent", "_law_le_bent", defArgs s__law_le_bent, defBody s__law_le_bent, defScope s__law_le_bent, [], []⟩
def dd_law : He.DefD := ⟨("law", none), "law", "law", defArgs s_law, defBody s_law, defScope s_law, [], []⟩
def fnL : List He.DefD := [dd_is_number, dd_is_store, dd_need_store, dd_is_row, dd_has_name_form, dd_are_rising, dd_are_names, dd_is_end, dd_is_round, dd_is_hand_body, dd_is_house_body, dd_right_letter, dd_is_letter, dd__law_begun, dd__law_blended, dd__law_draw, dd__law_pick, dd__law_caught, dd__law_is_truth, dd__law_is_whole, dd__law_le_number, dd__law_le_name, dd__law_le_end, dd__law_le_names, dd__law_le_body, dd__law_le_letter, dd__law_le_drawn, dd__law_le_bent, dd_law]
def faL : List He.Fa := [.free "abs", .free "all", .free "bool", .free "int", .free "isinstance", .free "len", .free "list", .free "min", .free "range", .free "set", .free "sorted", .free "str", .free "tuple", .free "zip", .int "MOST_NUMBER" (10 ^ 18), .int "MOST_HANDS" 6, .int "MOST_HOUSES" 13, .glo "BadStore", .exc "BadStore", .glo "is_number", .glo "is_store", .glo "need_store", .glo "is_row", .glo "has_name_form", .glo "are_rising", .glo "are_names", .glo "is_end", .glo "is_round", .glo "is_hand_body", .glo "is_house_body", .glo "right_letter", .glo "is_letter", .glo "_law_begun", .glo "_law_blended", .glo "_law_draw", .glo "_law_pick", .glo "_law_caught", .glo "_law_is_truth", .glo "_law_is_whole", .glo "_law_le_number", .glo "_law_le_name", .glo "_law_le_end", .glo "_law_le_names", .glo "_law_le_body", .glo "_law_le_letter", .glo "_law_le_drawn", .glo "_law_le_bent", .glo "law", .glo "SeenError", .exm "BadStore" "SeenError" true]
theorem bd_is_number : Bd0 dd_is_number ["value", "low"] [] 0 := by
  refine ⟨fun _ _ _ _ _ _ us hl => ?_, fun q hq => ?_⟩
  · match us, hl with
    | [_, _], _ => kernel_rfl
  · cases hq
theorem bd_is_store : Bd0 dd_is_store ["value"] [] 0 := by
  refine ⟨fun _ _ _ _ _ _ us hl => ?_, fun q hq => ?_⟩
  · match us, hl with
    | [_], _ => kernel_rfl
  · cases hq
theorem bd_need_store : Bd0 dd_need_store ["store"] [] 0 := by
  refine ⟨fun _ _ _ _ _ _ us hl => ?_, fun q hq => ?_⟩
  · match us, hl with
    | [_], _ => kernel_rfl
  · cases hq
theorem bd_is_row : Bd0 dd_is_row ["value", "hands"] [] 0 := by
  refine ⟨fun _ _ _ _ _ _ us hl => ?_, fun q hq => ?_⟩
  · match us, hl with
    | [_, _], _ => kernel_rfl
  · cases hq
theorem bd_has_name_form : Bd0 dd_has_name_form ["value"] [] 0 := by
  refine ⟨fun _ _ _ _ _ _ us hl => ?_, fun q hq => ?_⟩
  · match us, hl with
    | [_], _ => kernel_rfl
  · cases hq
theorem bd_are_rising : Bd0 dd_are_rising ["value"] [] 0 := by
  refine ⟨fun _ _ _ _ _ _ us hl => ?_, fun q hq => ?_⟩
  · match us, hl with
    | [_], _ => kernel_rfl
  · cases hq
theorem bd_are_names : Bd0 dd_are_names ["value"] [] 0 := by
  refine ⟨fun _ _ _ _ _ _ us hl => ?_, fun q hq => ?_⟩
  · match us, hl with
    | [_], _ => kernel_rfl
  · cases hq
theorem bd_is_end : Bd0 dd_is_end ["value", "word", "many"] [] 0 := by
  refine ⟨fun _ _ _ _ _ _ us hl => ?_, fun q hq => ?_⟩
  · match us, hl with
    | [_, _, _], _ => kernel_rfl
  · cases hq
theorem bd_is_round : Bd0 dd_is_round ["body", "many"] [] 0 := by
  refine ⟨fun _ _ _ _ _ _ us hl => ?_, fun q hq => ?_⟩
  · match us, hl with
    | [_, _], _ => kernel_rfl
  · cases hq
theorem bd_is_hand_body : Bd0 dd_is_hand_body ["store", "body"] [] 0 := by
  refine ⟨fun _ _ _ _ _ _ us hl => ?_, fun q hq => ?_⟩
  · match us, hl with
    | [_, _], _ => kernel_rfl
  · cases hq
theorem bd_is_house_body : Bd0 dd_is_house_body ["body"] [] 0 := by
  refine ⟨fun _ _ _ _ _ _ us hl => ?_, fun q hq => ?_⟩
  · match us, hl with
    | [_], _ => kernel_rfl
  · cases hq
theorem bd_right_letter : Bd0 dd_right_letter ["store", "value"] [] 0 := by
  refine ⟨fun _ _ _ _ _ _ us hl => ?_, fun q hq => ?_⟩
  · match us, hl with
    | [_, _], _ => kernel_rfl
  · cases hq
theorem bd_is_letter : Bd0 dd_is_letter ["store", "value"] [(0, ["store", "value"])] 0 := by
  refine ⟨fun _ _ _ _ _ _ us hl => ?_, fun q hq => ?_⟩
  · match us, hl with
    | [_, _], _ => kernel_rfl
  · simp only [List.mem_cons, List.not_mem_nil, or_false] at hq
    subst hq
    intro _ _ _ _ _ _ us ws hu hw
    match us, ws, hu, hw with
    | [], [_, _], _, _ => exact ⟨by kernel_rfl, by kernel_rfl⟩
theorem bd__law_begun : Bd0 dd__law_begun ["script"] [] 0 := by
  refine ⟨fun _ _ _ _ _ _ us hl => ?_, fun q hq => ?_⟩
  · match us, hl with
    | [_], _ => kernel_rfl
  · cases hq
theorem bd__law_blended : Bd0 dd__law_blended ["state"] [] 0 := by
  refine ⟨fun _ _ _ _ _ _ us hl => ?_, fun q hq => ?_⟩
  · match us, hl with
    | [_], _ => kernel_rfl
  · cases hq
theorem bd__law_draw : Bd0 dd__law_draw ["state", "size_here"] [] 0 := by
  refine ⟨fun _ _ _ _ _ _ us hl => ?_, fun q hq => ?_⟩
  · match us, hl with
    | [_, _], _ => kernel_rfl
  · cases hq
theorem bd__law_pick : Bd0 dd__law_pick ["state", "several"] [] 0 := by
  refine ⟨fun _ _ _ _ _ _ us hl => ?_, fun q hq => ?_⟩
  · match us, hl with
    | [_, _], _ => kernel_rfl
  · cases hq
theorem bd__law_is_truth : Bd0 dd__law_is_truth ["found", "due"] [] 0 := by
  refine ⟨fun _ _ _ _ _ _ us hl => ?_, fun q hq => ?_⟩
  · match us, hl with
    | [_, _], _ => kernel_rfl
  · cases hq
theorem bd__law_is_whole : Bd0 dd__law_is_whole ["item"] [] 0 := by
  refine ⟨fun _ _ _ _ _ _ us hl => ?_, fun q hq => ?_⟩
  · match us, hl with
    | [_], _ => kernel_rfl
  · cases hq
theorem bd__law_le_number : Bd0 dd__law_le_number ["item", "low"] [] 0 := by
  refine ⟨fun _ _ _ _ _ _ us hl => ?_, fun q hq => ?_⟩
  · match us, hl with
    | [_, _], _ => kernel_rfl
  · cases hq
theorem bd__law_le_name : Bd0 dd__law_le_name ["item"] [] 0 := by
  refine ⟨fun _ _ _ _ _ _ us hl => ?_, fun q hq => ?_⟩
  · match us, hl with
    | [_], _ => kernel_rfl
  · cases hq
theorem bd__law_le_end : Bd0 dd__law_le_end ["item", "word", "many"] [] 0 := by
  refine ⟨fun _ _ _ _ _ _ us hl => ?_, fun q hq => ?_⟩
  · match us, hl with
    | [_, _, _], _ => kernel_rfl
  · cases hq
theorem bd__law_le_names : Bd0 dd__law_le_names ["item"] [] 0 := by
  refine ⟨fun _ _ _ _ _ _ us hl => ?_, fun q hq => ?_⟩
  · match us, hl with
    | [_], _ => kernel_rfl
  · cases hq
theorem bd__law_le_body : Bd0 dd__law_le_body ["item", "hands", "is_hand"] [] 0 := by
  refine ⟨fun _ _ _ _ _ _ us hl => ?_, fun q hq => ?_⟩
  · match us, hl with
    | [_, _, _], _ => kernel_rfl
  · cases hq
theorem bd__law_le_letter : Bd0 dd__law_le_letter ["item", "hands", "houses"] [] 0 := by
  refine ⟨fun _ _ _ _ _ _ us hl => ?_, fun q hq => ?_⟩
  · match us, hl with
    | [_, _, _], _ => kernel_rfl
  · cases hq
theorem bd__law_le_drawn : Bd0 dd__law_le_drawn ["state", "hands", "houses"] [] 0 := by
  refine ⟨fun _ _ _ _ _ _ us hl => ?_, fun q hq => ?_⟩
  · match us, hl with
    | [_, _, _], _ => kernel_rfl
  · cases hq
theorem bd__law_le_bent : Bd0 dd__law_le_bent ["state", "item"] [] 0 := by
  refine ⟨fun _ _ _ _ _ _ us hl => ?_, fun q hq => ?_⟩
  · match us, hl with
    | [_, _], _ => kernel_rfl
  · cases hq
theorem bd_law : Bd0 dd_law ["script"] [] 0 := by
  refine ⟨fun _ _ _ _ _ _ us hl => ?_, fun q hq => ?_⟩
  · match us, hl with
    | [_], _ => kernel_rfl
  · cases hq
def e_is_number (K : PySem.W.Frag) : GV := .fn (He.fAd K ("is_number", none)) ["value", "low"] sp_is_number []
def e_is_store (K : PySem.W.Frag) : GV := .fn (He.fAd K ("is_store", none)) ["value"] (sp_any1 storeV) []
def e_need_store (K : PySem.W.Frag) : GV := .fn (He.fAd K ("need_store", none)) ["store"] (sp_need_storeA (He.ga K "BadStore")) []
def e_is_row (K : PySem.W.Frag) : GV := .fn (He.fAd K ("is_row", none)) ["value", "hands"] sp_rowA []
def e_has_name_form (K : PySem.W.Frag) : GV := .fn (He.fAd K ("has_name_form", none)) ["value"] (sp_any1 nameV) []
def e_are_rising (K : PySem.W.Frag) : GV := .fn (He.fAd K ("are_rising", none)) ["value"] (sp_anyS risV) []
def e_are_names (K : PySem.W.Frag) : GV := .fn (He.fAd K ("are_names", none)) ["value"] (sp_anyS namesV) []
def e_is_end (K : PySem.W.Frag) : GV := .fn (He.fAd K ("is_end", none)) ["value", "word", "many"] sp_endA []
def e_is_round (K : PySem.W.Frag) : GV := .fn (He.fAd K ("is_round", none)) ["body", "many"] sp_roundA []
def e_is_hand_body (K : PySem.W.Frag) : GV := .fn (He.fAd K ("is_hand_body", none)) ["store", "body"] sp_handA []
def e_is_house_body (K : PySem.W.Frag) : GV := .fn (He.fAd K ("is_house_body", none)) ["body"] (sp_anyS houseV) []
def e_right_letter (K : PySem.W.Frag) : GV := .fn (He.fAd K ("right_letter", none)) ["store", "value"] sp_rightA []
def e_is_letter (K : PySem.W.Frag) : GV := .fn (He.fAd K ("is_letter", none)) ["store", "value"] (sp_isLetter (He.ga K "BadStore")) [(0, ["store", "value"])]
def e__law_begun (K : PySem.W.Frag) : GV := .fn (He.fAd K ("_law_begun", none)) ["script"] spBegun []
def e__law_blended (K : PySem.W.Frag) : GV := .fn (He.fAd K ("_law_blended", none)) ["state"] spBlended []
def e__law_draw (K : PySem.W.Frag) : GV := .fn (He.fAd K ("_law_draw", none)) ["state", "size_here"] spDraw []
def e__law_pick (K : PySem.W.Frag) : GV := .fn (He.fAd K ("_law_pick", none)) ["state", "several"] spPick []
def e__law_is_truth (K : PySem.W.Frag) : GV := .fn (He.fAd K ("_law_is_truth", none)) ["found", "due"] sp_truth []
def e__law_is_whole (K : PySem.W.Frag) : GV := .fn (He.fAd K ("_law_is_whole", none)) ["item"] (sp_any1 fun v => isIntB v && !isBlB v) []
def e__law_le_number (K : PySem.W.Frag) : GV := .fn (He.fAd K ("_law_le_number", none)) ["item", "low"] sp_numA []
def e__law_le_name (K : PySem.W.Frag) : GV := .fn (He.fAd K ("_law_le_name", none)) ["item"] (sp_any1 nameV) []
def e__law_le_end (K : PySem.W.Frag) : GV := .fn (He.fAd K ("_law_le_end", none)) ["item", "word", "many"] sp_endA []
def e__law_le_names (K : PySem.W.Frag) : GV := .fn (He.fAd K ("_law_le_names", none)) ["item"] (sp_anyS namesV) []
def e__law_le_body (K : PySem.W.Frag) : GV := .fn (He.fAd K ("_law_le_body", none)) ["item", "hands", "is_hand"] sp_leBody []
def e__law_le_letter (K : PySem.W.Frag) : GV := .fn (He.fAd K ("_law_le_letter", none)) ["item", "hands", "houses"] sp_leLetter []
def e__law_le_drawn (K : PySem.W.Frag) : GV := .fn (He.fAd K ("_law_le_drawn", none)) ["state", "hands", "houses"] sp_drawn []
def e__law_le_bent (K : PySem.W.Frag) : GV := .fn (He.fAd K ("_law_le_bent", none)) ["state", "item"] (sp_bents 5) []
def e_law (K : PySem.W.Frag) : GV := .fn (He.fAd K ("law", none)) ["script"] spLaw []
def tG0 (K : PySem.W.Frag) : List (Str × GV) := [("abs", .blt), ("all", .blt), ("bool", .blt), ("int", .blt), ("isinstance", .blt), ("len", .blt), ("list", .blt), ("min", .blt), ("range", .blt), ("set", .blt), ("sorted", .blt), ("str", .blt), ("tuple", .blt), ("zip", .blt), ("MOST_NUMBER", .con (.int ((10 ^ 18)))), ("MOST_HANDS", .con (.int (6))), ("MOST_HOUSES", .con (.int (13))), ("BadStore", .exc (He.ga K "BadStore"))]
def tM0 (K : PySem.W.Frag) : List (Addr × Str × GV) := []
def tG1 (K : PySem.W.Frag) : List (Str × GV) := ("is_number", e_is_number K) :: ("_law_begun", e__law_begun K) :: ("_law_blended", e__law_blended K) :: ("_law_is_truth", e__law_is_truth K) :: ("_law_is_whole", e__law_is_whole K) :: tG0 K
def tM1 (K : PySem.W.Frag) : List (Addr × Str × GV) := tM0 K
def tG2 (K : PySem.W.Frag) : List (Str × GV) := ("is_store", e_is_store K) :: ("is_row", e_is_row K) :: ("has_name_form", e_has_name_form K) :: ("is_end", e_is_end K) :: ("is_round", e_is_round K) :: ("_law_draw", e__law_draw K) :: ("_law_le_number", e__law_le_number K) :: tG1 K
def tM2 (K : PySem.W.Frag) : List (Addr × Str × GV) := tM1 K
def tG3 (K : PySem.W.Frag) : List (Str × GV) := ("need_store", e_need_store K) :: ("are_rising", e_are_rising K) :: ("are_names", e_are_names K) :: ("_law_pick", e__law_pick K) :: ("_law_le_name", e__law_le_name K) :: ("_law_le_end", e__law_le_end K) :: tG2 K
def tM3 (K : PySem.W.Frag) : List (Addr × Str × GV) := tM2 K
def tG4 (K : PySem.W.Frag) : List (Str × GV) := ("is_hand_body", e_is_hand_body K) :: ("is_house_body", e_is_house_body K) :: ("_law_le_names", e__law_le_names K) :: ("_law_le_drawn", e__law_le_drawn K) :: ("_law_le_bent", e__law_le_bent K) :: tG3 K
def tM4 (K : PySem.W.Frag) : List (Addr × Str × GV) := tM3 K
def tG5 (K : PySem.W.Frag) : List (Str × GV) := ("right_letter", e_right_letter K) :: ("_law_le_body", e__law_le_body K) :: tG4 K
def tM5 (K : PySem.W.Frag) : List (Addr × Str × GV) := tM4 K
def tG6 (K : PySem.W.Frag) : List (Str × GV) := ("is_letter", e_is_letter K) :: ("_law_le_letter", e__law_le_letter K) :: tG5 K
def tM6 (K : PySem.W.Frag) : List (Addr × Str × GV) := tM5 K
def tG7 (K : PySem.W.Frag) : List (Str × GV) := tG6 K
def tM7 (K : PySem.W.Frag) : List (Addr × Str × GV) := tM6 K
def tfL : List He.Defn := [("law", none)]
def TL (K : PySem.W.Frag) : List (Addr × Str) := [((He.cT K ("law", none)).2, "law" ++ ".<locals>." ++ "<lambda>")]
section
variable {w : World} {K : PySem.W.Frag} {mg : Str → Option Value} {h base : Heap}

theorem aG0 (X : K.In h) (G : h.Ns mainGlobals mg) (c : He.SaysD faL fnL K) : AllG (drawI (TL K)) prog w K mg base 0 (tG0 K) :=
  .cons (gv_blt X G (c.fact 0 (f := .free "abs") rfl)) <| .cons (gv_blt X G (c.fact 1 (f := .free "all") rfl)) <| .cons (gv_blt X G (c.fact 2 (f := .free "bool") rfl)) <| .cons (gv_blt X G (c.fact 3 (f := .free "int") rfl)) <| .cons (gv_blt X G (c.fact 4 (f := .free "isinstance") rfl)) <| .cons (gv_blt X G (c.fact 5 (f := .free "len") rfl)) <| .cons (gv_blt X G (c.fact 6 (f := .free "list") rfl)) <| .cons (gv_blt X G (c.fact 7 (f := .free "min") rfl)) <| .cons (gv_blt X G (c.fact 8 (f := .free "range") rfl)) <| .cons (gv_blt X G (c.fact 9 (f := .free "set") rfl)) <| .cons (gv_blt X G (c.fact 10 (f := .free "sorted") rfl)) <| .cons (gv_blt X G (c.fact 11 (f := .free "str") rfl)) <| .cons (gv_blt X G (c.fact 12 (f := .free "tuple") rfl)) <| .cons (gv_blt X G (c.fact 13 (f := .free "zip") rfl)) <| .cons (gv_int X G (c.fact 14 (f := .int "MOST_NUMBER" (10 ^ 18)) rfl)) <| .cons (gv_int X G (c.fact 15 (f := .int "MOST_HANDS" 6) rfl)) <| .cons (gv_int X G (c.fact 16 (f := .int "MOST_HOUSES" 13) rfl)) <| .cons (gv_exc X G (c.fact 17 (f := .glo "BadStore") rfl) (c.fact 18 (f := .exc "BadStore") rfl)) <| .nil
theorem aM0 (X : K.In h) (G : h.Ns mainGlobals mg) (c : He.SaysD faL fnL K) : AllM (drawI (TL K)) prog w K mg base 0 (tM0 K) := .nil
theorem g0_MOST_NUMBER (K : PySem.W.Frag) : (mkG (tG0 K) (tM0 K)).g "MOST_NUMBER" = .con (.int ((10 ^ 18))) := by kernel_rfl
theorem g0_bool (K : PySem.W.Frag) : (mkG (tG0 K) (tM0 K)).g "bool" = .blt := by kernel_rfl
theorem g0_int (K : PySem.W.Frag) : (mkG (tG0 K) (tM0 K)).g "int" = .blt := by kernel_rfl
theorem g0_isinstance (K : PySem.W.Frag) : (mkG (tG0 K) (tM0 K)).g "isinstance" = .blt := by kernel_rfl
theorem i_is_number (X : K.In h) (G : h.Ns mainGlobals mg) (c : He.SaysD faL fnL K) : FnI (drawI (TL K)) prog w K mg base 3 (He.fAd K ("is_number", none)) ["value", "low"] sp_is_number [] 0 :=
  fnI_of (lam := false) (CS := csOf (He.ga K "SeenError")) (Γ := mkG (tG0 K) (tM0 K)) (T := T_is_number (mkG (tG0 K) (tM0 K)) K (He.ga K "SeenError")) c 0 (d := dd_is_number) rfl rfl rfl sc_is_number bd_is_number (gokB_of (aG0 X G c) (aM0 X G c)) (fun h => nomatch h) (h_is_number _ K (He.ga K "SeenError"))
    (by
      intro ds G DQ DX hl hs
      obtain ⟨v, l, rfl⟩ := len2 hl
      cases l with
      | int low => exact .id (p_is_number (g0_isinstance K) (g0_int K) (g0_bool K) (g0_MOST_NUMBER K) hs)
      | _ => exact (show False from hs).elim)
theorem g0_abs (K : PySem.W.Frag) : (mkG (tG0 K) (tM0 K)).g "abs" = .blt := by kernel_rfl
theorem i__law_begun (X : K.In h) (G : h.Ns mainGlobals mg) (c : He.SaysD faL fnL K) : FnI (drawI (TL K)) prog w K mg base 3 (He.fAd K ("_law_begun", none)) ["script"] spBegun [] 0 :=
  fnI_of (lam := false) (CS := csOf (He.ga K "SeenError")) (Γ := mkG (tG0 K) (tM0 K)) (T := T__law_begun (mkG (tG0 K) (tM0 K)) K (He.ga K "SeenError")) c 13 (d := dd__law_begun) rfl rfl rfl sc__law_begun bd__law_begun (gokB_of (aG0 X G c) (aM0 X G c)) (fun h => nomatch h) (h__law_begun _ K (He.ga K "SeenError"))
    (by
      intro ds G DQ DX hl hs
      obtain ⟨v, rfl⟩ := len1 hl
      exact .id (p_begun (g0_abs K) G v DQ DX hs))
theorem i__law_blended (X : K.In h) (G : h.Ns mainGlobals mg) (c : He.SaysD faL fnL K) : FnI (drawI (TL K)) prog w K mg base 3 (He.fAd K ("_law_blended", none)) ["state"] spBlended [] 0 :=
  fnI_of (lam := false) (CS := csOf (He.ga K "SeenError")) (Γ := mkG (tG0 K) (tM0 K)) (T := T__law_blended (mkG (tG0 K) (tM0 K)) K (He.ga K "SeenError")) c 14 (d := dd__law_blended) rfl rfl rfl sc__law_blended bd__law_blended (gokB_of (aG0 X G c) (aM0 X G c)) (fun h => nomatch h) (h__law_blended _ K (He.ga K "SeenError"))
    (by
      intro ds G DQ DX hl hs
      obtain ⟨v, rfl⟩ := len1 hl
      cases v with
      | ref s => exact .id (p_blended (g0_int K) G s DQ DX hs)
      | _ => exact (show False from hs).elim)
theorem i__law_is_truth (X : K.In h) (G : h.Ns mainGlobals mg) (c : He.SaysD faL fnL K) : FnI (drawI (TL K)) prog w K mg base 3 (He.fAd K ("_law_is_truth", none)) ["found", "due"] sp_truth [] 0 :=
  fnI_of (lam := false) (CS := csOf (He.ga K "SeenError")) (Γ := mkG (tG0 K) (tM0 K)) (T := T__law_is_truth (mkG (tG0 K) (tM0 K)) K (He.ga K "SeenError")) c 18 (d := dd__law_is_truth) rfl rfl rfl sc__law_is_truth bd__law_is_truth (gokB_of (aG0 X G c) (aM0 X G c)) (fun h => nomatch h) (h__law_is_truth _ K (He.ga K "SeenError"))
    (by
      rintro ds G DQ DX hl ⟨a, b, rfl, hq⟩
      exact .id (p_truth hq))
theorem i__law_is_whole (X : K.In h) (G : h.Ns mainGlobals mg) (c : He.SaysD faL fnL K) : FnI (drawI (TL K)) prog w K mg base 3 (He.fAd K ("_law_is_whole", none)) ["item"] (sp_any1 fun v => isIntB v && !isBlB v) [] 0 :=
  fnI_of (lam := false) (CS := csOf (He.ga K "SeenError")) (Γ := mkG (tG0 K) (tM0 K)) (T := T__law_is_whole (mkG (tG0 K) (tM0 K)) K (He.ga K "SeenError")) c 19 (d := dd__law_is_whole) rfl rfl rfl sc__law_is_whole bd__law_is_whole (gokB_of (aG0 X G c) (aM0 X G c)) (fun h => nomatch h) (h__law_is_whole _ K (He.ga K "SeenError"))
    (by
      rintro ds G DQ DX hl ⟨v, rfl, hv, hq⟩
      exact .id (p_wholeA (g0_isinstance K) (g0_int K) (g0_bool K) hv hq))
theorem aG1 (X : K.In h) (G : h.Ns mainGlobals mg) (c : He.SaysD faL fnL K) : AllG (drawI (TL K)) prog w K mg base 4 (tG1 K) :=
  .cons (gv_fn X G (c.fact 19 (f := .glo "is_number") rfl) ((i_is_number X G c).mono (by decide))) <| .cons (gv_fn X G (c.fact 32 (f := .glo "_law_begun") rfl) ((i__law_begun X G c).mono (by decide))) <| .cons (gv_fn X G (c.fact 33 (f := .glo "_law_blended") rfl) ((i__law_blended X G c).mono (by decide))) <| .cons (gv_fn X G (c.fact 37 (f := .glo "_law_is_truth") rfl) ((i__law_is_truth X G c).mono (by decide))) <| .cons (gv_fn X G (c.fact 38 (f := .glo "_law_is_whole") rfl) ((i__law_is_whole X G c).mono (by decide))) <| (aG0 X G c).mono (by decide)
theorem aM1 (X : K.In h) (G : h.Ns mainGlobals mg) (c : He.SaysD faL fnL K) : AllM (drawI (TL K)) prog w K mg base 4 (tM1 K) :=
  (aM0 X G c).mono (by decide)
theorem g1_MOST_HANDS (K : PySem.W.Frag) : (mkG (tG1 K) (tM1 K)).g "MOST_HANDS" = .con (.int (6)) := by kernel_rfl
theorem g1_MOST_HOUSES (K : PySem.W.Frag) : (mkG (tG1 K) (tM1 K)).g "MOST_HOUSES" = .con (.int (13)) := by kernel_rfl
theorem g1_all (K : PySem.W.Frag) : (mkG (tG1 K) (tM1 K)).g "all" = .blt := by kernel_rfl
theorem g1_is_number (K : PySem.W.Frag) : (mkG (tG1 K) (tM1 K)).g "is_number" = .fn (He.fAd K ("is_number", none)) ["value", "low"] sp_is_number [] := by kernel_rfl
theorem g1_isinstance (K : PySem.W.Frag) : (mkG (tG1 K) (tM1 K)).g "isinstance" = .blt := by kernel_rfl
theorem g1_len (K : PySem.W.Frag) : (mkG (tG1 K) (tM1 K)).g "len" = .blt := by kernel_rfl
theorem g1_tuple (K : PySem.W.Frag) : (mkG (tG1 K) (tM1 K)).g "tuple" = .blt := by kernel_rfl
theorem i_is_store (X : K.In h) (G : h.Ns mainGlobals mg) (c : He.SaysD faL fnL K) : FnI (drawI (TL K)) prog w K mg base 7 (He.fAd K ("is_store", none)) ["value"] (sp_any1 storeV) [] 0 :=
  fnI_of (lam := false) (CS := csOf (He.ga K "SeenError")) (Γ := mkG (tG1 K) (tM1 K)) (T := T_is_store (mkG (tG1 K) (tM1 K)) K (He.ga K "SeenError")) c 1 (d := dd_is_store) rfl rfl rfl sc_is_store bd_is_store (gokB_of (aG1 X G c) (aM1 X G c)) (fun h => nomatch h) (h_is_store _ K (He.ga K "SeenError"))
    (by
      rintro ds G DQ DX hl ⟨v, rfl, hv, hq⟩
      exact .id (p_storeA (g1_isinstance K) (g1_tuple K) (g1_len K) (g1_all K) (g1_is_number K) (g1_MOST_HANDS K) (g1_MOST_HOUSES K) hv hq))
theorem i_is_row (X : K.In h) (G : h.Ns mainGlobals mg) (c : He.SaysD faL fnL K) : FnI (drawI (TL K)) prog w K mg base 7 (He.fAd K ("is_row", none)) ["value", "hands"] sp_rowA [] 0 :=
  fnI_of (lam := false) (CS := csOf (He.ga K "SeenError")) (Γ := mkG (tG1 K) (tM1 K)) (T := T_is_row (mkG (tG1 K) (tM1 K)) K (He.ga K "SeenError")) c 3 (d := dd_is_row) rfl rfl rfl sc_is_row bd_is_row (gokB_of (aG1 X G c) (aM1 X G c)) (fun h => nomatch h) (h_is_row _ K (He.ga K "SeenError"))
    (by
      rintro ds G DQ DX hl ⟨v, n, rfl, hv, hz, hq⟩
      exact .id (p_rowA (g1_isinstance K) (g1_tuple K) (g1_len K) (g1_all K) (g1_is_number K) hv hz hq))
theorem g1_str (K : PySem.W.Frag) : (mkG (tG1 K) (tM1 K)).g "str" = .blt := by kernel_rfl
theorem i_has_name_form (X : K.In h) (G : h.Ns mainGlobals mg) (c : He.SaysD faL fnL K) : FnI (drawI (TL K)) prog w K mg base 7 (He.fAd K ("has_name_form", none)) ["value"] (sp_any1 nameV) [] 0 :=
  fnI_of (lam := false) (CS := csOf (He.ga K "SeenError")) (Γ := mkG (tG1 K) (tM1 K)) (T := T_has_name_form (mkG (tG1 K) (tM1 K)) K (He.ga K "SeenError")) c 4 (d := dd_has_name_form) rfl rfl rfl sc_has_name_form bd_has_name_form (gokB_of (aG1 X G c) (aM1 X G c)) (fun h => nomatch h) (h_has_name_form _ K (He.ga K "SeenError"))
    (by
      rintro ds G DQ DX hl ⟨v, rfl, hv, hq⟩
      exact .id (p_nameA (g1_isinstance K) (g1_tuple K) (g1_len K) (g1_str K) (g1_is_number K) hv hq))
theorem i_is_end (X : K.In h) (G : h.Ns mainGlobals mg) (c : He.SaysD faL fnL K) : FnI (drawI (TL K)) prog w K mg base 7 (He.fAd K ("is_end", none)) ["value", "word", "many"] sp_endA [] 0 :=
  fnI_of (lam := false) (CS := csOf (He.ga K "SeenError")) (Γ := mkG (tG1 K) (tM1 K)) (T := T_is_end (mkG (tG1 K) (tM1 K)) K (He.ga K "SeenError")) c 7 (d := dd_is_end) rfl rfl rfl sc_is_end bd_is_end (gokB_of (aG1 X G c) (aM1 X G c)) (fun h => nomatch h) (h_is_end _ K (He.ga K "SeenError"))
    (by
      rintro ds G DQ DX hl ⟨v, w, n, rfl, hv, hq⟩
      exact .id (p_endA (g1_isinstance K) (g1_tuple K) (g1_len K) (g1_str K) (g1_is_number K) hv hq))
theorem i_is_round (X : K.In h) (G : h.Ns mainGlobals mg) (c : He.SaysD faL fnL K) : FnI (drawI (TL K)) prog w K mg base 7 (He.fAd K ("is_round", none)) ["body", "many"] sp_roundA [] 0 :=
  fnI_of (lam := false) (CS := csOf (He.ga K "SeenError")) (Γ := mkG (tG1 K) (tM1 K)) (T := T_is_round (mkG (tG1 K) (tM1 K)) K (He.ga K "SeenError")) c 8 (d := dd_is_round) rfl rfl rfl sc_is_round bd_is_round (gokB_of (aG1 X G c) (aM1 X G c)) (fun h => nomatch h) (h_is_round _ K (He.ga K "SeenError"))
    (by
      rintro ds G DQ DX hl ⟨a, b, c', r, n, rfl, hb, hc, hq⟩
      exact .id (p_roundA (g1_len K) (g1_is_number K) hb hc hq))
theorem g1__law_blended (K : PySem.W.Frag) : (mkG (tG1 K) (tM1 K)).g "_law_blended" = .fn (He.fAd K ("_law_blended", none)) ["state"] spBlended [] := by kernel_rfl
theorem g1_int (K : PySem.W.Frag) : (mkG (tG1 K) (tM1 K)).g "int" = .blt := by kernel_rfl
theorem i__law_draw (X : K.In h) (G : h.Ns mainGlobals mg) (c : He.SaysD faL fnL K) : FnI (drawI (TL K)) prog w K mg base 7 (He.fAd K ("_law_draw", none)) ["state", "size_here"] spDraw [] 0 :=
  fnI_of (lam := false) (CS := csOf (He.ga K "SeenError")) (Γ := mkG (tG1 K) (tM1 K)) (T := T__law_draw (mkG (tG1 K) (tM1 K)) K (He.ga K "SeenError")) c 15 (d := dd__law_draw) rfl rfl rfl sc__law_draw bd__law_draw (gokB_of (aG1 X G c) (aM1 X G c)) (fun h => nomatch h) (h__law_draw _ K (He.ga K "SeenError"))
    (by
      intro ds G DQ DX hl hs
      obtain ⟨v, l, rfl⟩ := len2 hl
      cases v with
      | ref s => cases l with
        | int n => exact p_draw (g1_int K) (g1__law_blended K) G s n DQ DX hs
        | _ => exact (show False from hs).elim
      | _ => exact (show False from hs).elim)
theorem g1__law_is_whole (K : PySem.W.Frag) : (mkG (tG1 K) (tM1 K)).g "_law_is_whole" = .fn (He.fAd K ("_law_is_whole", none)) ["item"] (sp_any1 fun v => isIntB v && !isBlB v) [] := by kernel_rfl
theorem i__law_le_number (X : K.In h) (G : h.Ns mainGlobals mg) (c : He.SaysD faL fnL K) : FnI (drawI (TL K)) prog w K mg base 7 (He.fAd K ("_law_le_number", none)) ["item", "low"] sp_numA [] 0 :=
  fnI_of (lam := false) (CS := csOf (He.ga K "SeenError")) (Γ := mkG (tG1 K) (tM1 K)) (T := T__law_le_number (mkG (tG1 K) (tM1 K)) K (He.ga K "SeenError")) c 20 (d := dd__law_le_number) rfl rfl rfl sc__law_le_number bd__law_le_number (gokB_of (aG1 X G c) (aM1 X G c)) (fun h => nomatch h) (h__law_le_number _ K (He.ga K "SeenError"))
    (by
      rintro ds G DQ DX hl ⟨v, low, rfl, hv, hq⟩
      exact .id (p_le_number (g1__law_is_whole K) ⟨hv.some, hq⟩ hv))
theorem aG2 (X : K.In h) (G : h.Ns mainGlobals mg) (c : He.SaysD faL fnL K) : AllG (drawI (TL K)) prog w K mg base 8 (tG2 K) :=
  .cons (gv_fn X G (c.fact 20 (f := .glo "is_store") rfl) ((i_is_store X G c).mono (by decide))) <| .cons (gv_fn X G (c.fact 22 (f := .glo "is_row") rfl) ((i_is_row X G c).mono (by decide))) <| .cons (gv_fn X G (c.fact 23 (f := .glo "has_name_form") rfl) ((i_has_name_form X G c).mono (by decide))) <| .cons (gv_fn X G (c.fact 26 (f := .glo "is_end") rfl) ((i_is_end X G c).mono (by decide))) <| .cons (gv_fn X G (c.fact 27 (f := .glo "is_round") rfl) ((i_is_round X G c).mono (by decide))) <| .cons (gv_fn X G (c.fact 34 (f := .glo "_law_draw") rfl) ((i__law_draw X G c).mono (by decide))) <| .cons (gv_fn X G (c.fact 39 (f := .glo "_law_le_number") rfl) ((i__law_le_number X G c).mono (by decide))) <| (aG1 X G c).mono (by decide)
theorem aM2 (X : K.In h) (G : h.Ns mainGlobals mg) (c : He.SaysD faL fnL K) : AllM (drawI (TL K)) prog w K mg base 8 (tM2 K) :=
  (aM1 X G c).mono (by decide)
theorem g2_BadStore (K : PySem.W.Frag) : (mkG (tG2 K) (tM2 K)).g "BadStore" = .exc (He.ga K "BadStore") := by kernel_rfl
theorem g2_is_store (K : PySem.W.Frag) : (mkG (tG2 K) (tM2 K)).g "is_store" = .fn (He.fAd K ("is_store", none)) ["value"] (sp_any1 storeV) [] := by kernel_rfl
theorem i_need_store (X : K.In h) (G : h.Ns mainGlobals mg) (c : He.SaysD faL fnL K) : FnI (drawI (TL K)) prog w K mg base 11 (He.fAd K ("need_store", none)) ["store"] (sp_need_storeA (He.ga K "BadStore")) [] 0 :=
  fnI_of (lam := false) (CS := csOf (He.ga K "SeenError")) (Γ := mkG (tG2 K) (tM2 K)) (T := T_need_store (mkG (tG2 K) (tM2 K)) K (He.ga K "SeenError")) c 2 (d := dd_need_store) rfl rfl rfl sc_need_store bd_need_store (gokB_of (aG2 X G c) (aM2 X G c)) (fun h => nomatch h) (h_need_store _ K (He.ga K "SeenError"))
    (by
      rintro ds G DQ DX hl ⟨v, rfl, hv, hq, hx⟩
      exact .id (p_need_storeA (g2_is_store K) (g2_BadStore K) hv hq hx))
theorem g2_all (K : PySem.W.Frag) : (mkG (tG2 K) (tM2 K)).g "all" = .blt := by kernel_rfl
theorem g2_has_name_form (K : PySem.W.Frag) : (mkG (tG2 K) (tM2 K)).g "has_name_form" = .fn (He.fAd K ("has_name_form", none)) ["value"] (sp_any1 nameV) [] := by kernel_rfl
theorem g2_isinstance (K : PySem.W.Frag) : (mkG (tG2 K) (tM2 K)).g "isinstance" = .blt := by kernel_rfl
theorem g2_tuple (K : PySem.W.Frag) : (mkG (tG2 K) (tM2 K)).g "tuple" = .blt := by kernel_rfl
theorem g2_zip (K : PySem.W.Frag) : (mkG (tG2 K) (tM2 K)).g "zip" = .blt := by kernel_rfl
theorem i_are_rising (X : K.In h) (G : h.Ns mainGlobals mg) (c : He.SaysD faL fnL K) : FnI (drawI (TL K)) prog w K mg base 11 (He.fAd K ("are_rising", none)) ["value"] (sp_anyS risV) [] 0 :=
  fnI_of (lam := false) (CS := csOf (He.ga K "SeenError")) (Γ := mkG (tG2 K) (tM2 K)) (T := T_are_rising (mkG (tG2 K) (tM2 K)) K (He.ga K "SeenError")) c 5 (d := dd_are_rising) rfl rfl rfl sc_are_rising bd_are_rising (gokB_of (aG2 X G c) (aM2 X G c)) (fun h => nomatch h) (h_are_rising _ K (He.ga K "SeenError"))
    (by
      rintro ds G DQ DX hl ⟨v, rfl, hv, hz, hq⟩
      exact .id (p_risingA (g2_isinstance K) (g2_tuple K) (g2_zip K) (g2_all K) (g2_has_name_form K) hv hz hq))
theorem i_are_names (X : K.In h) (G : h.Ns mainGlobals mg) (c : He.SaysD faL fnL K) : FnI (drawI (TL K)) prog w K mg base 11 (He.fAd K ("are_names", none)) ["value"] (sp_anyS namesV) [] 0 :=
  fnI_of (lam := false) (CS := csOf (He.ga K "SeenError")) (Γ := mkG (tG2 K) (tM2 K)) (T := T_are_names (mkG (tG2 K) (tM2 K)) K (He.ga K "SeenError")) c 6 (d := dd_are_names) rfl rfl rfl sc_are_names bd_are_names (gokB_of (aG2 X G c) (aM2 X G c)) (fun h => nomatch h) (h_are_names _ K (He.ga K "SeenError"))
    (by
      rintro ds G DQ DX hl ⟨v, rfl, hv, hz, hq⟩
      exact .id (p_namesA (g2_isinstance K) (g2_tuple K) (g2_all K) (g2_has_name_form K) hv hz hq))
theorem g2__law_draw (K : PySem.W.Frag) : (mkG (tG2 K) (tM2 K)).g "_law_draw" = .fn (He.fAd K ("_law_draw", none)) ["state", "size_here"] spDraw [] := by kernel_rfl
theorem g2_len (K : PySem.W.Frag) : (mkG (tG2 K) (tM2 K)).g "len" = .blt := by kernel_rfl
theorem i__law_pick (X : K.In h) (G : h.Ns mainGlobals mg) (c : He.SaysD faL fnL K) : FnI (drawI (TL K)) prog w K mg base 11 (He.fAd K ("_law_pick", none)) ["state", "several"] spPick [] 0 :=
  fnI_of (lam := false) (CS := csOf (He.ga K "SeenError")) (Γ := mkG (tG2 K) (tM2 K)) (T := T__law_pick (mkG (tG2 K) (tM2 K)) K (He.ga K "SeenError")) c 16 (d := dd__law_pick) rfl rfl rfl sc__law_pick bd__law_pick (gokB_of (aG2 X G c) (aM2 X G c)) (fun h => nomatch h) (h__law_pick _ K (He.ga K "SeenError"))
    (by
      intro ds G DQ DX hl hs
      obtain ⟨v, l, rfl⟩ := len2 hl
      cases v with
      | ref s => exact .id (p_pick (g2_len K) (g2__law_draw K) G s l DQ DX hs)
      | _ => exact (show False from hs).elim)
theorem g2__law_le_number (K : PySem.W.Frag) : (mkG (tG2 K) (tM2 K)).g "_law_le_number" = .fn (He.fAd K ("_law_le_number", none)) ["item", "low"] sp_numA [] := by kernel_rfl
theorem i__law_le_name (X : K.In h) (G : h.Ns mainGlobals mg) (c : He.SaysD faL fnL K) : FnI (drawI (TL K)) prog w K mg base 11 (He.fAd K ("_law_le_name", none)) ["item"] (sp_any1 nameV) [] 0 :=
  fnI_of (lam := false) (CS := csOf (He.ga K "SeenError")) (Γ := mkG (tG2 K) (tM2 K)) (T := T__law_le_name (mkG (tG2 K) (tM2 K)) K (He.ga K "SeenError")) c 21 (d := dd__law_le_name) rfl rfl rfl sc__law_le_name bd__law_le_name (gokB_of (aG2 X G c) (aM2 X G c)) (fun h => nomatch h) (h__law_le_name _ K (He.ga K "SeenError"))
    (by
      rintro ds G DQ DX hl ⟨v, rfl, hv, hq⟩
      exact .id (p_le_name (g2_isinstance K) (g2_tuple K) (g2_len K) (g2__law_le_number K) hv hq))
theorem i__law_le_end (X : K.In h) (G : h.Ns mainGlobals mg) (c : He.SaysD faL fnL K) : FnI (drawI (TL K)) prog w K mg base 11 (He.fAd K ("_law_le_end", none)) ["item", "word", "many"] sp_endA [] 0 :=
  fnI_of (lam := false) (CS := csOf (He.ga K "SeenError")) (Γ := mkG (tG2 K) (tM2 K)) (T := T__law_le_end (mkG (tG2 K) (tM2 K)) K (He.ga K "SeenError")) c 22 (d := dd__law_le_end) rfl rfl rfl sc__law_le_end bd__law_le_end (gokB_of (aG2 X G c) (aM2 X G c)) (fun h => nomatch h) (h__law_le_end _ K (He.ga K "SeenError"))
    (by
      rintro ds G DQ DX hl ⟨v, w, n, rfl, hv, hq⟩
      exact .id (p_le_end (g2_isinstance K) (g2_tuple K) (g2_len K) (g2__law_le_number K) hv hq))
theorem aG3 (X : K.In h) (G : h.Ns mainGlobals mg) (c : He.SaysD faL fnL K) : AllG (drawI (TL K)) prog w K mg base 12 (tG3 K) :=
  .cons (gv_fn X G (c.fact 21 (f := .glo "need_store") rfl) ((i_need_store X G c).mono (by decide))) <| .cons (gv_fn X G (c.fact 24 (f := .glo "are_rising") rfl) ((i_are_rising X G c).mono (by decide))) <| .cons (gv_fn X G (c.fact 25 (f := .glo "are_names") rfl) ((i_are_names X G c).mono (by decide))) <| .cons (gv_fn X G (c.fact 35 (f := .glo "_law_pick") rfl) ((i__law_pick X G c).mono (by decide))) <| .cons (gv_fn X G (c.fact 40 (f := .glo "_law_le_name") rfl) ((i__law_le_name X G c).mono (by decide))) <| .cons (gv_fn X G (c.fact 41 (f := .glo "_law_le_end") rfl) ((i__law_le_end X G c).mono (by decide))) <| (aG2 X G c).mono (by decide)
theorem aM3 (X : K.In h) (G : h.Ns mainGlobals mg) (c : He.SaysD faL fnL K) : AllM (drawI (TL K)) prog w K mg base 12 (tM3 K) :=
  (aM2 X G c).mono (by decide)
theorem g3_are_names (K : PySem.W.Frag) : (mkG (tG3 K) (tM3 K)).g "are_names" = .fn (He.fAd K ("are_names", none)) ["value"] (sp_anyS namesV) [] := by kernel_rfl
theorem g3_are_rising (K : PySem.W.Frag) : (mkG (tG3 K) (tM3 K)).g "are_rising" = .fn (He.fAd K ("are_rising", none)) ["value"] (sp_anyS risV) [] := by kernel_rfl
theorem g3_is_round (K : PySem.W.Frag) : (mkG (tG3 K) (tM3 K)).g "is_round" = .fn (He.fAd K ("is_round", none)) ["body", "many"] sp_roundA [] := by kernel_rfl
theorem g3_is_row (K : PySem.W.Frag) : (mkG (tG3 K) (tM3 K)).g "is_row" = .fn (He.fAd K ("is_row", none)) ["value", "hands"] sp_rowA [] := by kernel_rfl
theorem g3_isinstance (K : PySem.W.Frag) : (mkG (tG3 K) (tM3 K)).g "isinstance" = .blt := by kernel_rfl
theorem g3_len (K : PySem.W.Frag) : (mkG (tG3 K) (tM3 K)).g "len" = .blt := by kernel_rfl
theorem g3_str (K : PySem.W.Frag) : (mkG (tG3 K) (tM3 K)).g "str" = .blt := by kernel_rfl
theorem g3_tuple (K : PySem.W.Frag) : (mkG (tG3 K) (tM3 K)).g "tuple" = .blt := by kernel_rfl
theorem i_is_hand_body (X : K.In h) (G : h.Ns mainGlobals mg) (c : He.SaysD faL fnL K) : FnI (drawI (TL K)) prog w K mg base 15 (He.fAd K ("is_hand_body", none)) ["store", "body"] sp_handA [] 0 :=
  fnI_of (lam := false) (CS := csOf (He.ga K "SeenError")) (Γ := mkG (tG3 K) (tM3 K)) (T := T_is_hand_body (mkG (tG3 K) (tM3 K)) K (He.ga K "SeenError")) c 9 (d := dd_is_hand_body) rfl rfl rfl sc_is_hand_body bd_is_hand_body (gokB_of (aG3 X G c) (aM3 X G c)) (fun h => nomatch h) (h_is_hand_body _ K (He.ga K "SeenError"))
    (by
      rintro ds G DQ DX hl ⟨s, m, v, rfl, hv, hz, hq⟩
      exact .id (p_handA (g3_isinstance K) (g3_tuple K) (g3_len K) (g3_str K) (g3_is_round K) (g3_are_names K) (g3_is_row K) (g3_are_rising K) hv hz hq))
theorem g3_has_name_form (K : PySem.W.Frag) : (mkG (tG3 K) (tM3 K)).g "has_name_form" = .fn (He.fAd K ("has_name_form", none)) ["value"] (sp_any1 nameV) [] := by kernel_rfl
theorem i_is_house_body (X : K.In h) (G : h.Ns mainGlobals mg) (c : He.SaysD faL fnL K) : FnI (drawI (TL K)) prog w K mg base 15 (He.fAd K ("is_house_body", none)) ["body"] (sp_anyS houseV) [] 0 :=
  fnI_of (lam := false) (CS := csOf (He.ga K "SeenError")) (Γ := mkG (tG3 K) (tM3 K)) (T := T_is_house_body (mkG (tG3 K) (tM3 K)) K (He.ga K "SeenError")) c 10 (d := dd_is_house_body) rfl rfl rfl sc_is_house_body bd_is_house_body (gokB_of (aG3 X G c) (aM3 X G c)) (fun h => nomatch h) (h_is_house_body _ K (He.ga K "SeenError"))
    (by
      rintro ds G DQ DX hl ⟨v, rfl, hv, hz, hq⟩
      exact .id (p_houseA (g3_isinstance K) (g3_tuple K) (g3_len K) (g3_str K) (g3_is_round K) (g3_are_names K) (g3_has_name_form K) hv hz hq))
theorem g3__law_le_name (K : PySem.W.Frag) : (mkG (tG3 K) (tM3 K)).g "_law_le_name" = .fn (He.fAd K ("_law_le_name", none)) ["item"] (sp_any1 nameV) [] := by kernel_rfl
theorem i__law_le_names (X : K.In h) (G : h.Ns mainGlobals mg) (c : He.SaysD faL fnL K) : FnI (drawI (TL K)) prog w K mg base 15 (He.fAd K ("_law_le_names", none)) ["item"] (sp_anyS namesV) [] 0 :=
  fnI_of (lam := false) (CS := csOf (He.ga K "SeenError")) (Γ := mkG (tG3 K) (tM3 K)) (T := T__law_le_names (mkG (tG3 K) (tM3 K)) K (He.ga K "SeenError")) c 23 (d := dd__law_le_names) rfl rfl rfl sc__law_le_names bd__law_le_names (gokB_of (aG3 X G c) (aM3 X G c)) (fun h => nomatch h) (h__law_le_names _ K (He.ga K "SeenError"))
    (by
      rintro ds G DQ DX hl ⟨v, rfl, hv, hz, hq⟩
      exact .id (p_le_names (g3_isinstance K) (g3_tuple K) (g3__law_le_name K) hv hz hq))
theorem g3__law_draw (K : PySem.W.Frag) : (mkG (tG3 K) (tM3 K)).g "_law_draw" = .fn (He.fAd K ("_law_draw", none)) ["state", "size_here"] spDraw [] := by kernel_rfl
theorem g3__law_pick (K : PySem.W.Frag) : (mkG (tG3 K) (tM3 K)).g "_law_pick" = .fn (He.fAd K ("_law_pick", none)) ["state", "several"] spPick [] := by kernel_rfl
theorem g3_range (K : PySem.W.Frag) : (mkG (tG3 K) (tM3 K)).g "range" = .blt := by kernel_rfl
theorem g3_sorted (K : PySem.W.Frag) : (mkG (tG3 K) (tM3 K)).g "sorted" = .blt := by kernel_rfl
theorem i__law_le_drawn (X : K.In h) (G : h.Ns mainGlobals mg) (c : He.SaysD faL fnL K) : FnI (drawI (TL K)) prog w K mg base 15 (He.fAd K ("_law_le_drawn", none)) ["state", "hands", "houses"] sp_drawn [] 0 :=
  fnI_of (lam := false) (CS := csOf (He.ga K "SeenError")) (Γ := mkG (tG3 K) (tM3 K)) (T := T__law_le_drawn (mkG (tG3 K) (tM3 K)) K (He.ga K "SeenError")) c 26 (d := dd__law_le_drawn) rfl rfl rfl sc__law_le_drawn bd__law_le_drawn (gokB_of (aG3 X G c) (aM3 X G c)) (fun h => nomatch h) (h__law_le_drawn _ K (He.ga K "SeenError"))
    (by
      rintro ds G DQ DX hl ⟨s, kk, m, o, rfl, h1, h2, h3, h4, hq⟩
      exact .id (p_drawn (g3__law_draw K) (g3__law_pick K) (g3_tuple K) (g3_range K) (g3_sorted K) h1 h2 h3 h4 hq))
theorem g3_list (K : PySem.W.Frag) : (mkG (tG3 K) (tM3 K)).g "list" = .blt := by kernel_rfl
theorem gr__law_le_bent__law_draw (K : PySem.W.Frag) (v : GV) : (mkG (("_law_le_bent", v) :: tG3 K) (tM3 K)).g "_law_draw" = .fn (He.fAd K ("_law_draw", none)) ["state", "size_here"] spDraw [] := by kernel_rfl
theorem gr__law_le_bent__law_pick (K : PySem.W.Frag) (v : GV) : (mkG (("_law_le_bent", v) :: tG3 K) (tM3 K)).g "_law_pick" = .fn (He.fAd K ("_law_pick", none)) ["state", "several"] spPick [] := by kernel_rfl
theorem gr__law_le_bent_isinstance (K : PySem.W.Frag) (v : GV) : (mkG (("_law_le_bent", v) :: tG3 K) (tM3 K)).g "isinstance" = .blt := by kernel_rfl
theorem gr__law_le_bent_len (K : PySem.W.Frag) (v : GV) : (mkG (("_law_le_bent", v) :: tG3 K) (tM3 K)).g "len" = .blt := by kernel_rfl
theorem gr__law_le_bent_list (K : PySem.W.Frag) (v : GV) : (mkG (("_law_le_bent", v) :: tG3 K) (tM3 K)).g "list" = .blt := by kernel_rfl
theorem gr__law_le_bent_tuple (K : PySem.W.Frag) (v : GV) : (mkG (("_law_le_bent", v) :: tG3 K) (tM3 K)).g "tuple" = .blt := by kernel_rfl
theorem gr__law_le_bent_self (K : PySem.W.Frag) (v : GV) : (mkG (("_law_le_bent", v) :: tG3 K) (tM3 K)).g "_law_le_bent" = v := by kernel_rfl
theorem ir__law_le_bent (X : K.In h) (G : h.Ns mainGlobals mg) (c : He.SaysD faL fnL K) : ∀ j : Nat, FnI (drawI (TL K)) prog w K mg base (15 + 4 * j) (He.fAd K ("_law_le_bent", none)) ["state", "item"] (sp_bents j) [] 0
  | 0 => fnI_of (lam := false) (CS := csOf (He.ga K "SeenError")) (Γ := mkG (tG3 K) (tM3 K)) (T := T__law_le_bent (mkG (tG3 K) (tM3 K)) K (He.ga K "SeenError")) c 27 (d := dd__law_le_bent) rfl rfl rfl sc__law_le_bent bd__law_le_bent (gokB_of (aG3 X G c) (aM3 X G c)) (fun h => nomatch h) (h__law_le_bent _ K (He.ga K "SeenError"))
    (by
      rintro ds G DQ DX hl ⟨lv, hlv, s, b, n, x, rfl, h1, h2, h3, h4, hq⟩
      exact .id (p_bent (g3__law_draw K) (g3__law_pick K) (g3_tuple K) (g3_isinstance K) (g3_len K) (g3_list K) (fun l e => absurd hlv (by omega)) h1 h2 h3 h4 hq))
  | j + 1 => (fnI_of (k := 15 + 4 * j) (lam := false) (CS := csOf (He.ga K "SeenError")) (Γ := mkG (("_law_le_bent", .fn (He.fAd K ("_law_le_bent", none)) ["state", "item"] (sp_bents j) []) :: tG3 K) (tM3 K)) (T := T__law_le_bent (mkG (("_law_le_bent", .fn (He.fAd K ("_law_le_bent", none)) ["state", "item"] (sp_bents j) []) :: tG3 K) (tM3 K)) K (He.ga K "SeenError")) c 27 (d := dd__law_le_bent) rfl rfl rfl sc__law_le_bent bd__law_le_bent (gokB_of (.cons (gv_fn X G (c.fact 46 (f := .glo "_law_le_bent") rfl) (ir__law_le_bent X G c j)) ((aG3 X G c).mono (by omega))) ((aM3 X G c).mono (by omega))) (fun h => nomatch h) (h__law_le_bent _ K (He.ga K "SeenError"))
    (by
      rintro ds G DQ DX hl ⟨lv, hlv, s, b, n, x, rfl, h1, h2, h3, h4, hq⟩
      exact .id (p_bent (gr__law_le_bent__law_draw K _) (gr__law_le_bent__law_pick K _) (gr__law_le_bent_tuple K _) (gr__law_le_bent_isinstance K _) (gr__law_le_bent_len K _) (gr__law_le_bent_list K _) (fun l e => ⟨_, _, by omega, (gr__law_le_bent_self K _)⟩) h1 h2 h3 h4 hq))).mono (by omega)
theorem aG4 (X : K.In h) (G : h.Ns mainGlobals mg) (c : He.SaysD faL fnL K) : AllG (drawI (TL K)) prog w K mg base 36 (tG4 K) :=
  .cons (gv_fn X G (c.fact 28 (f := .glo "is_hand_body") rfl) ((i_is_hand_body X G c).mono (by decide))) <| .cons (gv_fn X G (c.fact 29 (f := .glo "is_house_body") rfl) ((i_is_house_body X G c).mono (by decide))) <| .cons (gv_fn X G (c.fact 42 (f := .glo "_law_le_names") rfl) ((i__law_le_names X G c).mono (by decide))) <| .cons (gv_fn X G (c.fact 45 (f := .glo "_law_le_drawn") rfl) ((i__law_le_drawn X G c).mono (by decide))) <| .cons (gv_fn X G (c.fact 46 (f := .glo "_law_le_bent") rfl) ((ir__law_le_bent X G c 5).mono (by decide))) <| (aG3 X G c).mono (by decide)
theorem aM4 (X : K.In h) (G : h.Ns mainGlobals mg) (c : He.SaysD faL fnL K) : AllM (drawI (TL K)) prog w K mg base 36 (tM4 K) :=
  (aM3 X G c).mono (by decide)
theorem g4_is_end (K : PySem.W.Frag) : (mkG (tG4 K) (tM4 K)).g "is_end" = .fn (He.fAd K ("is_end", none)) ["value", "word", "many"] sp_endA [] := by kernel_rfl
theorem g4_is_hand_body (K : PySem.W.Frag) : (mkG (tG4 K) (tM4 K)).g "is_hand_body" = .fn (He.fAd K ("is_hand_body", none)) ["store", "body"] sp_handA [] := by kernel_rfl
theorem g4_is_house_body (K : PySem.W.Frag) : (mkG (tG4 K) (tM4 K)).g "is_house_body" = .fn (He.fAd K ("is_house_body", none)) ["body"] (sp_anyS houseV) [] := by kernel_rfl
theorem g4_isinstance (K : PySem.W.Frag) : (mkG (tG4 K) (tM4 K)).g "isinstance" = .blt := by kernel_rfl
theorem g4_len (K : PySem.W.Frag) : (mkG (tG4 K) (tM4 K)).g "len" = .blt := by kernel_rfl
theorem g4_tuple (K : PySem.W.Frag) : (mkG (tG4 K) (tM4 K)).g "tuple" = .blt := by kernel_rfl
theorem i_right_letter (X : K.In h) (G : h.Ns mainGlobals mg) (c : He.SaysD faL fnL K) : FnI (drawI (TL K)) prog w K mg base 39 (He.fAd K ("right_letter", none)) ["store", "value"] sp_rightA [] 0 :=
  fnI_of (lam := false) (CS := csOf (He.ga K "SeenError")) (Γ := mkG (tG4 K) (tM4 K)) (T := T_right_letter (mkG (tG4 K) (tM4 K)) K (He.ga K "SeenError")) c 11 (d := dd_right_letter) rfl rfl rfl sc_right_letter bd_right_letter (gokB_of (aG4 X G c) (aM4 X G c)) (fun h => nomatch h) (h_right_letter _ K (He.ga K "SeenError"))
    (by
      rintro ds G DQ DX hl ⟨s, m, o, v, rfl, hv, hz, hq⟩
      exact .id (p_rightA (g4_isinstance K) (g4_tuple K) (g4_len K) (g4_is_end K) (g4_is_hand_body K) (g4_is_house_body K) hv hz hq))
theorem g4__law_le_name (K : PySem.W.Frag) : (mkG (tG4 K) (tM4 K)).g "_law_le_name" = .fn (He.fAd K ("_law_le_name", none)) ["item"] (sp_any1 nameV) [] := by kernel_rfl
theorem g4__law_le_names (K : PySem.W.Frag) : (mkG (tG4 K) (tM4 K)).g "_law_le_names" = .fn (He.fAd K ("_law_le_names", none)) ["item"] (sp_anyS namesV) [] := by kernel_rfl
theorem g4__law_le_number (K : PySem.W.Frag) : (mkG (tG4 K) (tM4 K)).g "_law_le_number" = .fn (He.fAd K ("_law_le_number", none)) ["item", "low"] sp_numA [] := by kernel_rfl
theorem g4_set (K : PySem.W.Frag) : (mkG (tG4 K) (tM4 K)).g "set" = .blt := by kernel_rfl
theorem g4_sorted (K : PySem.W.Frag) : (mkG (tG4 K) (tM4 K)).g "sorted" = .blt := by kernel_rfl
theorem g4_str (K : PySem.W.Frag) : (mkG (tG4 K) (tM4 K)).g "str" = .blt := by kernel_rfl
theorem i__law_le_body (X : K.In h) (G : h.Ns mainGlobals mg) (c : He.SaysD faL fnL K) : FnI (drawI (TL K)) prog w K mg base 39 (He.fAd K ("_law_le_body", none)) ["item", "hands", "is_hand"] sp_leBody [] 0 :=
  fnI_of (lam := false) (CS := csOf (He.ga K "SeenError")) (Γ := mkG (tG4 K) (tM4 K)) (T := T__law_le_body (mkG (tG4 K) (tM4 K)) K (He.ga K "SeenError")) c 24 (d := dd__law_le_body) rfl rfl rfl sc__law_le_body bd__law_le_body (gokB_of (aG4 X G c) (aM4 X G c)) (fun h => nomatch h) (h__law_le_body _ K (He.ga K "SeenError"))
    (by
      rintro ds G DQ DX hl ⟨v, n, b, rfl, hv, hz, hq⟩
      exact .id (p_le_body (g4_isinstance K) (g4_tuple K) (g4_len K) (g4_str K) (g4__law_le_number K) (g4__law_le_name K) (g4__law_le_names K) (g4_sorted K) (g4_set K) hv hz hq))
theorem aG5 (X : K.In h) (G : h.Ns mainGlobals mg) (c : He.SaysD faL fnL K) : AllG (drawI (TL K)) prog w K mg base 40 (tG5 K) :=
  .cons (gv_fn X G (c.fact 30 (f := .glo "right_letter") rfl) ((i_right_letter X G c).mono (by decide))) <| .cons (gv_fn X G (c.fact 43 (f := .glo "_law_le_body") rfl) ((i__law_le_body X G c).mono (by decide))) <| (aG4 X G c).mono (by decide)
theorem aM5 (X : K.In h) (G : h.Ns mainGlobals mg) (c : He.SaysD faL fnL K) : AllM (drawI (TL K)) prog w K mg base 40 (tM5 K) :=
  (aM4 X G c).mono (by decide)
theorem g5_need_store (K : PySem.W.Frag) : (mkG (tG5 K) (tM5 K)).g "need_store" = .fn (He.fAd K ("need_store", none)) ["store"] (sp_need_storeA (He.ga K "BadStore")) [] := by kernel_rfl
theorem g5_right_letter (K : PySem.W.Frag) : (mkG (tG5 K) (tM5 K)).g "right_letter" = .fn (He.fAd K ("right_letter", none)) ["store", "value"] sp_rightA [] := by kernel_rfl
theorem i_is_letter (X : K.In h) (G : h.Ns mainGlobals mg) (c : He.SaysD faL fnL K) : FnI (drawI (TL K)) prog w K mg base 43 (He.fAd K ("is_letter", none)) ["store", "value"] (sp_isLetter (He.ga K "BadStore")) [(0, ["store", "value"])] 0 :=
  fnI_of (lam := false) (CS := csOf (He.ga K "SeenError")) (Γ := mkG (tG5 K) (tM5 K)) (T := T_is_letter (mkG (tG5 K) (tM5 K)) K (He.ga K "SeenError")) c 12 (d := dd_is_letter) rfl rfl rfl sc_is_letter bd_is_letter (gokB_of (aG5 X G c) (aM5 X G c)) (fun h => nomatch h) (h_is_letter _ K (He.ga K "SeenError"))
    (by
      rintro ds G DQ DX hl ⟨st, v, rfl, hs, hv, hz, hq, hx⟩
      exact .id (p_isLetter (g5_need_store K) (g5_right_letter K) hs hv hz hq hx))
theorem g5__law_le_body (K : PySem.W.Frag) : (mkG (tG5 K) (tM5 K)).g "_law_le_body" = .fn (He.fAd K ("_law_le_body", none)) ["item", "hands", "is_hand"] sp_leBody [] := by kernel_rfl
theorem g5__law_le_end (K : PySem.W.Frag) : (mkG (tG5 K) (tM5 K)).g "_law_le_end" = .fn (He.fAd K ("_law_le_end", none)) ["item", "word", "many"] sp_endA [] := by kernel_rfl
theorem g5_isinstance (K : PySem.W.Frag) : (mkG (tG5 K) (tM5 K)).g "isinstance" = .blt := by kernel_rfl
theorem g5_len (K : PySem.W.Frag) : (mkG (tG5 K) (tM5 K)).g "len" = .blt := by kernel_rfl
theorem g5_tuple (K : PySem.W.Frag) : (mkG (tG5 K) (tM5 K)).g "tuple" = .blt := by kernel_rfl
theorem i__law_le_letter (X : K.In h) (G : h.Ns mainGlobals mg) (c : He.SaysD faL fnL K) : FnI (drawI (TL K)) prog w K mg base 43 (He.fAd K ("_law_le_letter", none)) ["item", "hands", "houses"] sp_leLetter [] 0 :=
  fnI_of (lam := false) (CS := csOf (He.ga K "SeenError")) (Γ := mkG (tG5 K) (tM5 K)) (T := T__law_le_letter (mkG (tG5 K) (tM5 K)) K (He.ga K "SeenError")) c 25 (d := dd__law_le_letter) rfl rfl rfl sc__law_le_letter bd__law_le_letter (gokB_of (aG5 X G c) (aM5 X G c)) (fun h => nomatch h) (h__law_le_letter _ K (He.ga K "SeenError"))
    (by
      rintro ds G DQ DX hl ⟨v, m, o, rfl, hv, hz, hq⟩
      exact .id (p_le_letter (g5_isinstance K) (g5_tuple K) (g5_len K) (g5__law_le_end K) (g5__law_le_body K) hv hz hq))
theorem aG6 (X : K.In h) (G : h.Ns mainGlobals mg) (c : He.SaysD faL fnL K) : AllG (drawI (TL K)) prog w K mg base 44 (tG6 K) :=
  .cons (gv_fn X G (c.fact 31 (f := .glo "is_letter") rfl) ((i_is_letter X G c).mono (by decide))) <| .cons (gv_fn X G (c.fact 44 (f := .glo "_law_le_letter") rfl) ((i__law_le_letter X G c).mono (by decide))) <| (aG5 X G c).mono (by decide)
theorem aM6 (X : K.In h) (G : h.Ns mainGlobals mg) (c : He.SaysD faL fnL K) : AllM (drawI (TL K)) prog w K mg base 44 (tM6 K) :=
  (aM5 X G c).mono (by decide)
theorem aG7 (X : K.In h) (G : h.Ns mainGlobals mg) (c : He.SaysD faL fnL K) : AllG (drawI (TL K)) prog w K mg base 48 (tG7 K) :=
  (aG6 X G c).mono (by decide)
theorem aM7 (X : K.In h) (G : h.Ns mainGlobals mg) (c : He.SaysD faL fnL K) : AllM (drawI (TL K)) prog w K mg base 48 (tM7 K) :=
  (aM6 X G c).mono (by decide)
theorem g6_BadStore (K : PySem.W.Frag) : (mkG (tG6 K) (tM6 K)).g "BadStore" = .exc (He.ga K "BadStore") := by kernel_rfl
theorem g6__law_begun (K : PySem.W.Frag) : (mkG (tG6 K) (tM6 K)).g "_law_begun" = .fn (He.fAd K ("_law_begun", none)) ["script"] spBegun [] := by kernel_rfl
theorem g6__law_draw (K : PySem.W.Frag) : (mkG (tG6 K) (tM6 K)).g "_law_draw" = .fn (He.fAd K ("_law_draw", none)) ["state", "size_here"] spDraw [] := by kernel_rfl
theorem g6__law_is_truth (K : PySem.W.Frag) : (mkG (tG6 K) (tM6 K)).g "_law_is_truth" = .fn (He.fAd K ("_law_is_truth", none)) ["found", "due"] sp_truth [] := by kernel_rfl
theorem g6__law_le_bent (K : PySem.W.Frag) : (mkG (tG6 K) (tM6 K)).g "_law_le_bent" = .fn (He.fAd K ("_law_le_bent", none)) ["state", "item"] (sp_bents 5) [] := by kernel_rfl
theorem g6__law_le_drawn (K : PySem.W.Frag) : (mkG (tG6 K) (tM6 K)).g "_law_le_drawn" = .fn (He.fAd K ("_law_le_drawn", none)) ["state", "hands", "houses"] sp_drawn [] := by kernel_rfl
theorem g6__law_le_letter (K : PySem.W.Frag) : (mkG (tG6 K) (tM6 K)).g "_law_le_letter" = .fn (He.fAd K ("_law_le_letter", none)) ["item", "hands", "houses"] sp_leLetter [] := by kernel_rfl
theorem g6__law_pick (K : PySem.W.Frag) : (mkG (tG6 K) (tM6 K)).g "_law_pick" = .fn (He.fAd K ("_law_pick", none)) ["state", "several"] spPick [] := by kernel_rfl
theorem g6_is_letter (K : PySem.W.Frag) : (mkG (tG6 K) (tM6 K)).g "is_letter" = .fn (He.fAd K ("is_letter", none)) ["store", "value"] (sp_isLetter (He.ga K "BadStore")) [(0, ["store", "value"])] := by kernel_rfl
theorem g6_isinstance (K : PySem.W.Frag) : (mkG (tG6 K) (tM6 K)).g "isinstance" = .blt := by kernel_rfl
theorem g6_len (K : PySem.W.Frag) : (mkG (tG6 K) (tM6 K)).g "len" = .blt := by kernel_rfl
theorem g6_min (K : PySem.W.Frag) : (mkG (tG6 K) (tM6 K)).g "min" = .blt := by kernel_rfl
theorem g6_range (K : PySem.W.Frag) : (mkG (tG6 K) (tM6 K)).g "range" = .blt := by kernel_rfl
def exL (K : PySem.W.Frag) : Bool := noLists K && (excB K "BadStore")
theorem caughtL (X : K.In h) (G : h.Ns mainGlobals mg) (c : He.SaysD faL fnL K) : CaughtI K mg "_law_caught" (He.ga K "SeenError") := by
  obtain ⟨fd, F⟩ := c.def_ 17 (d := dd__law_caught) rfl
  have kp := F.kp
  have bn := F.bindsN (ps := ["work"]) (fun _ _ _ _ _ _ us hl => match us, hl with | [_], _ => by kernel_rfl)
  obtain ⟨oc, od, dV, kV, doc, pm, an, cdv, ct, osl, rfl, lk, hcd, _, _⟩ := F.ex
  exact ⟨_, _, _, _, _, _, _, _, _, _, _, _, _, _, "work", "caught", "error", "SeenError", _, _, _, _, _, _, _, _, _, _, _, _, _, _, _, He.glo_ok X G (c.fact 36 (f := .glo "_law_caught") rfl), kp, lk, hcd, bn, ⟨by kernel_rfl, by kernel_rfl, by kernel_rfl, by decide +kernel, by rfl, by decide +kernel, by decide +kernel⟩, .inl (by decide +kernel), rfl, by kernel_rfl, He.glo_ok X G (c.fact 48 (f := .glo "SeenError") rfl), by decide +kernel, by kernel_rfl, by kernel_rfl, by decide +kernel, by decide +kernel, by decide +kernel, by decide +kernel, by decide +kernel, by decide +kernel⟩
theorem at_law {fa : Addr} (X : K.In h) (G : h.Ns mainGlobals mg) (c : He.SaysX faL fnL [] tfL exL w h K) (hmg : mg "law" = some (.ref fa)) : LamX.LawAtS PySem.Challenge.rw_seenatonce_k25_letters_judged w K (L2.CX PySem.Challenge.rw_seenatonce_k25_letters_judged.prog w) 47 63 "script" mg fa h := by
  obtain ⟨fd, F0⟩ := c.t.d.def_ 28 (d := dd_law) rfl
  have F : FunD K "law" "law" dd_law.params dd_law.body dd_law.scope [] [] (He.fAd K ("law", none)) fd := F0
  have hfa : fa = He.fAd K ("law", none) := by
    have e := hmg.symm.trans (He.glo_ok X G (c.t.d.fact 47 (f := .glo "law") rfl))
    cases e
    rfl
  subst hfa
  obtain ⟨nl, eBadStore⟩ := He.ba (show (noLists K && excB K "BadStore") = true from c.more)
  refine law_at (T := TL K) X c nl (fun p hp => ?_) (fun s u => F.bindsA (ps := ["script"]) bd_law.n s [u] rfl) fun base hK hN hTB => ?_
  · obtain rfl := List.mem_singleton.mp hp
    exact ⟨("law", none), List.mem_singleton.mpr rfl, rfl⟩
  · refine fnOk_of F sc_law (gokB_of (aG6 X G c.t.d) (aM6 X G c.t.d)) (fun _ => lamB_of F (hTB _ (List.mem_singleton.mpr rfl)) (List.mem_singleton.mpr rfl) (fun q hq _ => by obtain rfl := List.mem_singleton.mp hq; rfl) (CS := csOf (He.ga K "SeenError")) (fun x C hx => ?_)) (h_law _ K (He.ga K "SeenError")) (fun ds G' DQ DX hl hs => ?_)
    · obtain ⟨rfl, rfl⟩ := csL_of (x := x) hx
      exact caughtL X G c.t.d
    · obtain ⟨sc, ns, mo, rfl, h1, h2, h3, h4⟩ := hs
      refine .id (p_law (Γ := mkG (tG6 K) (tM6 K)) { begun := g6__law_begun K, draw := g6__law_draw K, pick := g6__law_pick K, drawn := g6__law_le_drawn K, bent := g6__law_le_bent K, truth := g6__law_is_truth K, letter := g6_is_letter K, leLetter := g6__law_le_letter K, bad := g6_BadStore K, range_ := g6_range K, len_ := g6_len K, min_ := g6_min K, isi := g6_isinstance K, eb := ⟨He.exm_ok (c.t.d.fact 49 (f := .exm "BadStore" "SeenError" true) rfl), (excB_ok eBadStore).1, (excB_ok eBadStore).2⟩ } h1 h2 h3 h4)
end
end Dl

namespace Dl
open PySem PySem.Spec PyProof.Rows L2
abbrev Rw : PySem.W.OpenRow := PySem.W.OpenLaw.row PySem.Challenge.rw_seenatonce_k25_letters_judged
abbrev hk : PySem.W.Hook := He.hookX 4 faL fnL [] tfL exL
def ob (s : PySem.W.SharedT) : He.AlX := He.obsX 4 faL fnL [] tfL exL (HandSHeadRun.getT s)
theorem ob_eq (s : PySem.W.SharedT) : ob s = hk.obs s.abs := He.obsX_eq (HandSHeadRun.getT_eq s)
def looseL : List Str := "__name__" :: "SeenError" :: "BadStore" :: "MOST_NUMBER" :: "MOST_HANDS" :: "MOST_HOUSES" :: "is_number" :: "is_store" :: "need_store" :: "is_row" :: "has_name_form" :: "are_rising" :: "are_names" :: "is_end" :: "is_round" :: "is_hand_body" :: "is_house_body" :: "right_letter" :: "is_letter" :: "_law_begun" :: "_law_blended" :: "_law_draw" :: "_law_pick" :: "_law_caught" :: "_law_is_truth" :: "_law_is_whole" :: "_law_le_number" :: "_law_le_name" :: "_law_le_end" :: "_law_le_names" :: "_law_le_body" :: "_law_le_letter" :: "_law_le_drawn" :: "_law_le_bent" :: []
theorem run (w : World) : HandSHeadRun.RunEq Rw (PySem.W.view Rw.prog [37]) hk ob 3000 looseL w := by
  intro os
  kernel_rfl
end Dl

open PySem PySem.Spec PyProof.Rows L2
open PySem PySem.W PySem.Calls PyProof.Rows
theorem PySem.Challenge.cw_seenatonce_k25_letters_judged_holds : PySem.Challenge.rw_seenatonce_k25_letters_judged.Holds := by
  w_on; o_law
  refine HandSHeadRun.head_any (r := OpenLaw.row PySem.Challenge.rw_seenatonce_k25_letters_judged) (q := view (OpenLaw.row PySem.Challenge.rw_seenatonce_k25_letters_judged).prog [37]) (H := Dl.hk) (ob := Dl.ob) (M := 3000) (loose := Dl.looseL) (d := HandSHeadRun.topDef (OpenLaw.row PySem.Challenge.rw_seenatonce_k25_letters_judged).prog 37) (kwd := []) Dl.ob_eq
    (by kernel_rfl) (fun s => by kernel_rfl) Dl.run (by kernel_rfl) (by kernel_rfl) (by kernel_rfl) (by rfl) (by first | assumption | decide +kernel) (by decide +kernel) ⟨rfl, rfl, rfl, rfl, rfl, by decide +kernel⟩ ?hw ?hc
  case hw => w_witness2
  case hc =>
    refine LamX.walk_ofTsE (l := PySem.Challenge.rw_seenatonce_k25_letters_judged) (n := 63) (k := 47) (x := "script") (CX := fun w => L2.CX PySem.Challenge.rw_seenatonce_k25_letters_judged.prog w) rfl (by rw [sizeLine_eq]; decide) (by kernel_rfl) ⟨rfl, by decide, by decide⟩ ?F (fun w H s e s' z => Dl.cx_no H s e s' z)
    intro w mg fa h Y G hmg0
    obtain ⟨K, KX, c⟩ := Y
    have hmg : mg ("law" : PySem.Str) = some (.ref fa) := by
      have e : (HandSHeadRun.topDef (OpenLaw.row PySem.Challenge.rw_seenatonce_k25_letters_judged).prog 37).name = ("law" : PySem.Str) := by kernel_rfl
      rw [← e]
      exact hmg0
    exact ⟨K, KX, Dl.at_law KX G c hmg⟩
