import PyProof.Rows.All
import Wide.All
import OpenK.AllK
import Wide.FinOn
import HandS.ForMost
import HandS.ExcInit
import HandS.IsInst
import HandS.TryOnly
import HandS.WordsExc
import KE.KDictCopyH
import HandS.Lambda
import HandS.CallSlots
import HandS.Deep
import HandS.ExcField
import HandS.ExcIs
import KE.KExcIs
import HandS.TupSets
import HandS.SortOrd
import HandS.Defaults
import HandS.MakeKw
import HandS.StrMore
import HandS.SortInts
import HandS.MakeKwOnly
import HandS.Style
import HandS.Steps
import HandS.TupMul
import HandS.Set
import PyProof.Tail
import PyProof.FactsAll.set_1
import PyProof.FactsAll.subtypes_5
import HandS.FStr
import HandS.RaiseMore
import KE.KCallOwn
import HandS.Iter
import HandS.Zip
import KE.GoesZip
import KE.GoesMore
import KE.KDictPairs
import KE.KDictZip
import KE.GoesEnumKw
import PyProof.Rows.StrStep
import KE.KNestM
import HandS.EndTab
import KE.KEqDict
import KE.KDictKeyed
import HandS.List
import HandS.Conv
import PySem.Challenge.RW_foldbough_k20_rows_of_a_fold
set_option Elab.async false
set_option linter.all false
set_option maxRecDepth 100000
set_option maxHeartbeats 2000000
namespace DL
open PySem PySem.Spec PyProof.Rows L2
/-- what a proof stands in: the program, the world, the written part -/
structure Wd where
  P : Program
  w : World
  K : PySem.W.Frag
inductive DV where
  | v (x : V)
  | tup (xs : List DV)
  | lst (xs : List DV)
  | obj (C : Addr) (ns : List Str) (xs : List DV)
  | dk (ks : List Key) (xs : List DV)
  | dl (ks : List Leaf) (xs : List DV)
  | fn (q : Str) (o : Addr → Addr → HO)
abbrev DV.i (n : Int) : DV := .v (.int n)
abbrev DV.s (x : Str) : DV := .v (.str x)
abbrev DV.b (k : Bool) : DV := .v (.bl k)
abbrev DV.n : DV := .v .non
abbrev DV.r (a : Addr) : DV := .v (.ref a)
/-- a dict whose keys are None, ints and texts, by any key kind's rules -/
def leafO (W : Wd) (a : Addr) (kvs : List (Leaf × V)) : HO := .ext fun h => kvs.length ≤ sizeLine ∧ (a == sysModules) = false ∧ ∃ us, KV kvs us ∧ h.DictOf (leafKind W.P W.w) a us
mutual
def Dat (W : Wd) (G : Hp) : DV → V → Prop
  | .v x, y => y = x
  | .tup ds, y => ∃ a xs, y = .ref a ∧ SqT W.K G a xs ∧ DatL W G ds xs
  | .lst ds, y => ∃ a xs, y = .ref a ∧ G a = some (.lst xs) ∧ DatL W G ds xs
  | .obj C ns ds, y => ∃ a dx xs, y = .ref a ∧ G a = some (.ins C dx (ns.zip xs)) ∧ ns.length = ds.length ∧ DatL W G ds xs
  | .dk ks ds, y => ∃ a xs, y = .ref a ∧ Rd G a (.dK (ks.zip xs)) ∧ ks.length = ds.length ∧ DatL W G ds xs
  | .dl ks ds, y => ∃ a xs, y = .ref a ∧ G a = some (leafO W a (ks.zip xs)) ∧ ks.length = ds.length ∧ DatL W G ds xs
  | .fn q o, y => ∃ a c, y = .ref a ∧ G a = some (o a c) ∧ G c = some (LamX.CodeO c q)
def DatL (W : Wd) (G : Hp) : List DV → List V → Prop
  | [], ys => ys = []
  | d :: ds, ys => ∃ y r, ys = y :: r ∧ Dat W G d y ∧ DatL W G ds r
end
/-- any changeable thing, by what is true of the frozen and the whole heap -/
structure MX where
  φ : Hp → Hp → Addr → Prop
  mono : ∀ {G G' H : Hp} {a : Addr}, Same G G' → φ G H a → φ G' H a
  heap : ∀ {G H H' : Hp} {a : Addr}, H' a = H a → φ G H a → φ G H' a
  there : ∀ {G H : Hp} {a : Addr}, φ G H a → ∃ u, H a = some u
inductive MO where
  | lst (xs : List DV)
  | ins (C : Addr) (ns : List Str) (xs : List DV)
  | dk (ks : List Key) (xs : List DV)
  | dl (ks : List Leaf) (xs : List DV)
  | pre (P : List DV → Prop)
  | tab (q : Str)
  | ext (x : MX)
abbrev Mu := Addr → Option MO
def updM (M : Mu) (a : Addr) (o : MO) : Mu := fun b => if b = a then some o else M b
def delM (M : Mu) (a : Addr) : Mu := fun b => if b = a then none else M b
theorem updM_same {M : Mu} {a : Addr} {o : MO} : updM M a o a = some o := if_pos rfl
theorem updM_ne {M : Mu} {a b : Addr} {o : MO} (h : b ≠ a) : updM M a o b = M b := if_neg h
theorem updM_upd {M : Mu} {a : Addr} {o u : MO} : updM (updM M a o) a u = updM M a u := by
  funext b; unfold updM; split <;> rfl
theorem delM_same {M : Mu} {a : Addr} : delM M a a = none := if_pos rfl
theorem delM_ne {M : Mu} {a b : Addr} (h : b ≠ a) : delM M a b = M b := if_neg h
theorem delM_updM {M : Mu} {a : Addr} {o : MO} (h : M a = none) : delM (updM M a o) a = M := by
  funext b; unfold delM updM
  by_cases e : b = a
  · rw [if_pos e, e, h]
  · rw [if_neg e, if_neg e]
def MAt (W : Wd) (G H : Hp) (a : Addr) : MO → Prop
  | .lst ds => ∃ xs, H a = some (.lst xs) ∧ DatL W G ds xs
  | .ins C ns ds => ∃ dx xs, H a = some (.ins C dx (ns.zip xs)) ∧ ns.length = ds.length ∧ DatL W G ds xs
  | .dk ks ds => ∃ xs, H a = some (.dK (ks.zip xs)) ∧ ks.length = ds.length ∧ DatL W G ds xs
  | .dl ks ds => ∃ xs, H a = some (leafO W a (ks.zip xs)) ∧ ks.length = ds.length ∧ DatL W G ds xs
  | .pre P => ∃ ds xs, P ds ∧ H a = some (.lst xs) ∧ DatL W G ds xs
  | .tab q => ∃ ps : Array Value, H a = some (.tbl ps) ∧ TriplesOk ps.toList ∧ ∀ pos cv, codeAmong pos ps.toList = some cv → ∃ c, cv = .ref c ∧ G c = some (LamX.CodeO c q)
  | .ext x => x.φ G H a
structure Rep (W : Wd) (G : Hp) (M : Mu) (F H : Hp) : Prop where
  ex : Same G H
  fr : Same F H
  fd : ∀ a o, F a = some o → G a = none ∧ M a = none
  mu : ∀ a o, M a = some o → G a = none ∧ MAt W G H a o
theorem Rd.same {G G' : Hp} {a : Addr} {u : HO} (e : Same G G') (h : Rd G a u) : Rd G' a u := by
  rcases h with h | ⟨o, h⟩
  · exact .inl (e _ _ h)
  · exact .inr ⟨o, e _ _ h⟩
theorem sql_mono {K : PySem.W.Frag} {G G' : Hp} {a : Addr} {xs : List V} (e : Same G G') (h : SqL K G a xs) : SqL K G' a xs := by
  rcases h with h | h
  · exact .inl (Rd.same e h)
  · exact .inr h
theorem sqt_mono {K : PySem.W.Frag} {G G' : Hp} {a : Addr} {xs : List V} (e : Same G G') (h : SqT K G a xs) : SqT K G' a xs := by
  rcases h with h | h
  · exact .inl (Rd.same e h)
  · exact .inr h
section
variable {W : Wd} {G G' : Hp}
mutual
theorem Dat.mono (e : Same G G') : ∀ {d : DV} {y : V}, Dat W G d y → Dat W G' d y
  | .v x, y, h => by simpa only [Dat] using h
  | .tup ds, y, h => by
    simp only [Dat] at h ⊢
    obtain ⟨a, xs, h1, h2, h3⟩ := h
    exact ⟨a, xs, h1, sqt_mono e h2, DatL.mono e h3⟩
  | .lst ds, y, h => by
    simp only [Dat] at h ⊢
    obtain ⟨a, xs, h1, h2, h3⟩ := h
    exact ⟨a, xs, h1, e _ _ h2, DatL.mono e h3⟩
  | .obj C ns ds, y, h => by
    simp only [Dat] at h ⊢
    obtain ⟨a, dx, xs, h1, h2, h3, h4⟩ := h
    exact ⟨a, dx, xs, h1, e _ _ h2, h3, DatL.mono e h4⟩
  | .dk ks ds, y, h => by
    simp only [Dat] at h ⊢
    obtain ⟨a, xs, h1, h2, h3, h4⟩ := h
    exact ⟨a, xs, h1, Rd.same e h2, h3, DatL.mono e h4⟩
  | .dl ks ds, y, h => by
    simp only [Dat] at h ⊢
    obtain ⟨a, xs, h1, h2, h3, h4⟩ := h
    exact ⟨a, xs, h1, e _ _ h2, h3, DatL.mono e h4⟩
  | .fn q o, y, h => by
    simp only [Dat] at h ⊢
    obtain ⟨a, c, h1, h2, h3⟩ := h
    exact ⟨a, c, h1, e _ _ h2, e _ _ h3⟩
theorem DatL.mono (e : Same G G') : ∀ {ds : List DV} {ys : List V}, DatL W G ds ys → DatL W G' ds ys
  | [], ys, h => by simpa only [DatL] using h
  | d :: ds, ys, h => by
    simp only [DatL] at h ⊢
    obtain ⟨y, r, h1, h2, h3⟩ := h
    exact ⟨y, r, h1, Dat.mono e h2, DatL.mono e h3⟩
end
theorem dat_v {x y : V} : Dat W G (.v x) y ↔ y = x := by simp only [Dat]
theorem dat_v' {x : V} : Dat W G (.v x) x := dat_v.mpr rfl
theorem dat_tup {ds : List DV} {y : V} : Dat W G (.tup ds) y ↔ ∃ a xs, y = .ref a ∧ SqT W.K G a xs ∧ DatL W G ds xs := by simp only [Dat]
theorem dat_lst {ds : List DV} {y : V} : Dat W G (.lst ds) y ↔ ∃ a xs, y = .ref a ∧ G a = some (.lst xs) ∧ DatL W G ds xs := by simp only [Dat]
theorem dat_obj {C : Addr} {ns : List Str} {ds : List DV} {y : V} : Dat W G (.obj C ns ds) y ↔ ∃ a dx xs, y = .ref a ∧ G a = some (.ins C dx (ns.zip xs)) ∧ ns.length = ds.length ∧ DatL W G ds xs := by simp only [Dat]
theorem dat_dk {ks : List Key} {ds : List DV} {y : V} : Dat W G (.dk ks ds) y ↔ ∃ a xs, y = .ref a ∧ Rd G a (.dK (ks.zip xs)) ∧ ks.length = ds.length ∧ DatL W G ds xs := by simp only [Dat]
theorem dat_dl {ks : List Leaf} {ds : List DV} {y : V} : Dat W G (.dl ks ds) y ↔ ∃ a xs, y = .ref a ∧ G a = some (leafO W a (ks.zip xs)) ∧ ks.length = ds.length ∧ DatL W G ds xs := by simp only [Dat]
theorem dat_fn {q : Str} {o : Addr → Addr → HO} {y : V} : Dat W G (.fn q o) y ↔ ∃ a c, y = .ref a ∧ G a = some (o a c) ∧ G c = some (LamX.CodeO c q) := by simp only [Dat]
theorem datL_nil {ys : List V} : DatL W G [] ys ↔ ys = [] := by simp only [DatL]
theorem datL_nil' : DatL W G [] [] := datL_nil.mpr rfl
theorem datL_cons {d : DV} {ds : List DV} {ys : List V} : DatL W G (d :: ds) ys ↔ ∃ y r, ys = y :: r ∧ Dat W G d y ∧ DatL W G ds r := by simp only [DatL]
theorem datL_cons' {d : DV} {ds : List DV} {y : V} {ys : List V} (h : Dat W G d y) (t : DatL W G ds ys) : DatL W G (d :: ds) (y :: ys) := datL_cons.mpr ⟨y, ys, rfl, h, t⟩
theorem DatL.length : ∀ {ds : List DV} {ys : List V}, DatL W G ds ys → ys.length = ds.length
  | [], ys, h => by rw [datL_nil.mp h]; rfl
  | d :: ds, ys, h => by
    obtain ⟨y, r, e, _, t⟩ := datL_cons.mp h
    rw [e, List.length_cons, List.length_cons, DatL.length t]
theorem DatL.append : ∀ {ds es : List DV} {xs ys : List V}, DatL W G ds xs → DatL W G es ys → DatL W G (ds ++ es) (xs ++ ys)
  | [], es, xs, ys, h, k => by rw [datL_nil.mp h]; exact k
  | d :: ds, es, xs, ys, h, k => by
    obtain ⟨y, r, e, a, t⟩ := datL_cons.mp h
    rw [e]
    exact datL_cons' a (DatL.append t k)
theorem DatL.get : ∀ {ds : List DV} {ys : List V} {i : Nat} {d : DV}, DatL W G ds ys → ds[i]? = some d → ∃ y, ys[i]? = some y ∧ Dat W G d y
  | [], ys, i, d, h, e => by simp at e
  | d :: ds, ys, 0, d', h, e => by
    obtain ⟨y, r, e1, a, t⟩ := datL_cons.mp h
    simp at e
    subst e e1
    exact ⟨y, rfl, a⟩
  | d :: ds, ys, i + 1, d', h, e => by
    obtain ⟨y, r, e1, a, t⟩ := datL_cons.mp h
    subst e1
    obtain ⟨z, e2, hz⟩ := DatL.get (i := i) t (by simpa using e)
    exact ⟨z, by simpa using e2, hz⟩
theorem DatL.getV : ∀ {ds : List DV} {ys : List V} {i : Nat} {y : V}, DatL W G ds ys → ys[i]? = some y → ∃ d, ds[i]? = some d ∧ Dat W G d y := fun {ds ys i y} h e => by
  have hl := h.length
  have hi : i < ds.length := by rw [← hl]; exact (List.getElem?_eq_some_iff.mp e).1
  obtain ⟨z, e2, hz⟩ := h.get (List.getElem?_eq_getElem hi)
  rw [e] at e2
  cases e2
  exact ⟨_, List.getElem?_eq_getElem hi, hz⟩
theorem DatL.set : ∀ {ds : List DV} {ys : List V} {d : DV} {y : V} (i : Nat), DatL W G ds ys → Dat W G d y → DatL W G (ds.set i d) (ys.set i y)
  | [], ys, d, y, i, h, k => by rw [datL_nil.mp h]; exact datL_nil'
  | e :: ds, ys, d, y, 0, h, k => by
    obtain ⟨z, r, e1, a, t⟩ := datL_cons.mp h
    subst e1
    exact datL_cons' k t
  | e :: ds, ys, d, y, i + 1, h, k => by
    obtain ⟨z, r, e1, a, t⟩ := datL_cons.mp h
    subst e1
    exact datL_cons' a (DatL.set i t k)
theorem DatL.drop : ∀ {ds : List DV} {ys : List V} (i : Nat), DatL W G ds ys → DatL W G (ds.drop i) (ys.drop i)
  | ds, ys, 0, h => h
  | [], ys, i + 1, h => by rw [datL_nil.mp h]; exact datL_nil'
  | e :: ds, ys, i + 1, h => by
    obtain ⟨z, r, e1, a, t⟩ := datL_cons.mp h
    subst e1
    exact DatL.drop i t
theorem DatL.take : ∀ {ds : List DV} {ys : List V} (i : Nat), DatL W G ds ys → DatL W G (ds.take i) (ys.take i)
  | ds, ys, 0, h => datL_nil'
  | [], ys, i + 1, h => by rw [datL_nil.mp h]; exact datL_nil'
  | e :: ds, ys, i + 1, h => by
    obtain ⟨z, r, e1, a, t⟩ := datL_cons.mp h
    subst e1
    exact datL_cons' a (DatL.take i t)
theorem DatL.reverse : ∀ {ds : List DV} {ys : List V}, DatL W G ds ys → DatL W G ds.reverse ys.reverse
  | [], ys, h => by rw [datL_nil.mp h]; exact datL_nil'
  | e :: ds, ys, h => by
    obtain ⟨z, r, e1, a, t⟩ := datL_cons.mp h
    subst e1
    rw [List.reverse_cons, List.reverse_cons]
    exact (DatL.reverse t).append (datL_cons' a datL_nil')
theorem datL_v : ∀ (xs : List V), DatL W G (xs.map DV.v) xs
  | [] => datL_nil'
  | x :: xs => datL_cons' dat_v' (datL_v xs)
theorem datL_vs : ∀ {xs ys : List V}, DatL W G (xs.map DV.v) ys → ys = xs
  | [], ys, h => datL_nil.mp h
  | x :: xs, ys, h => by
    obtain ⟨y, r, e, a, t⟩ := datL_cons.mp h
    rw [e, dat_v.mp a, datL_vs t]
end
section
variable {W : Wd} {G G' : Hp} {M : Mu} {F H H' : Hp}
theorem MAt.mono (e : Same G G') {a : Addr} : ∀ {o : MO}, MAt W G H a o → MAt W G' H a o
  | .lst ds, ⟨xs, h1, h2⟩ => ⟨xs, h1, h2.mono e⟩
  | .ins C ns ds, ⟨dx, xs, h1, h2, h3⟩ => ⟨dx, xs, h1, h2, h3.mono e⟩
  | .dk ks ds, ⟨xs, h1, h2, h3⟩ => ⟨xs, h1, h2, h3.mono e⟩
  | .dl ks ds, ⟨xs, h1, h2, h3⟩ => ⟨xs, h1, h2, h3.mono e⟩
  | .pre P, ⟨ds, xs, h0, h1, h2⟩ => ⟨ds, xs, h0, h1, h2.mono e⟩
  | .tab q, ⟨ps, h0, h1, h2⟩ => ⟨ps, h0, h1, fun pos cv k => let ⟨c, e1, e2⟩ := h2 pos cv k; ⟨c, e1, e _ _ e2⟩⟩
  | .ext x, h => x.mono e h
theorem MAt.heap {a : Addr} (e : H' a = H a) : ∀ {o : MO}, MAt W G H a o → MAt W G H' a o
  | .lst ds, ⟨xs, h1, h2⟩ => ⟨xs, e.trans h1, h2⟩
  | .ins C ns ds, ⟨dx, xs, h1, h2, h3⟩ => ⟨dx, xs, e.trans h1, h2, h3⟩
  | .dk ks ds, ⟨xs, h1, h2, h3⟩ => ⟨xs, e.trans h1, h2, h3⟩
  | .dl ks ds, ⟨xs, h1, h2, h3⟩ => ⟨xs, e.trans h1, h2, h3⟩
  | .pre P, ⟨ds, xs, h0, h1, h2⟩ => ⟨ds, xs, h0, e.trans h1, h2⟩
  | .tab q, ⟨ps, h0, h1, h2⟩ => ⟨ps, e.trans h0, h1, h2⟩
  | .ext x, h => x.heap e h
theorem MAt.there {a : Addr} : ∀ {o : MO}, MAt W G H a o → ∃ u, H a = some u
  | .lst ds, ⟨xs, h1, h2⟩ => ⟨_, h1⟩
  | .ins C ns ds, ⟨dx, xs, h1, h2, h3⟩ => ⟨_, h1⟩
  | .dk ks ds, ⟨xs, h1, h2, h3⟩ => ⟨_, h1⟩
  | .dl ks ds, ⟨xs, h1, h2, h3⟩ => ⟨_, h1⟩
  | .pre P, ⟨ds, xs, h0, h1, h2⟩ => ⟨_, h1⟩
  | .tab q, ⟨ps, h0, h1, h2⟩ => ⟨_, h0⟩
  | .ext x, h => x.there h
/-- a new frozen object -/
theorem Rep.new {p : Addr} {o : HO} (R : Rep W G M F H) (hp : H p = none) : Rep W (upd G p o) M F (upd H p o) where
  ex := fun a u e => by
    by_cases h : a = p
    · subst h; rw [upd_same] at e ⊢; exact e
    · rw [upd_ne h] at e ⊢; exact R.ex a u e
  fr := fun a u e => by rw [upd_ne (ne_of_none (R.fr a u e) hp)]; exact R.fr a u e
  fd := fun a u e => by rw [upd_ne (ne_of_none (R.fr a u e) hp)]; exact R.fd a u e
  mu := fun a u e => by
    obtain ⟨h1, h2⟩ := R.mu a u e
    obtain ⟨z, hz⟩ := h2.there
    have ne := ne_of_none hz hp
    refine ⟨by rw [upd_ne ne]; exact h1, (h2.mono (G' := upd G p o) ?_).heap (upd_ne ne)⟩
    exact fun b v hb => by rw [upd_ne (ne_of_none (R.ex b v hb) hp)]; exact hb
theorem Rep.gnone {p : Addr} (R : Rep W G M F H) (hp : H p = none) : G p = none := R.ex.free hp
theorem same_new {p : Addr} {o : HO} (hp : G p = none) : Same G (upd G p o) := fun b v hb => by rw [upd_ne (ne_of_none hb hp)]; exact hb
/-- a new object that is dropped -/
theorem Rep.skip {p : Addr} {o : HO} (R : Rep W G M F H) (hp : H p = none) : Rep W G M F (upd H p o) where
  ex := fun a u e => by rw [upd_ne (ne_of_none (R.ex a u e) hp)]; exact R.ex a u e
  fr := fun a u e => by rw [upd_ne (ne_of_none (R.fr a u e) hp)]; exact R.fr a u e
  fd := R.fd
  mu := fun a u e => by
    obtain ⟨h1, h2⟩ := R.mu a u e
    obtain ⟨z, hz⟩ := h2.there
    exact ⟨h1, h2.heap (upd_ne (ne_of_none hz hp))⟩
/-- a new changeable object -/
theorem Rep.newM {p : Addr} {o : HO} {mo : MO} (R : Rep W G M F H) (hp : H p = none) (hm : MAt W G (upd H p o) p mo) : Rep W G (updM M p mo) F (upd H p o) where
  ex := fun a u e => by rw [upd_ne (ne_of_none (R.ex a u e) hp)]; exact R.ex a u e
  fr := fun a u e => by rw [upd_ne (ne_of_none (R.fr a u e) hp)]; exact R.fr a u e
  fd := fun a u e => ⟨(R.fd a u e).1, by rw [updM_ne (ne_of_none (R.fr a u e) hp)]; exact (R.fd a u e).2⟩
  mu := fun a u e => by
    by_cases h : a = p
    · subst h
      rw [updM_same] at e
      cases e
      exact ⟨R.gnone hp, hm⟩
    · rw [updM_ne h] at e
      obtain ⟨h1, h2⟩ := R.mu a u e
      exact ⟨h1, h2.heap (upd_ne h)⟩
theorem Rep.mnone {p : Addr} (R : Rep W G M F H) (hp : H p = none) : M p = none := by
  cases q : M p with
  | none => rfl
  | some o =>
    obtain ⟨z, hz⟩ := (R.mu p o q).2.there
    rw [hp] at hz; cases hz
theorem Rep.fnone {p : Addr} (R : Rep W G M F H) (hp : H p = none) : F p = none := R.fr.free hp
/-- a changeable object is changed -/
theorem Rep.write {p : Addr} {o : HO} {mo mo' : MO} (R : Rep W G M F H) (hp : M p = some mo) (hm : MAt W G (upd H p o) p mo') : Rep W G (updM M p mo') F (upd H p o) where
  ex := fun a u e => by
    have ne : a ≠ p := fun z => by subst z; rw [(R.mu a mo hp).1] at e; cases e
    rw [upd_ne ne]; exact R.ex a u e
  fr := fun a u e => by
    have ne : a ≠ p := fun z => by subst z; rw [(R.fd a u e).2] at hp; cases hp
    rw [upd_ne ne]; exact R.fr a u e
  fd := fun a u e => by
    have ne : a ≠ p := fun z => by subst z; rw [(R.fd a u e).2] at hp; cases hp
    exact ⟨(R.fd a u e).1, by rw [updM_ne ne]; exact (R.fd a u e).2⟩
  mu := fun a u e => by
    by_cases h : a = p
    · subst h
      rw [updM_same] at e
      cases e
      exact ⟨(R.mu a mo hp).1, hm⟩
    · rw [updM_ne h] at e
      obtain ⟨h1, h2⟩ := R.mu a u e
      exact ⟨h1, h2.heap (upd_ne h)⟩
end
abbrev Ro := List (Option DV)
structure EnvOk (W : Wd) (G : Hp) (ρ : Ro) (σ : L2.St) : Prop where
  len : ρ.length = σ.length
  get : ∀ (i : Nat) d, ρ[i]? = some (some d) → ∃ v, σ[i]? = some (some v) ∧ Dat W G d v
section
variable {W : Wd} {G G' : Hp} {ρ : Ro} {σ : L2.St}
theorem EnvOk.mono (e : Same G G') (E : EnvOk W G ρ σ) : EnvOk W G' ρ σ := ⟨E.len, fun i d h => by
  obtain ⟨v, h1, h2⟩ := E.get i d h
  exact ⟨v, h1, h2.mono e⟩⟩
theorem EnvOk.set {i : Nat} {d : DV} {v : V} (E : EnvOk W G ρ σ) (h : Dat W G d v) : EnvOk W G (ρ.set i (some d)) (σ.set i (some v)) := ⟨by simp [E.len], fun j e hj => by
  by_cases q : i = j
  · subst q
    have hl : i < ρ.length := by
      have := (List.getElem?_eq_some_iff.mp hj).1
      simpa using this
    rw [List.getElem?_set_self hl] at hj
    cases hj
    exact ⟨v, List.getElem?_set_self (by rw [← E.len]; exact hl), h⟩
  · rw [List.getElem?_set_ne q] at hj
    obtain ⟨u, h1, h2⟩ := E.get j e hj
    exact ⟨u, by rw [List.getElem?_set_ne q]; exact h1, h2⟩⟩
/-- forgetting -/
theorem EnvOk.weak {ρ' : Ro} (E : EnvOk W G ρ σ) (hl : ρ'.length = ρ.length) (h : ∀ (i : Nat) d, ρ'[i]? = some (some d) → ρ[i]? = some (some d)) : EnvOk W G ρ' σ := ⟨hl.trans E.len, fun i d q => E.get i d (h i d q)⟩
def start2 (N : List Str) (ds : List DV) : Ro := ds.map some ++ List.replicate (N.length - ds.length) none
theorem env_start {N : List Str} {ds : List DV} {vs : List V} (h : DatL W G ds vs) : EnvOk W G (start2 N ds) (L2.start N vs) := by
  have hl := h.length
  refine ⟨by simp [start2, L2.start, hl], fun i d e => ?_⟩
  unfold start2 at e
  unfold L2.start
  by_cases q : i < ds.length
  · rw [List.getElem?_append_left (by simpa using q)] at e
    rw [List.getElem?_append_left (by simpa [hl] using q)]
    rw [List.getElem?_map] at e
    cases z : ds[i]? with
    | none => rw [z] at e; cases e
    | some d' =>
      rw [z] at e
      cases e
      obtain ⟨y, e2, hy⟩ := h.get z
      exact ⟨y, by rw [List.getElem?_map, e2]; rfl, hy⟩
  · rw [List.getElem?_append_right (by simpa using q)] at e
    exfalso
    rw [List.getElem?_replicate] at e
    split at e <;> cases e
end
/-- where a judgement stands: the world, the frozen heap at the beginning, the frame that is kept -/
structure Zn where
  W : Wd
  G : Hp
  F : Hp
abbrev DQ := DV → Mu → Prop
/-- what is wanted of a value, carried over -/
def RetOk (W : Wd) (G F : Hp) (Q2 : DQ) (Q : VK) : Prop := ∀ d v G' M' H', Same G G' → Rep W G' M' F H' → Dat W G' d v → Q2 d M' → Q v H'
def WE (Z : Zn) (te : TE) (ρ : Ro) (M : Mu) (Q2 : DQ) : Prop :=
  ∀ G σ H Q, Same Z.G G → Rep Z.W G M Z.F H → EnvOk Z.W G ρ σ → RetOk Z.W G Z.F Q2 Q → te σ H Q
def WT (Z : Zn) (tt : TT) (ρ : Ro) (M : Mu) (Q2 : Bool → Mu → Prop) : Prop :=
  ∀ G σ H Q, Same Z.G G → Rep Z.W G M Z.F H → EnvOk Z.W G ρ σ → (∀ b G' M' H', Same G G' → Rep Z.W G' M' Z.F H' → Q2 b M' → Q b H') → tt σ H Q
def WA (Z : Zn) (ta : TA) (ρ : Ro) (M : Mu) (Q2 : List DV → Mu → Prop) : Prop :=
  ∀ G σ H Q, Same Z.G G → Rep Z.W G M Z.F H → EnvOk Z.W G ρ σ → (∀ ds vs G' M' H', Same G G' → Rep Z.W G' M' Z.F H' → DatL Z.W G' ds vs → Q2 ds M' → Q vs H') → ta σ H Q
structure Ends2 where
  nx : Ro → Mu → Prop
  rt : DQ
  bk : Ro → Mu → Prop := fun _ _ => False
  ct : Ro → Mu → Prop := fun _ _ => False
def NxOk (W : Wd) (G F : Hp) (P2 : Ro → Mu → Prop) (P : L2.St → Hp → Prop) : Prop := ∀ ρ' σ' G' M' H', Same G G' → Rep W G' M' F H' → EnvOk W G' ρ' σ' → P2 ρ' M' → P σ' H'
structure EndsOk (W : Wd) (G F : Hp) (D2 : Ends2) (D : Ends) : Prop where
  nx : NxOk W G F D2.nx D.nx
  rt : RetOk W G F D2.rt D.rt
  bk : NxOk W G F D2.bk D.bk
  ct : NxOk W G F D2.ct D.ct
def WS (Z : Zn) (ts : TS) (D2 : Ends2) (ρ : Ro) (M : Mu) : Prop :=
  ∀ G σ H D, Same Z.G G → Rep Z.W G M Z.F H → EnvOk Z.W G ρ σ → EndsOk Z.W G Z.F D2 D → ts D σ H
/-- a two-place operation, a one-place one, a call, by values -/
def WR (Z : Zn) (r : R2) (x y : DV) (M : Mu) (Q2 : DQ) : Prop :=
  ∀ G H vx vy Q, Same Z.G G → Rep Z.W G M Z.F H → Dat Z.W G x vx → Dat Z.W G y vy → RetOk Z.W G Z.F Q2 Q → r vx vy H Q
def WU (Z : Zn) (r : V → Hp → VK → Prop) (x : DV) (M : Mu) (Q2 : DQ) : Prop :=
  ∀ G H vx Q, Same Z.G G → Rep Z.W G M Z.F H → Dat Z.W G x vx → RetOk Z.W G Z.F Q2 Q → r vx H Q
def WC (Z : Zn) (r : List V → Hp → VK → Prop) (xs : List DV) (M : Mu) (Q2 : DQ) : Prop :=
  ∀ G H vs Q, Same Z.G G → Rep Z.W G M Z.F H → DatL Z.W G xs vs → RetOk Z.W G Z.F Q2 Q → r vs H Q
section
variable {W : Wd} {Z : Zn} {G G' F : Hp} {ρ : Ro} {σ : L2.St} {M : Mu} {H : Hp} {te ta tb : TE} {tt tu : TT} {ts tr : TS} {tx : TA} {Q2 Q2' : DQ} {D2 : Ends2}
theorem RetOk.mono {Q : VK} (e : Same G G') (h : RetOk W G F Q2 Q) : RetOk W G' F Q2 Q := fun d v G1 M1 H1 s R x q => h d v G1 M1 H1 (e.trans s) R x q
theorem RetOk.imp {Q : VK} (k : ∀ d M', Q2 d M' → Q2' d M') (h : RetOk W G F Q2' Q) : RetOk W G F Q2 Q := fun d v G1 M1 H1 s R x q => h d v G1 M1 H1 s R x (k d M1 q)
theorem NxOk.mono {P2 : Ro → Mu → Prop} {P : L2.St → Hp → Prop} (e : Same G G') (h : NxOk W G F P2 P) : NxOk W G' F P2 P := fun ρ' σ' G1 M1 H1 s R x q => h ρ' σ' G1 M1 H1 (e.trans s) R x q
theorem EndsOk.mono {D : Ends} (e : Same G G') (h : EndsOk W G F D2 D) : EndsOk W G' F D2 D := ⟨h.nx.mono e, h.rt.mono e, h.bk.mono e, h.ct.mono e⟩
theorem WE.imp (h : WE Z te ρ M Q2) (k : ∀ d M', Q2 d M' → Q2' d M') : WE Z te ρ M Q2' := fun G σ H Q s R E r => h G σ H Q s R E (r.imp k)
theorem WA.imp {P P' : List DV → Mu → Prop} (h : WA Z tx ρ M P) (k : ∀ d M', P d M' → P' d M') : WA Z tx ρ M P' := fun G σ H Q s R E r => h G σ H Q s R E fun d v G' M' H' s' R' x q => r d v G' M' H' s' R' x (k d M' q)
theorem we_var {i : Nat} {d : DV} (hi : ρ[i]? = some (some d)) (h : Q2 d M) : WE Z (tVar i) ρ M Q2 := fun G σ H Q s R E r => by
  obtain ⟨v, h1, h2⟩ := E.get i d hi
  exact ⟨v, h1, r d v G M H (Same.refl G) R h2 h⟩
theorem we_c {x : V} (h : Q2 (.v x) M) : WE Z (tC x) ρ M Q2 := fun G σ H Q s R E r => r _ x G M H (Same.refl G) R dat_v' h
theorem we_op {r : R2} (h : WE Z ta ρ M fun x M1 => WE Z tb ρ M1 fun y M2 => WR Z r x y M2 Q2) : WE Z (tOp r ta tb) ρ M Q2 := fun G σ H Q s R E rt =>
  h G σ H _ s R E fun x vx G1 M1 H1 s1 R1 dx h1 => h1 G1 σ H1 _ (s.trans s1) R1 (E.mono s1) fun y vy G2 M2 H2 s2 R2 dy h2 =>
    h2 G2 H2 vx vy Q ((s.trans s1).trans s2) R2 (dx.mono s2) dy (rt.mono (s1.trans s2))
theorem we_un {r : V → Hp → VK → Prop} (h : WE Z ta ρ M fun x M1 => WU Z r x M1 Q2) : WE Z (tUn r ta) ρ M Q2 := fun G σ H Q s R E rt =>
  h G σ H _ s R E fun x vx G1 M1 H1 s1 R1 dx h1 => h1 G1 H1 vx Q (s.trans s1) R1 dx (rt.mono s1)
theorem wr_I0 {g : Int → Int → V} {i j : Int} (h : Q2 (.v (g i j)) M) : WR Z (rI0 g) (.i i) (.i j) M Q2 := fun G H vx vy Q s R dx dy r =>
  ⟨i, j, dat_v.mp dx, dat_v.mp dy, r _ _ G M H (Same.refl G) R dat_v' h⟩
theorem wr_I {C : Int → Int → Prop} {g : Int → Int → V} {i j : Int} (hc : C i j) (h : Q2 (.v (g i j)) M) : WR Z (rI C g) (.i i) (.i j) M Q2 := fun G H vx vy Q s R dx dy r =>
  ⟨i, j, dat_v.mp dx, dat_v.mp dy, hc, r _ _ G M H (Same.refl G) R dat_v' h⟩
theorem wr_eq {x y : V} (hs : scal x y = true) (h : Q2 (.b (decide (x = y))) M) : WR Z rEq (.v x) (.v y) M Q2 := fun G H vx vy Q s R dx dy r => by
  rw [dat_v] at dx dy
  subst dx dy
  exact ⟨hs, r _ _ G M H (Same.refl G) R dat_v' h⟩
theorem wr_ne {x y : V} (hs : scal x y = true) (h : Q2 (.b (!decide (x = y))) M) : WR Z rNe (.v x) (.v y) M Q2 := fun G H vx vy Q s R dx dy r => by
  rw [dat_v] at dx dy
  subst dx dy
  exact ⟨hs, r _ _ G M H (Same.refl G) R dat_v' h⟩
theorem WT.imp {P P' : Bool → Mu → Prop} (h : WT Z tt ρ M P) (k : ∀ b M', P b M' → P' b M') : WT Z tt ρ M P' := fun G σ H Q s R E r => h G σ H Q s R E fun b G' M' H' s' R' q => r b G' M' H' s' R' (k b M' q)
theorem wt_test {P : Bool → Mu → Prop} (h : WE Z te ρ M fun d M' => ∃ b, d = .b b ∧ P b M') : WT Z (tTest te) ρ M P := fun G σ H Q s R E r => by
  refine h G σ H _ s R E fun d v G' M' H' s' R' x q => ?_
  obtain ⟨b, rfl, q⟩ := q
  exact ⟨b, dat_v.mp x, r b G' M' H' s' R' q⟩
theorem wt_B {P : Bool → Mu → Prop} (h : WE Z te ρ M fun d M' => ∃ b, d = .b b ∧ P b M') : WT Z (tB te) ρ M P := wt_test h
theorem wt_and {P : Bool → Mu → Prop} (h : WT Z tt ρ M fun b M1 => if b = true then WT Z tu ρ M1 P else P false M1) : WT Z (tAnd tt tu) ρ M P := fun G σ H Q s R E r =>
  h G σ H _ s R E fun b G1 M1 H1 s1 R1 q => by
    cases b with
    | true => exact q G1 σ H1 Q (s.trans s1) R1 (E.mono s1) fun b G2 M2 H2 s2 R2 q2 => r b G2 M2 H2 (s1.trans s2) R2 q2
    | false => exact r false G1 M1 H1 s1 R1 q
theorem wt_or {P : Bool → Mu → Prop} (h : WT Z tt ρ M fun b M1 => if b = true then P true M1 else WT Z tu ρ M1 P) : WT Z (tOr tt tu) ρ M P := fun G σ H Q s R E r =>
  h G σ H _ s R E fun b G1 M1 H1 s1 R1 q => by
    cases b with
    | false => exact q G1 σ H1 Q (s.trans s1) R1 (E.mono s1) fun b G2 M2 H2 s2 R2 q2 => r b G2 M2 H2 (s1.trans s2) R2 q2
    | true => exact r true G1 M1 H1 s1 R1 q
theorem wt_not {P : Bool → Mu → Prop} (h : WT Z tt ρ M fun b M1 => P (!b) M1) : WT Z (tNot tt) ρ M P := fun G σ H Q s R E r =>
  h G σ H _ s R E fun b G1 M1 H1 s1 R1 q => r (!b) G1 M1 H1 s1 R1 q
theorem wt_yes {P : Bool → Mu → Prop} (h : P true M) : WT Z tYes ρ M P := fun G σ H Q s R E r => r true G M H (Same.refl G) R h
theorem we_andV (h : WE Z ta ρ M fun d M1 => ∃ c, d = .b c ∧ if c = true then WE Z tb ρ M1 Q2 else Q2 (.b false) M1) : WE Z (tAndV ta tb) ρ M Q2 := fun G σ H Q s R E r =>
  h G σ H _ s R E fun d v G1 M1 H1 s1 R1 x q => by
    obtain ⟨c, rfl, q⟩ := q
    refine ⟨c, dat_v.mp x, ?_⟩
    cases c with
    | true => exact q G1 σ H1 Q (s.trans s1) R1 (E.mono s1) (r.mono s1)
    | false => exact r _ _ G1 M1 H1 s1 R1 dat_v' q
theorem we_orV (h : WE Z ta ρ M fun d M1 => ∃ c, d = .b c ∧ if c = true then Q2 (.b true) M1 else WE Z tb ρ M1 Q2) : WE Z (tOrV ta tb) ρ M Q2 := fun G σ H Q s R E r =>
  h G σ H _ s R E fun d v G1 M1 H1 s1 R1 x q => by
    obtain ⟨c, rfl, q⟩ := q
    refine ⟨c, dat_v.mp x, ?_⟩
    cases c with
    | false => exact q G1 σ H1 Q (s.trans s1) R1 (E.mono s1) (r.mono s1)
    | true => exact r _ _ G1 M1 H1 s1 R1 dat_v' q
theorem we_notV (h : WE Z ta ρ M fun d M1 => ∃ c, d = .b c ∧ Q2 (.b (!c)) M1) : WE Z (tNotV ta) ρ M Q2 := fun G σ H Q s R E r =>
  h G σ H _ s R E fun d v G1 M1 H1 s1 R1 x q => by
    obtain ⟨c, rfl, q⟩ := q
    exact ⟨c, dat_v.mp x, r _ _ G1 M1 H1 s1 R1 dat_v' q⟩
theorem we_if (h : WT Z tt ρ M fun b M1 => if b = true then WE Z ta ρ M1 Q2 else WE Z tb ρ M1 Q2) : WE Z (tIf tt ta tb) ρ M Q2 := fun G σ H Q s R E r =>
  h G σ H _ s R E fun b G1 M1 H1 s1 R1 q => by
    cases b with
    | true => exact q G1 σ H1 Q (s.trans s1) R1 (E.mono s1) (r.mono s1)
    | false => exact q G1 σ H1 Q (s.trans s1) R1 (E.mono s1) (r.mono s1)
theorem wa_nil {P : List DV → Mu → Prop} (h : P [] M) : WA Z tNil ρ M P := fun G σ H Q s R E r => r [] [] G M H (Same.refl G) R datL_nil' h
theorem wa_cons {P : List DV → Mu → Prop} (h : WE Z te ρ M fun d M1 => WA Z tx ρ M1 fun ds M2 => P (d :: ds) M2) : WA Z (tCons te tx) ρ M P := fun G σ H Q s R E r =>
  h G σ H _ s R E fun d v G1 M1 H1 s1 R1 x q => q G1 σ H1 _ (s.trans s1) R1 (E.mono s1) fun ds vs G2 M2 H2 s2 R2 xs q2 =>
    r (d :: ds) (v :: vs) G2 M2 H2 (s1.trans s2) R2 (datL_cons' (x.mono s2) xs) q2
theorem we_tup (h : WA Z tx ρ M fun ds M1 => ds.length ≤ sizeLine ∧ Q2 (.tup ds) M1) : WE Z (tTup tx) ρ M Q2 := fun G σ H Q s R E r =>
  h G σ H _ s R E fun ds vs G1 M1 H1 s1 R1 x q => ⟨by rw [x.length]; exact q.1, fun p hp =>
    r _ _ (upd G1 p (.tup vs)) M1 _ (s1.trans (same_new (R1.gnone hp))) (R1.new hp) (dat_tup.mpr ⟨p, vs, rfl, SqT.of upd_same, x.mono (same_new (R1.gnone hp))⟩) q.2⟩
theorem we_lst (h : WA Z tx ρ M fun ds M1 => ds.length ≤ sizeLine ∧ Q2 (.lst ds) M1) : WE Z (tLst tx) ρ M Q2 := fun G σ H Q s R E r =>
  h G σ H _ s R E fun ds vs G1 M1 H1 s1 R1 x q => ⟨by rw [x.length]; exact q.1, fun p hp =>
    r _ _ (upd G1 p (.lst vs)) M1 _ (s1.trans (same_new (R1.gnone hp))) (R1.new hp) (dat_lst.mpr ⟨p, vs, rfl, upd_same, x.mono (same_new (R1.gnone hp))⟩) q.2⟩
/-- a new list that may change -/
theorem we_lstM (h : WA Z tx ρ M fun ds M1 => ds.length ≤ sizeLine ∧ ∀ p, M1 p = none → Q2 (.r p) (updM M1 p (.lst ds))) : WE Z (tLst tx) ρ M Q2 := fun G σ H Q s R E r =>
  h G σ H _ s R E fun ds vs G1 M1 H1 s1 R1 x q => ⟨by rw [x.length]; exact q.1, fun p hp =>
    r _ _ G1 _ _ s1 (R1.newM (mo := .lst ds) hp ⟨vs, upd_same, x⟩) dat_v' (q.2 p (R1.mnone hp))⟩
theorem we_cb {r : List V → Hp → VK → Prop} (h : WA Z tx ρ M fun ds M1 => WC Z r ds M1 Q2) : WE Z (tCB r tx) ρ M Q2 := fun G σ H Q s R E rt =>
  h G σ H _ s R E fun ds vs G1 M1 H1 s1 R1 x q => q G1 H1 vs Q (s.trans s1) R1 x (rt.mono s1)
theorem ws_next (h : D2.nx ρ M) : WS Z tNext D2 ρ M := fun G σ H D s R E e => e.nx ρ σ G M H (Same.refl G) R E h
theorem WS.imp {D2' : Ends2} (h : WS Z ts D2 ρ M) (hn : ∀ ρ' M', D2.nx ρ' M' → D2'.nx ρ' M') (hr : ∀ d M', D2.rt d M' → D2'.rt d M') (hb : ∀ ρ' M', D2.bk ρ' M' → D2'.bk ρ' M') (hc : ∀ ρ' M', D2.ct ρ' M' → D2'.ct ρ' M') : WS Z ts D2' ρ M :=
  fun G σ H D s R E e => h G σ H D s R E ⟨fun ρ' σ' G' M' H' s' R' E' q => e.nx ρ' σ' G' M' H' s' R' E' (hn _ _ q), fun d v G' M' H' s' R' x q => e.rt d v G' M' H' s' R' x (hr _ _ q), fun ρ' σ' G' M' H' s' R' E' q => e.bk ρ' σ' G' M' H' s' R' E' (hb _ _ q), fun ρ' σ' G' M' H' s' R' E' q => e.ct ρ' σ' G' M' H' s' R' E' (hc _ _ q)⟩
theorem ws_seq (h : WS Z ts { D2 with nx := fun ρ' M' => WS Z tr D2 ρ' M' } ρ M) : WS Z (tSeq ts tr) D2 ρ M := fun G σ H D s R E e =>
  h G σ H _ s R E ⟨fun ρ' σ' G' M' H' s' R' E' q => q G' σ' H' D (s.trans s') R' E' (e.mono s'), e.rt, e.bk, e.ct⟩
theorem ws_drop (h : WE Z te ρ M fun _ M1 => D2.nx ρ M1) : WS Z (tDrop te) D2 ρ M := fun G σ H D s R E e =>
  h G σ H _ s R E fun d v G1 M1 H1 s1 R1 x q => e.nx ρ σ G1 M1 H1 s1 R1 (E.mono s1) q
theorem ws_ret (h : WE Z te ρ M D2.rt) : WS Z (tRet te) D2 ρ M := fun G σ H D s R E e => h G σ H _ s R E e.rt
theorem ws_retN (h : D2.rt .n M) : WS Z tRetN D2 ρ M := fun G σ H D s R E e => e.rt _ _ G M H (Same.refl G) R dat_v' h
theorem ws_if (h : WT Z tt ρ M fun b M1 => if b = true then WS Z ts D2 ρ M1 else WS Z tr D2 ρ M1) : WS Z (tIfS tt ts tr) D2 ρ M := fun G σ H D s R E e =>
  h G σ H _ s R E fun b G1 M1 H1 s1 R1 q => by
    cases b with
    | true => exact q G1 σ H1 D (s.trans s1) R1 (E.mono s1) (e.mono s1)
    | false => exact q G1 σ H1 D (s.trans s1) R1 (E.mono s1) (e.mono s1)
def WG (Z : Zn) (g : TG) (d : DV) (ρ : Ro) (M : Mu) (P2 : Ro → Mu → Prop) : Prop :=
  ∀ G σ H v P, Same Z.G G → Rep Z.W G M Z.F H → EnvOk Z.W G ρ σ → Dat Z.W G d v → NxOk Z.W G Z.F P2 P → g v σ H P
def WGs (Z : Zn) (g : TGs) (ds : List DV) (ρ : Ro) (M : Mu) (P2 : Ro → Mu → Prop) : Prop :=
  ∀ G σ H vs P, Same Z.G G → Rep Z.W G M Z.F H → EnvOk Z.W G ρ σ → DatL Z.W G ds vs → NxOk Z.W G Z.F P2 P → g vs σ H P
theorem wg_name {i : Nat} {d : DV} {P2 : Ro → Mu → Prop} (h : P2 (ρ.set i (some d)) M) : WG Z (gName i) d ρ M P2 := fun G σ H v P s R E x n =>
  n _ _ G M H (Same.refl G) R (E.set x) h
theorem wgs_nil {P2 : Ro → Mu → Prop} (h : P2 ρ M) : WGs Z gNil [] ρ M P2 := fun G σ H vs P s R E x n => ⟨datL_nil.mp x, n _ _ G M H (Same.refl G) R E h⟩
theorem wgs_cons {g : TG} {gs : TGs} {d : DV} {ds : List DV} {P2 : Ro → Mu → Prop} (h : WG Z g d ρ M fun ρ1 M1 => WGs Z gs ds ρ1 M1 P2) : WGs Z (gCons g gs) (d :: ds) ρ M P2 := fun G σ H vs P s R E x n => by
  obtain ⟨v, r, e, hv, hr⟩ := datL_cons.mp x
  exact ⟨v, r, e, h G σ H v _ s R E hv fun ρ1 σ1 G1 M1 H1 s1 R1 E1 q => q G1 σ1 H1 r P (s.trans s1) R1 E1 (hr.mono s1) (n.mono s1)⟩
theorem wg_tup {n : Nat} {gs : TGs} {ds : List DV} {P2 : Ro → Mu → Prop} (hn : ds.length = n) (h : WGs Z gs ds ρ M P2) : WG Z (gTup Z.W.K n gs) (.tup ds) ρ M P2 := fun G σ H v P s R E x k => by
  obtain ⟨a, xs, e, h1, h2⟩ := dat_tup.mp x
  exact ⟨a, xs, e, sqt_mono R.ex h1, by rw [h2.length]; exact hn, h G σ H xs P s R E h2 k⟩
theorem ws_asg {g : TG} (h : WE Z te ρ M fun d M1 => WG Z g d ρ M1 D2.nx) : WS Z (tAsg te g) D2 ρ M := fun G σ H D s R E e =>
  h G σ H _ s R E fun d v G1 M1 H1 s1 R1 x q => q G1 σ H1 v _ (s.trans s1) R1 (E.mono s1) x (e.nx.mono s1)
theorem ws_set {i : Nat} (h : WE Z te ρ M fun d M1 => D2.nx (ρ.set i (some d)) M1) : WS Z (tAsg te (gName i)) D2 ρ M := ws_asg (h.imp fun d M' q => wg_name q)
end
end DL
set_option Elab.async false
set_option linter.all false
set_option maxRecDepth 100000
set_option maxHeartbeats 2000000
namespace DL
open PySem PySem.Spec PyProof.Rows L2
def LstOf (M : Mu) (d : DV) (ds : List DV) : Prop := d = .lst ds ∨ ∃ a, d = .r a ∧ M a = some (.lst ds)
theorem LstOf.mu {M : Mu} {a : Addr} {ds : List DV} (h : M a = some (.lst ds)) : LstOf M (.r a) ds := .inr ⟨a, rfl, h⟩
def SqOf (M : Mu) (d : DV) (ds : List DV) : Prop := LstOf M d ds ∨ d = .tup ds
theorem SqOf.mu {M : Mu} {a : Addr} {ds : List DV} (h : M a = some (.lst ds)) : SqOf M (.r a) ds := .inl (.mu h)
section
variable {W : Wd} {Z : Zn} {G G' F : Hp} {ρ : Ro} {σ : L2.St} {M : Mu} {H : Hp} {te ta tb tc : TE} {tt tu : TT} {ts tr : TS} {tx : TA} {Q2 Q2' : DQ} {D2 : Ends2} {d e x y : DV} {ds es : List DV} {v : V}
theorem lst_at (R : Rep W G M F H) (h : Dat W G d v) (l : LstOf M d ds) : ∃ a xs, v = .ref a ∧ H a = some (.lst xs) ∧ DatL W G ds xs := by
  rcases l with rfl | ⟨a, rfl, hm⟩
  · obtain ⟨a, xs, h1, h2, h3⟩ := dat_lst.mp h
    exact ⟨a, xs, h1, R.ex _ _ h2, h3⟩
  · obtain ⟨xs, h1, h2⟩ := (R.mu a _ hm).2
    exact ⟨a, xs, dat_v.mp h, h1, h2⟩
theorem sq_at {K : PySem.W.Frag} (hK : K = W.K) (R : Rep W G M F H) (h : Dat W G d v) (l : SqOf M d ds) : ∃ a xs, v = .ref a ∧ (SqL K H a xs ∨ SqT K H a xs) ∧ DatL W G ds xs := by
  subst hK
  rcases l with l | rfl
  · obtain ⟨a, xs, h1, h2, h3⟩ := lst_at R h l
    exact ⟨a, xs, h1, .inl (SqL.of h2), h3⟩
  · obtain ⟨a, xs, h1, h2, h3⟩ := dat_tup.mp h
    exact ⟨a, xs, h1, .inr (sqt_mono R.ex h2), h3⟩
theorem atI_dat {xs : List V} {k : Int} (h : DatL W G ds xs) (e1 : atI ds k = some e) : ∃ y, atI xs k = some y ∧ Dat W G e y := by
  unfold atI at e1 ⊢
  rw [h.length]
  cases q : ixN ds.length k with
  | none => rw [q] at e1; cases e1
  | some j =>
    rw [q] at e1
    obtain ⟨y, h1, h2⟩ := h.get (i := j) e1
    exact ⟨y, h1, h2⟩
theorem wr_ixL {k : Int} (l : LstOf M d ds) (h1 : atI ds k = some e) (h : Q2 e M) : WR Z (rIxL Z.W.K) d (.i k) M Q2 := fun G H vx vy Q s R dx dy r => by
  obtain ⟨a, xs, e1, e2, e3⟩ := lst_at R dx l
  obtain ⟨y, h2, h3⟩ := atI_dat e3 h1
  exact ⟨a, xs, k, y, e1, dat_v.mp dy, SqL.of e2, h2, r _ _ G M H (Same.refl G) R h3 h⟩
theorem wr_ixT {k : Int} (h1 : atI ds k = some e) (h : Q2 e M) : WR Z (rIxT Z.W.K) (.tup ds) (.i k) M Q2 := fun G H vx vy Q s R dx dy r => by
  obtain ⟨a, xs, e1, e2, e3⟩ := dat_tup.mp dx
  obtain ⟨y, h2, h3⟩ := atI_dat e3 h1
  exact ⟨a, xs, k, y, e1, dat_v.mp dy, sqt_mono R.ex e2, h2, r _ _ G M H (Same.refl G) R h3 h⟩
theorem wr_ixS {z : Str} {k : Int} {c : Nat} (hz : z.length ≤ sizeLine) (h1 : atI z.cps.toList k = some c) (h : Q2 (.s ⟨#[c]⟩) M) : WR Z rIxS (.s z) (.i k) M Q2 := fun G H vx vy Q s R dx dy r =>
  ⟨z, k, c, dat_v.mp dx, dat_v.mp dy, hz, h1, r _ _ G M H (Same.refl G) R dat_v' h⟩
theorem wc_len (l : SqOf M d ds) (h : Q2 (.i (ds.length : Nat)) M) : WC Z (fun xs H Q => ∃ p ys, xs = [.ref p] ∧ (SqL Z.W.K H p ys ∨ SqT Z.W.K H p ys) ∧ Q (.int ys.length) H) [d] M Q2 := fun G H vs Q s R x r => by
  obtain ⟨y, rr, e1, h1, h2⟩ := datL_cons.mp x
  rw [datL_nil.mp h2] at e1
  obtain ⟨a, xs, e2, e3, e4⟩ := sq_at rfl R h1 l
  subst e1 e2
  refine ⟨a, xs, rfl, e3, ?_⟩
  rw [e4.length]
  exact r _ _ G M H (Same.refl G) R dat_v' h
theorem one_of {xs : List V} (h : DatL W G [d] xs) : ∃ y, xs = [y] ∧ Dat W G d y := by
  obtain ⟨y, rr, e1, h1, h2⟩ := datL_cons.mp h
  rw [datL_nil.mp h2] at e1
  exact ⟨y, e1, h1⟩
theorem two_of {xs : List V} (h : DatL W G [d, e] xs) : ∃ y z, xs = [y, z] ∧ Dat W G d y ∧ Dat W G e z := by
  obtain ⟨y, rr, e1, h1, h2⟩ := datL_cons.mp h
  obtain ⟨z, e2, h3⟩ := one_of h2
  subst e2
  exact ⟨y, z, e1, h1, h3⟩
theorem wc_lenS {z : Str} (hz : z.length ≤ sizeLine) (h : Q2 (.i (z.length : Nat)) M) : WC Z (fun xs H Q => ∃ z, xs = [.str z] ∧ z.length ≤ sizeLine ∧ Q (.int z.length) H) [.s z] M Q2 := fun G H vs Q s R x r => by
  obtain ⟨y, e1, h1⟩ := one_of x
  rw [dat_v.mp h1] at e1
  exact ⟨z, e1, hz, r _ _ G M H (Same.refl G) R dat_v' h⟩
/-- list(..): frozen -/
theorem wc_list (l : SqOf M d ds) (h : Q2 (.lst ds) M) : WC Z (fun xs H Q => ∃ p ys, xs = [.ref p] ∧ (SqL Z.W.K H p ys ∨ SqT Z.W.K H p ys) ∧ ∀ l, H l = none → Q (.ref l) (upd H l (.lst ys))) [d] M Q2 := fun G H vs Q s R x r => by
  obtain ⟨y, e1, h1⟩ := one_of x
  obtain ⟨a, xs, e2, e3, e4⟩ := sq_at rfl R h1 l
  subst e1 e2
  exact ⟨a, xs, rfl, e3, fun p hp => r _ _ (upd G p (.lst xs)) M _ (same_new (R.gnone hp)) (R.new hp) (dat_lst.mpr ⟨p, xs, rfl, upd_same, e4.mono (same_new (R.gnone hp))⟩) h⟩
/-- list(..): may change -/
theorem wc_listM (l : SqOf M d ds) (h : ∀ p, M p = none → Q2 (.r p) (updM M p (.lst ds))) : WC Z (fun xs H Q => ∃ p ys, xs = [.ref p] ∧ (SqL Z.W.K H p ys ∨ SqT Z.W.K H p ys) ∧ ∀ l, H l = none → Q (.ref l) (upd H l (.lst ys))) [d] M Q2 := fun G H vs Q s R x r => by
  obtain ⟨y, e1, h1⟩ := one_of x
  obtain ⟨a, xs, e2, e3, e4⟩ := sq_at rfl R h1 l
  subst e1 e2
  exact ⟨a, xs, rfl, e3, fun p hp => r _ _ G _ _ (Same.refl G) (R.newM (mo := .lst ds) hp ⟨xs, upd_same, e4⟩) dat_v' (h p (R.mnone hp))⟩
theorem wc_tuple (l : SqOf M d ds) (h : Q2 (.tup ds) M) : WC Z (fun xs H Q => ∃ p ys, xs = [.ref p] ∧ ((SqL Z.W.K H p ys ∧ ∀ l, H l = none → Q (.ref l) (upd H l (.tup ys))) ∨ (SqT Z.W.K H p ys ∧ Q (.ref p) H))) [d] M Q2 := fun G H vs Q s R x r => by
  obtain ⟨y, e1, h1⟩ := one_of x
  subst e1
  rcases l with l | rfl
  · obtain ⟨a, xs, e2, e3, e4⟩ := lst_at R h1 l
    subst e2
    exact ⟨a, xs, rfl, .inl ⟨SqL.of e3, fun p hp => r _ _ (upd G p (.tup xs)) M _ (same_new (R.gnone hp)) (R.new hp) (dat_tup.mpr ⟨p, xs, rfl, SqT.of upd_same, e4.mono (same_new (R.gnone hp))⟩) h⟩⟩
  · obtain ⟨a, xs, e2, e3, e4⟩ := dat_tup.mp h1
    subst e2
    exact ⟨a, xs, rfl, .inr ⟨sqt_mono R.ex e3, r _ _ G M H (Same.refl G) R h1 h⟩⟩
def WM (Z : Zn) (r : V → List V → Hp → VK → Prop) (x : DV) (xs : List DV) (M : Mu) (Q2 : DQ) : Prop :=
  ∀ G H vx vs Q, Same Z.G G → Rep Z.W G M Z.F H → Dat Z.W G x vx → DatL Z.W G xs vs → RetOk Z.W G Z.F Q2 Q → r vx vs H Q
def TyOk (W : Wd) (T : String) (M : Mu) (d : DV) : Prop := ∀ G F H v, Rep W G M F H → Dat W G d v → tyV W.K T v H
theorem tyOk_lst (l : LstOf M d ds) : TyOk W "list" M d := fun G F H v R h => by
  obtain ⟨a, xs, e1, e2, e3⟩ := lst_at R h l
  subst e1
  exact .inl ⟨rfl, xs, SqL.of e2⟩
theorem tyOk_str {z : Str} : TyOk W "str" M (.s z) := fun G F H v R h => by
  rw [dat_v.mp h]
  rfl
theorem we_bm {T : String} {r : V → List V → Hp → VK → Prop} (h : WE Z te ρ M fun d M1 => TyOk Z.W T M1 d ∧ WA Z tx ρ M1 fun ds M2 => WM Z r d ds M2 Q2) : WE Z (tBM Z.W.K T r te tx) ρ M Q2 := fun G σ H Q s R E rt =>
  h G σ H _ s R E fun d v G1 M1 H1 s1 R1 x q => ⟨q.1 G1 Z.F H1 v R1 x, q.2 G1 σ H1 _ (s.trans s1) R1 (E.mono s1) fun ds vs G2 M2 H2 s2 R2 xs q2 =>
    q2 G2 H2 v vs Q ((s.trans s1).trans s2) R2 (x.mono s2) xs (rt.mono (s1.trans s2))⟩
theorem we_bm0 {T : String} {r : V → List V → Hp → VK → Prop} (h : WE Z te ρ M fun d M1 => TyOk Z.W T M1 d ∧ WM Z r d [] M1 Q2) : WE Z (tBM0 Z.W.K T r te) ρ M Q2 := fun G σ H Q s R E rt =>
  h G σ H _ s R E fun d v G1 M1 H1 s1 R1 x q => ⟨q.1 G1 Z.F H1 v R1 x, q.2 G1 H1 v [] Q (s.trans s1) R1 x datL_nil' (rt.mono s1)⟩
theorem wm_append {a : Addr} (hm : M a = some (.lst ds)) (hz : ds.length < sizeLine) (h : Q2 .n (updM M a (.lst (ds ++ [e])))) : WM Z rAppend (.r a) [e] M Q2 := fun G H vx vs Q s R x xs r => by
  obtain ⟨y, e1, h1⟩ := one_of xs
  obtain ⟨ys, h2, h3⟩ := (R.mu a _ hm).2
  refine ⟨a, ys, y, dat_v.mp x, e1, h2, by rw [h3.length]; exact hz, ?_⟩
  exact r _ _ G _ _ (Same.refl G) (R.write (mo' := .lst (ds ++ [e])) hm ⟨_, upd_same, h3.append (datL_cons' h1 datL_nil')⟩) dat_v' h
theorem wm_extend {a : Addr} (hm : M a = some (.lst ds)) (l : LstOf M e es) (hz : ds.length + es.length ≤ sizeLine) (h : Q2 .n (updM M a (.lst (ds ++ es)))) : WM Z rExtend (.r a) [e] M Q2 := fun G H vx vs Q s R x xs r => by
  obtain ⟨y, e1, h1⟩ := one_of xs
  obtain ⟨ys, h2, h3⟩ := (R.mu a _ hm).2
  obtain ⟨b, zs, e2, e3, e4⟩ := lst_at R h1 l
  subst e2
  refine ⟨a, b, ys, zs, dat_v.mp x, e1, h2, e3, by rw [h3.length, e4.length]; exact hz, ?_⟩
  exact r _ _ G _ _ (Same.refl G) (R.write (mo' := .lst (ds ++ es)) hm ⟨_, upd_same, h3.append e4⟩) dat_v' h
theorem wr_cat (l : LstOf M x ds) (k : LstOf M y es) (hz : ds.length + es.length ≤ sizeLine) (h : Q2 (.lst (ds ++ es)) M) : WR Z rCat x y M Q2 := fun G H vx vy Q s R dx dy r => by
  obtain ⟨a, xs, e1, e2, e3⟩ := lst_at R dx l
  obtain ⟨b, ys, f1, f2, f3⟩ := lst_at R dy k
  exact ⟨a, b, xs, ys, e1, f1, e2, f2, by rw [e3.length, f3.length]; exact hz, fun p hp =>
    r _ _ (upd G p (.lst (xs ++ ys))) M _ (same_new (R.gnone hp)) (R.new hp) (dat_lst.mpr ⟨p, _, rfl, upd_same, (e3.append f3).mono (same_new (R.gnone hp))⟩) h⟩
theorem datL_flat {xs : List V} (h : DatL W G ds xs) : ∀ n : Nat, DatL W G (List.replicate n ds).flatten (List.replicate n xs).flatten
  | 0 => datL_nil'
  | n + 1 => by
    rw [List.replicate_succ, List.replicate_succ, List.flatten_cons, List.flatten_cons]
    exact h.append (datL_flat h n)
theorem wr_rep {k : Int} (l : LstOf M x ds) (h1 : -(2 ^ 63) ≤ k) (h2 : k < 2 ^ 63) (hz : ds.length * k.toNat ≤ sizeLine) (h : Q2 (.lst (List.replicate k.toNat ds).flatten) M) : WR Z rRep x (.i k) M Q2 := fun G H vx vy Q s R dx dy r => by
  obtain ⟨a, xs, e1, e2, e3⟩ := lst_at R dx l
  exact ⟨a, k, xs, e1, dat_v.mp dy, e2, h1, h2, by rw [e3.length]; exact hz, fun p hp =>
    r _ _ (upd G p _) M _ (same_new (R.gnone hp)) (R.new hp) (dat_lst.mpr ⟨p, _, rfl, upd_same, (datL_flat e3 _).mono (same_new (R.gnone hp))⟩) h⟩
/-- an optional bound -/
def WO (Z : Zn) (t : TO) (ρ : Ro) (M : Mu) (Q2 : Option Int → Mu → Prop) : Prop :=
  ∀ G σ H Q, Same Z.G G → Rep Z.W G M Z.F H → EnvOk Z.W G ρ σ → (∀ o G' M' H', Same G G' → Rep Z.W G' M' Z.F H' → Q2 o M' → Q o H') → t σ H Q
theorem wo_none {P : Option Int → Mu → Prop} (h : P none M) : WO Z tNoPart ρ M P := fun G σ H Q s R E r => r none G M H (Same.refl G) R h
theorem wo_some {P : Option Int → Mu → Prop} (h : WE Z te ρ M fun d M1 => ∃ i, d = .i i ∧ P (some i) M1) : WO Z (tPart te) ρ M P := fun G σ H Q s R E r =>
  h G σ H _ s R E fun d v G1 M1 H1 s1 R1 x q => by
    obtain ⟨i, rfl, q⟩ := q
    exact ⟨i, dat_v.mp x, r _ G1 M1 H1 s1 R1 q⟩
def WL (Z : Zn) (r : V → Option Int → Option Int → Hp → VK → Prop) (x : DV) (lo hi : Option Int) (M : Mu) (Q2 : DQ) : Prop :=
  ∀ G H vx Q, Same Z.G G → Rep Z.W G M Z.F H → Dat Z.W G x vx → RetOk Z.W G Z.F Q2 Q → r vx lo hi H Q
theorem we_sl {r : V → Option Int → Option Int → Hp → VK → Prop} {tl th : TO} (h : WE Z te ρ M fun d M1 => WO Z tl ρ M1 fun lo M2 => WO Z th ρ M2 fun hi M3 => WL Z r d lo hi M3 Q2) : WE Z (tSl r te tl th) ρ M Q2 := fun G σ H Q s R E rt =>
  h G σ H _ s R E fun d v G1 M1 H1 s1 R1 x q => q G1 σ H1 _ (s.trans s1) R1 (E.mono s1) fun lo G2 M2 H2 s2 R2 q2 => q2 G2 σ H2 _ ((s.trans s1).trans s2) R2 ((E.mono s1).mono s2) fun hi G3 M3 H3 s3 R3 q3 =>
    q3 G3 H3 v Q (((s.trans s1).trans s2).trans s3) R3 ((x.mono s2).mono s3) (rt.mono ((s1.trans s2).trans s3))
def cutD {α : Type} (xs : List α) (lo hi : Option Int) : List α := (xs.drop (HT.sIx xs.length 0 lo)).take (HT.sIx xs.length xs.length hi - HT.sIx xs.length 0 lo)
theorem datL_cut {xs : List V} (lo hi : Option Int) (h : DatL W G ds xs) : DatL W G (cutD ds lo hi) (cutV xs lo hi) := by
  unfold cutD cutV
  rw [h.length]
  exact (h.drop _).take _
theorem wl_list {lo hi : Option Int} (l : LstOf M x ds) (h : Q2 (.lst (cutD ds lo hi)) M) : WL Z (rSlL Z.W.K) x lo hi M Q2 := fun G H vx Q s R dx r => by
  obtain ⟨a, xs, e1, e2, e3⟩ := lst_at R dx l
  exact ⟨a, xs, e1, SqL.of e2, fun p hp =>
    r _ _ (upd G p _) M _ (same_new (R.gnone hp)) (R.new hp) (dat_lst.mpr ⟨p, _, rfl, upd_same, (datL_cut lo hi e3).mono (same_new (R.gnone hp))⟩) h⟩
/-- of a thing that stands in the frozen heap at the beginning (the script) -/
theorem wl_list0 {lo hi : Option Int} {a : Addr} {xs : List V} (hs : SqL Z.W.K Z.G a xs) (h : Q2 (.lst ((cutV xs lo hi).map DV.v)) M) : WL Z (rSlL Z.W.K) (.r a) lo hi M Q2 := fun G H vx Q s R dx r =>
  ⟨a, xs, dat_v.mp dx, sql_mono R.ex (sql_mono s hs), fun p hp =>
    r _ _ (upd G p _) M _ (same_new (R.gnone hp)) (R.new hp) (dat_lst.mpr ⟨p, _, rfl, upd_same, datL_v _⟩) h⟩
theorem we_chain {r r' : R2} (h : WE Z ta ρ M fun x M1 => WE Z tb ρ M1 fun y M2 => WR Z r x y M2 fun z M3 => ∃ k, z = .b k ∧ if k = true then WE Z tc ρ M3 fun w M4 => WR Z r' y w M4 Q2 else Q2 (.b false) M3) : WE Z (tChain r r' ta tb tc) ρ M Q2 := fun G σ H Q s R E rt =>
  h G σ H _ s R E fun x vx G1 M1 H1 s1 R1 dx h1 => h1 G1 σ H1 _ (s.trans s1) R1 (E.mono s1) fun y vy G2 M2 H2 s2 R2 dy h2 =>
    h2 G2 H2 vx vy _ ((s.trans s1).trans s2) R2 (dx.mono s2) dy fun z vz G3 M3 H3 s3 R3 dz h3 => by
      obtain ⟨k, rfl, h3⟩ := h3
      refine ⟨k, dat_v.mp dz, ?_⟩
      cases k with
      | false => exact rt _ _ G3 M3 H3 ((s1.trans s2).trans s3) R3 dat_v' h3
      | true =>
        refine h3 G3 σ H3 _ (((s.trans s1).trans s2).trans s3) R3 (((E.mono s1).mono s2).mono s3) fun w vw G4 M4 H4 s4 R4 dw h4 => ?_
        exact h4 G4 H4 vy vw Q ((((s.trans s1).trans s2).trans s3).trans s4) R4 ((dy.mono s3).mono s4) dw (rt.mono (((s1.trans s2).trans s3).trans s4))
theorem datL_bl : ∀ {bs : List Bool} {xs : List V}, DatL W G (bs.map DV.b) xs → xs = bs.map V.bl
  | [], xs, h => datL_nil.mp h
  | b :: bs, xs, h => by
    obtain ⟨y, r, e1, h1, h2⟩ := datL_cons.mp h
    rw [e1, dat_v.mp h1, datL_bl h2]
    rfl
theorem datL_int : ∀ {bs : List Int} {xs : List V}, DatL W G (bs.map DV.i) xs → xs = bs.map V.int
  | [], xs, h => datL_nil.mp h
  | b :: bs, xs, h => by
    obtain ⟨y, r, e1, h1, h2⟩ := datL_cons.mp h
    rw [e1, dat_v.mp h1, datL_int h2]
    rfl
theorem datL_str : ∀ {bs : List Str} {xs : List V}, DatL W G (bs.map DV.s) xs → xs = bs.map V.str
  | [], xs, h => datL_nil.mp h
  | b :: bs, xs, h => by
    obtain ⟨y, r, e1, h1, h2⟩ := datL_cons.mp h
    rw [e1, dat_v.mp h1, datL_str h2]
    rfl
theorem wc_all {bs : List Bool} (l : LstOf M d (bs.map DV.b)) (h : Q2 (.b (bs.all id)) M) : WC Z (rAll Z.W.K) [d] M Q2 := fun G H vs Q s R x r => by
  obtain ⟨y, e1, h1⟩ := one_of x
  obtain ⟨a, xs, e2, e3, e4⟩ := lst_at R h1 l
  rw [datL_bl e4] at e3
  subst e1 e2
  exact ⟨a, bs, rfl, SqL.of e3, r _ _ G M H (Same.refl G) R dat_v' h⟩
end
end DL
set_option Elab.async false
set_option linter.all false
set_option maxRecDepth 100000
set_option maxHeartbeats 2000000
namespace DL
open PySem PySem.Spec PyProof.Rows L2
def MO.frz : MO → DV
  | .lst ds => .lst ds
  | .ins C ns ds => .obj C ns ds
  | .dk ks ds => .dk ks ds
  | .dl ks ds => .dl ks ds
  | .pre _ => .n
  | .tab _ => .n
  | .ext _ => .n
def MO.solid : MO → Prop
  | .pre _ => False
  | .tab _ => False
  | .ext _ => False
  | _ => True
section
variable {W : Wd} {Z : Zn} {G G' F : Hp} {ρ : Ro} {σ : L2.St} {M : Mu} {H : Hp} {te ta tb tc : TE} {tt tu : TT} {ts tr : TS} {tx : TA} {Q2 Q2' : DQ} {D2 : Ends2} {d e x y : DV} {ds es : List DV} {v : V}
theorem Rep.freeze {a : Addr} {mo : MO} (R : Rep W G M F H) (hm : M a = some mo) (so : mo.solid) : ∃ G', Same G G' ∧ Rep W G' (delM M a) F H ∧ Dat W G' mo.frz (.ref a) := by
  obtain ⟨g0, at_⟩ := R.mu a mo hm
  have fa : F a = none := by
    cases q : F a with
    | none => rfl
    | some o => rw [(R.fd a o q).2] at hm; cases hm
  have main : ∀ u, H a = some u → Rep W (upd G a u) (delM M a) F H := fun u hu => {
    ex := fun b o e => by
      by_cases h : b = a
      · subst h; rw [upd_same] at e; rw [← e]; exact hu
      · rw [upd_ne h] at e; exact R.ex b o e
    fr := R.fr
    fd := fun b o e => by
      have ne : b ≠ a := fun z => by subst z; rw [fa] at e; cases e
      rw [upd_ne ne, delM_ne ne]; exact R.fd b o e
    mu := fun b o e => by
      have ne : b ≠ a := fun z => by subst z; rw [delM_same] at e; cases e
      rw [delM_ne ne] at e
      obtain ⟨h1, h2⟩ := R.mu b o e
      exact ⟨by rw [upd_ne ne]; exact h1, h2.mono (same_new g0)⟩ }
  cases mo with
  | lst ds =>
    obtain ⟨xs, h1, h2⟩ := at_
    exact ⟨_, same_new g0, main _ h1, dat_lst.mpr ⟨a, xs, rfl, upd_same, h2.mono (same_new g0)⟩⟩
  | ins C ns ds =>
    obtain ⟨dx, xs, h1, h2, h3⟩ := at_
    exact ⟨_, same_new g0, main _ h1, dat_obj.mpr ⟨a, dx, xs, rfl, upd_same, h2, h3.mono (same_new g0)⟩⟩
  | dk ks ds =>
    obtain ⟨xs, h1, h2, h3⟩ := at_
    exact ⟨_, same_new g0, main _ h1, dat_dk.mpr ⟨a, xs, rfl, .inl upd_same, h2, h3.mono (same_new g0)⟩⟩
  | dl ks ds =>
    obtain ⟨xs, h1, h2, h3⟩ := at_
    exact ⟨_, same_new g0, main _ h1, dat_dl.mpr ⟨a, xs, rfl, upd_same, h2, h3.mono (same_new g0)⟩⟩
  | pre P => exact so.elim
  | tab q => exact so.elim
  | ext x => exact so.elim
/-- what an expression gives is frozen at once -/
theorem we_frz (h : WE Z te ρ M fun d M1 => ∃ a mo, d = .r a ∧ M1 a = some mo ∧ mo.solid ∧ Q2 mo.frz (delM M1 a)) : WE Z te ρ M Q2 := fun G σ H Q s R E r =>
  h G σ H Q s R E fun d v G1 M1 H1 s1 R1 x q => by
    obtain ⟨a, mo, rfl, hm, so, q⟩ := q
    obtain ⟨G2, s2, R2, x2⟩ := R1.freeze hm so
    rw [dat_v.mp x]
    exact r _ _ G2 _ H1 (s1.trans s2) R2 x2 q
/-- the thing in a slot is frozen -/
theorem ws_frz (i : Nat) {a : Addr} {mo : MO} (hi : ρ[i]? = some (some (.r a))) (hm : M a = some mo) (so : mo.solid) (h : WS Z ts D2 (ρ.set i (some mo.frz)) (delM M a)) : WS Z ts D2 ρ M := fun G σ H D s R E e => by
  obtain ⟨G2, s2, R2, x2⟩ := R.freeze hm so
  have E2 := (E.mono s2).set (i := i) x2
  obtain ⟨v, h1, h2⟩ := E.get i _ hi
  rw [dat_v.mp h2] at h1
  have es : σ.set i (some (.ref a)) = σ := by
    apply List.ext_getElem?
    intro j
    by_cases q : i = j
    · subst q
      rw [List.getElem?_set_self (List.getElem?_eq_some_iff.mp h1).1, h1]
    · rw [List.getElem?_set_ne q]
  rw [es] at E2
  exact h G2 σ H D (s.trans s2) R2 E2 (e.mono s2)
def ObjOf (M : Mu) (d : DV) (C : Addr) (ns : List Str) (ds : List DV) : Prop := d = .obj C ns ds ∨ ∃ a, d = .r a ∧ M a = some (.ins C ns ds)
theorem ObjOf.mu {a C : Addr} {ns : List Str} (h : M a = some (.ins C ns ds)) : ObjOf M (.r a) C ns ds := .inr ⟨a, rfl, h⟩
theorem obj_at {C : Addr} {ns : List Str} (R : Rep W G M F H) (h : Dat W G d v) (l : ObjOf M d C ns ds) : ∃ a dx xs, v = .ref a ∧ H a = some (.ins C dx (ns.zip xs)) ∧ ns.length = ds.length ∧ DatL W G ds xs := by
  rcases l with rfl | ⟨a, rfl, hm⟩
  · obtain ⟨a, dx, xs, h1, h2, h3, h4⟩ := dat_obj.mp h
    exact ⟨a, dx, xs, h1, R.ex _ _ h2, h3, h4⟩
  · obtain ⟨dx, xs, h1, h2, h3⟩ := (R.mu a _ hm).2
    exact ⟨a, dx, xs, dat_v.mp h, h1, h2, h3⟩
theorem zip_look : ∀ {ns : List Str} {ds : List DV} {xs : List V} {f : Str}, DatL W G ds xs → ∀ {e : DV}, (ns.zip ds).lookup f = some e → ∃ y, (ns.zip xs).lookup f = some y ∧ Dat W G e y
  | [], ds, xs, f, h, e, q => by simp at q
  | n :: ns, [], xs, f, h, e, q => by simp at q
  | n :: ns, d :: ds, xs, f, h, e, q => by
    obtain ⟨y, r, e1, h1, h2⟩ := datL_cons.mp h
    subst e1
    rw [List.zip_cons_cons, List.lookup_cons] at q ⊢
    cases z : f == n with
    | true => rw [z] at q; cases q; exact ⟨y, rfl, h1⟩
    | false => rw [z] at q; exact zip_look h2 q
theorem zip_none : ∀ {ns : List Str} {ds : List DV} {xs : List V} {f : Str}, DatL W G ds xs → (ns.zip ds).lookup f = none → (ns.zip xs).lookup f = none
  | [], ds, xs, f, h, q => by simp
  | n :: ns, [], xs, f, h, q => by rw [datL_nil.mp h]; simp
  | n :: ns, d :: ds, xs, f, h, q => by
    obtain ⟨y, r, e1, h1, h2⟩ := datL_cons.mp h
    subst e1
    rw [List.zip_cons_cons, List.lookup_cons] at q ⊢
    cases z : f == n with
    | true => rw [z] at q; cases q
    | false => rw [z] at q; exact zip_none h2 q
theorem we_fld {f : Str} (h : WE Z te ρ M fun d M1 => ∃ C ns ds e, ObjOf M1 d C ns ds ∧ Cls Z.W.K C ∧ NoAttr Z.W.K C f ∧ (ns.zip ds).lookup f = some e ∧ Q2 e M1) : WE Z (tFld Z.W.K te f) ρ M Q2 := fun G σ H Q s R E r =>
  h G σ H _ s R E fun d v G1 M1 H1 s1 R1 x q => by
    obtain ⟨C, ns, ds, e, o, c, n, l, q⟩ := q
    obtain ⟨a, dx, xs, e1, e2, e3, e4⟩ := obj_at R1 x o
    obtain ⟨y, l1, l2⟩ := zip_look e4 l
    exact ⟨a, C, dx, _, y, e1, e2, c, n, l1, r _ _ G1 M1 H1 s1 R1 l2 q⟩
/-- a field is stored -/
def putN (f : Str) : List Str → List Str
  | [] => [f]
  | n :: ns => if n = f then n :: ns else n :: putN f ns
def putD (f : Str) (e : DV) : List Str → List DV → List DV
  | [], _ => [e]
  | n :: ns, [] => []
  | n :: ns, d :: ds => if n = f then e :: ds else d :: putD f e ns ds
theorem putF_eq (f : Str) (v : V) (l : List (Str × V)) : putF f v l = match l with
  | [] => [(f, v)]
  | (n, x) :: r => if n = f then (n, v) :: r else (n, x) :: putF f v r := by
  cases l with
  | nil => rfl
  | cons p r => cases p; rfl
theorem put_len : ∀ {ns : List Str} {ds : List DV} {f : Str} {e : DV}, ns.length = ds.length → (putN f ns).length = (putD f e ns ds).length
  | [], [], f, e, h => rfl
  | [], _ :: _, f, e, h => by simp at h
  | n :: ns, [], f, e, h => by simp at h
  | n :: ns, d :: ds, f, e, h => by
    unfold putN putD
    by_cases q : n = f
    · rw [if_pos q, if_pos q]; simpa using h
    · rw [if_neg q, if_neg q, List.length_cons, List.length_cons, put_len (by simpa using h)]
theorem put_dat : ∀ {ns : List Str} {ds : List DV} {xs : List V} {f : Str} {e : DV} {y : V}, ns.length = ds.length → DatL W G ds xs → Dat W G e y → ∃ zs, putF f y (ns.zip xs) = (putN f ns).zip zs ∧ DatL W G (putD f e ns ds) zs
  | [], ds, xs, f, e, y, hl, h, k => by
    refine ⟨[y], ?_, datL_cons' k datL_nil'⟩
    rw [List.zip_nil_left]
    rfl
  | n :: ns, [], xs, f, e, y, hl, h, k => by simp at hl
  | n :: ns, d :: ds, xs, f, e, y, hl, h, k => by
    obtain ⟨x, r, e1, h1, h2⟩ := datL_cons.mp h
    subst e1
    rw [List.zip_cons_cons, putF_eq]
    unfold putN putD
    by_cases q : n = f
    · refine ⟨y :: r, ?_, ?_⟩
      · rw [if_pos q]; dsimp only; rw [if_pos q]; rfl
      · rw [if_pos q]; exact datL_cons' k h2
    · obtain ⟨zs, z1, z2⟩ := put_dat (f := f) (by simpa using hl) h2 k
      refine ⟨x :: zs, ?_, ?_⟩
      · rw [if_neg q]; dsimp only; rw [if_neg q, z1]; rfl
      · rw [if_neg q]; exact datL_cons' h1 z2
theorem ws_fld {f : Str} (h : WE Z tb ρ M fun e M1 => WE Z ta ρ M1 fun d M2 => ∃ a C ns ds, d = .r a ∧ M2 a = some (.ins C ns ds) ∧ Cls Z.W.K C ∧ NoAttr Z.W.K C f ∧ ns.length < 1000 ∧ D2.nx ρ (updM M2 a (.ins C (putN f ns) (putD f e ns ds)))) : WS Z (sFld Z.W.K ta tb f) D2 ρ M := fun G σ H D s R E k =>
  h G σ H _ s R E fun e ve G1 M1 H1 s1 R1 x q => q G1 σ H1 _ (s.trans s1) R1 (E.mono s1) fun d vd G2 M2 H2 s2 R2 y q2 => by
    obtain ⟨a, C, ns, ds, rfl, hm, c, n, hl, q3⟩ := q2
    obtain ⟨dx, xs, h1, h2, h3⟩ := (R2.mu a _ hm).2
    obtain ⟨zs, z1, z2⟩ := put_dat (f := f) h2 h3 (x.mono s2)
    refine ⟨a, C, dx, _, dat_v.mp y, h1, c, n, ?_, ?_⟩
    · rw [List.length_zip, h3.length]; omega
    · refine k.nx _ _ G2 _ _ (s1.trans s2) (R2.write (mo' := .ins C (putN f ns) (putD f e ns ds)) hm ⟨dx, zs, ?_, put_len h2, z2⟩) ((E.mono s1).mono s2) q3
      rw [upd_same, z1]
end
abbrev XK2 := Addr → List Str → List DV → Mu → Prop
/-- the fields of an exception, in its own dict -/
def XdOk (W : Wd) (G : Hp) (d : Option Addr) (ns : List Str) (ds : List DV) : Prop := match d with
  | none => ns = [] ∧ ds = []
  | some dd => ∃ xs, G dd = some (.xd (ns.zip xs)) ∧ ns.length = ds.length ∧ DatL W G ds xs
def ExcOk (W : Wd) (G F : Hp) (E2 : XK2) (E : XK) : Prop := ∀ C ns ds d G' M' H', Same G G' → Rep W G' M' F H' → XdOk W G' d ns ds → E2 C ns ds M' → E (.ref C) d H'
theorem ExcOk.mono {W : Wd} {G G' F : Hp} {E2 : XK2} {E : XK} (e : Same G G') (h : ExcOk W G F E2 E) : ExcOk W G' F E2 E := fun C ns ds d G1 M1 H1 s R x q => h C ns ds d G1 M1 H1 (e.trans s) R x q
abbrev Sp2 := List DV → Mu → DQ → XK2 → Prop
def lift (W : Wd) (sp2 : Sp2) : Sp := fun vs H Q E => ∃ G F ds M Q2 E2, Rep W G M F H ∧ DatL W G ds vs ∧ sp2 ds M Q2 E2 ∧ RetOk W G F Q2 Q ∧ ExcOk W G F E2 E
def XcOk (Z : Zn) (E2 : XK2) (E : XK) : Prop := ExcOk Z.W Z.G Z.F E2 E
section
variable {W : Wd} {Z : Zn} {G G' F : Hp} {ρ : Ro} {σ : L2.St} {M : Mu} {H : Hp} {te ta tb tc : TE} {tt tu : TT} {ts tr : TS} {tx : TA} {Q2 Q2' : DQ} {D2 : Ends2} {d e x y : DV} {ds es : List DV} {v : V} {sp2 : Sp2} {E : XK} {E2 : XK2} {dvs : List V}
theorem we_call (hx : XcOk Z E2 E) (h : WA Z tx ρ M fun ds M1 => sp2 (ds ++ dvs.map DV.v) M1 Q2 E2) : WE Z (tCall (lift Z.W sp2) dvs E tx) ρ M Q2 := fun G σ H Q s R En r =>
  h G σ H _ s R En fun ds vs G1 M1 H1 s1 R1 xs q => ⟨G1, Z.F, _, M1, Q2, E2, R1, xs.append (datL_v dvs), q, r.mono s1, hx.mono (s.trans s1)⟩
theorem we_meth {C : Addr} {m : Str} (hx : XcOk Z E2 E) (h : WE Z ta ρ M fun d M1 => (∃ ns ds, ObjOf M1 d C ns ds ∧ (ns.zip ds).lookup m = none) ∧ WA Z tx ρ M1 fun es M2 => sp2 (d :: (es ++ dvs.map DV.v)) M2 Q2 E2) :
    WE Z (tMeth C m (lift Z.W sp2) dvs E ta tx) ρ M Q2 := fun G σ H Q s R En r =>
  h G σ H _ s R En fun d v G1 M1 H1 s1 R1 x q => by
    obtain ⟨⟨ns, ds, o, l⟩, q⟩ := q
    obtain ⟨a, dx, xs, e1, e2, e3, e4⟩ := obj_at R1 x o
    refine ⟨a, dx, _, e1, e2, zip_none e4 l, ?_⟩
    refine q G1 σ H1 _ (s.trans s1) R1 (En.mono s1) fun es vs G2 M2 H2 s2 R2 xs q2 => ?_
    exact ⟨G2, Z.F, _, M2, Q2, E2, R2, datL_cons' (x.mono s2) (xs.append (datL_v dvs)), q2, r.mono (s1.trans s2), hx.mono ((s.trans s1).trans s2)⟩
theorem Rep.made {x dx C : Addr} (R : Rep W G M F H) (hx : H x = none) (hd : H dx = none) (ne : dx ≠ x) : Rep W G (updM M x (.ins C [] [])) F (upd (upd H dx (.own x)) x (.ins C dx [])) := by
  have R1 : Rep W G M F (upd H dx (.own x)) := R.skip hd
  have hx1 : upd H dx (.own x) x = none := by rw [upd_ne (Ne.symm ne)]; exact hx
  exact R1.newM (mo := .ins C [] []) hx1 ⟨dx, [], upd_same, rfl, datL_nil'⟩
theorem we_make {C : Addr} (hx : XcOk Z E2 E) (h : WA Z tx ρ M fun es M1 => ∀ x, M1 x = none → sp2 (.r x :: (es ++ dvs.map DV.v)) (updM M1 x (.ins C [] [])) (fun d M2 => d = .n ∧ Q2 (.r x) M2) E2) :
    WE Z (tMake C (lift Z.W sp2) dvs E tx) ρ M Q2 := fun G σ H Q s R En r =>
  h G σ H _ s R En fun es vs G1 M1 H1 s1 R1 xs q => fun x dx hx0 hd0 ne =>
    ⟨G1, Z.F, _, _, _, E2, R1.made hx0 hd0 ne, datL_cons' dat_v' (xs.append (datL_v dvs)), q x (R1.mnone hx0), fun d v G2 M2 H2 s2 R2 y q2 => ⟨by rw [q2.1] at y; exact dat_v.mp y, r _ _ G2 M2 H2 (s1.trans s2) R2 dat_v' q2.2⟩, hx.mono (s.trans s1)⟩
/-- .. frozen when it is made -/
theorem we_makeF {C : Addr} (hx : XcOk Z E2 E) (h : WA Z tx ρ M fun es M1 => ∀ x, M1 x = none → sp2 (.r x :: (es ++ dvs.map DV.v)) (updM M1 x (.ins C [] [])) (fun d M2 => d = .n ∧ ∃ mo, M2 x = some mo ∧ mo.solid ∧ Q2 mo.frz (delM M2 x)) E2) :
    WE Z (tMake C (lift Z.W sp2) dvs E tx) ρ M Q2 := we_frz (we_make hx (h.imp fun es M1 k x h0 => by
      have := k x h0
      have e : (fun d M2 => d = DV.n ∧ ∃ mo, M2 x = some mo ∧ mo.solid ∧ Q2 mo.frz (delM M2 x)) = (fun d M2 => d = DV.n ∧ ∃ a mo, DV.r x = .r a ∧ M2 a = some mo ∧ mo.solid ∧ Q2 mo.frz (delM M2 a)) := by
        funext d M2
        apply propext
        constructor
        · rintro ⟨h1, mo, h2, h3⟩
          exact ⟨h1, x, mo, rfl, h2, h3⟩
        · rintro ⟨h1, a, mo, h0, h2, h3⟩
          have e0 : x = a := by
            injection h0 with h0
            injection h0
          subst e0
          exact ⟨h1, mo, h2, h3⟩
      rw [e] at this
      exact this))
end
section
variable {P : Program} {w : World} {K : PySem.W.Frag} {mg : Str → Option Value} {base : Heap}
abbrev Z_ (P : Program) (w : World) (K : PySem.W.Frag) (G F : Hp) : Zn := ⟨⟨P, w, K⟩, G, F⟩
theorem lift_len {W : Wd} {sp2 : Sp2} {n : Nat} (h : ∀ ds M Q2 E2, sp2 ds M Q2 E2 → ds.length = n) : ∀ vs H Q E, lift W sp2 vs H Q E → vs.length = n := fun vs H Q E ⟨G, F, ds, M, Q2, E2, R, x, q, _⟩ => by
  rw [x.length]
  exact h ds M Q2 E2 q
end
structure ItOk (W : Wd) (G : Hp) (J : It) (items : List DV) : Prop where
  go : ∀ i G' F M H', Same G G' → Rep W G' M F H' → i < items.length → J.go i H'
  stop : ∀ i G' F M H', Same G G' → Rep W G' M F H' → items.length ≤ i → J.stop i H'
  yld : ∀ i d G' F M H' x H'', Same G G' → Rep W G' M F H' → items[i]? = some d → J.yld i H' x H'' → ∃ G'', Same G' G'' ∧ Rep W G'' M F H'' ∧ Dat W G'' d x
def WI (Z : Zn) (wi : TI) (ρ : Ro) (M : Mu) (R2 : List DV → Mu → Prop) : Prop :=
  ∀ G σ H R, Same Z.G G → Rep Z.W G M Z.F H → EnvOk Z.W G ρ σ → (∀ items J G' M' H', Same G G' → Rep Z.W G' M' Z.F H' → ItOk Z.W G' J items → R2 items M' → R J H') → wi σ H R
def Loop (Z : Zn) (g : TG) (tb : TS) (D2 : Ends2) : List DV → Ro → Mu → Prop
  | [], ρ, M => D2.nx ρ M
  | d :: ds, ρ, M => WG Z g d ρ M fun ρ1 M1 => WS Z tb { D2 with nx := Loop Z g tb D2 ds, ct := Loop Z g tb D2 ds, bk := D2.nx } ρ1 M1
section
variable {W : Wd} {Z : Zn} {G G' F : Hp} {ρ : Ro} {σ : L2.St} {M : Mu} {H : Hp} {te ta tb tc : TE} {tt tu : TT} {ts tr : TS} {tx : TA} {Q2 Q2' : DQ} {D2 : Ends2} {d e x y : DV} {ds es : List DV} {v : V} {wi : TI} {g : TG}
theorem ItOk.mono {J : It} {items : List DV} (s : Same G G') (h : ItOk W G J items) : ItOk W G' J items :=
  ⟨fun i G1 F M H1 s1 R hi => h.go i G1 F M H1 (s.trans s1) R hi, fun i G1 F M H1 s1 R hi => h.stop i G1 F M H1 (s.trans s1) R hi, fun i d G1 F M H1 x H2 s1 R hd y => h.yld i d G1 F M H1 x H2 (s.trans s1) R hd y⟩
theorem itl_ok {a : Addr} {xs : List V} {ds : List DV} (h : SqL W.K G a xs) (hd : DatL W G ds xs) : ItOk W G (Itl W.K a) ds where
  go := fun i G' F M H' s R hi => by
    have hl := hd.length
    exact ⟨xs, xs[i], sql_mono R.ex (sql_mono s h), by simp [hl, hi]⟩
  stop := fun i G' F M H' s R hi => ⟨xs, sql_mono R.ex (sql_mono s h), by rw [hd.length]; exact hi⟩
  yld := fun i d G' F M H' x H'' s R e ⟨e1, y⟩ => by
    subst e1
    obtain ⟨z, h1, h2⟩ := (hd.mono s).get e
    have q := y xs (sql_mono R.ex (sql_mono s h))
    rw [h1] at q
    cases q
    exact ⟨G', Same.refl G', R, h2⟩
theorem wi_list {R2 : List DV → Mu → Prop} (h : WE Z te ρ M fun d M1 => ∃ ds, d = .lst ds ∧ R2 ds M1) : WI Z (iList Z.W.K te) ρ M R2 := fun G σ H R s Rp E r =>
  h G σ H _ s Rp E fun d v G1 M1 H1 s1 R1 x q => by
    obtain ⟨ds, rfl, q⟩ := q
    obtain ⟨a, xs, e1, e2, e3⟩ := dat_lst.mp x
    exact ⟨a, e1, ⟨xs, SqL.of (R1.ex _ _ e2)⟩, r ds _ G1 M1 H1 s1 R1 (itl_ok (SqL.of e2) e3) q⟩
theorem itt_ok {a : Addr} {xs : List V} {ds : List DV} (h : SqT W.K G a xs) (hd : DatL W G ds xs) : ItOk W G (Itt W.K a) ds where
  go := fun i G' F M H' s R hi => by
    have hl := hd.length
    exact ⟨xs, xs[i], sqt_mono R.ex (sqt_mono s h), by simp [hl, hi]⟩
  stop := fun i G' F M H' s R hi => ⟨xs, sqt_mono R.ex (sqt_mono s h), by rw [hd.length]; exact hi⟩
  yld := fun i d G' F M H' x H'' s R e ⟨e1, y⟩ => by
    subst e1
    obtain ⟨z, h1, h2⟩ := (hd.mono s).get e
    have q := y xs (sqt_mono R.ex (sqt_mono s h))
    rw [h1] at q
    cases q
    exact ⟨G', Same.refl G', R, h2⟩
def rangeD (lo : Int) (n : Nat) : List DV := (List.range n).map fun (i : Nat) => DV.i (lo + (i : Int))
theorem itr_ok {lo : Int} {n : Nat} : ItOk W G (Itr lo n) (rangeD lo n) where
  go := fun i G' F M H' s R hi => by
    have hi' : i < n := by simpa [rangeD] using hi
    exact hi'
  stop := fun i G' F M H' s R hi => by
    have hi' : n ≤ i := by simpa [rangeD] using hi
    exact hi'
  yld := fun i d G' F M H' x H'' s R e ⟨e1, y⟩ => by
    subst e1 y
    refine ⟨G', Same.refl G', R, ?_⟩
    unfold rangeD at e
    rw [List.getElem?_map] at e
    have hi : i < n := by
      cases q : (List.range n)[i]? with
      | none => rw [q] at e; cases e
      | some j => simpa using (List.getElem?_eq_some_iff.mp q).1
    rw [List.getElem?_range hi] at e
    cases e
    exact dat_v'
theorem wi_range1 {R2 : List DV → Mu → Prop} (h : WA Z tx ρ M fun ds M1 => ∃ j : Int, ds = [.i j] ∧ -(2 ^ 62) ≤ j ∧ j < 2 ^ 62 ∧ R2 (rangeD 0 j.toNat) M1) : WI Z (iRng1 tx) ρ M R2 := fun G σ H R s Rp E r =>
  h G σ H _ s Rp E fun ds vs G1 M1 H1 s1 R1 x q => by
    obtain ⟨j, rfl, h1, h2, q⟩ := q
    obtain ⟨y, e1, h3⟩ := one_of x
    rw [dat_v.mp h3] at e1
    exact ⟨j, e1, h1, h2, r _ _ G1 M1 H1 s1 R1 itr_ok q⟩
def enumD (ds : List DV) : List DV := ds.mapIdx fun i d => DV.tup [.i (i : Nat), d]
theorem ite_ok {a : Addr} {xs : List V} {ds : List DV} (h : SqL W.K G a xs) (hd : DatL W G ds xs) : ItOk W G (Ite W.K a) (enumD ds) where
  go := fun i G' F M H' s R hi => by
    have hl := hd.length
    have hi' : i < ds.length := by simpa [enumD] using hi
    exact ⟨xs, xs[i], sql_mono R.ex (sql_mono s h), by simp [hl, hi']⟩
  stop := fun i G' F M H' s R hi => by
    have hi' : ds.length ≤ i := by simpa [enumD] using hi
    exact ⟨xs, sql_mono R.ex (sql_mono s h), by rw [hd.length]; exact hi'⟩
  yld := fun i d G' F M H' x H'' s R e ⟨T, z, e1, hT, e2, y⟩ => by
    subst e1 e2
    unfold enumD at e
    rw [List.getElem?_mapIdx] at e
    cases q : ds[i]? with
    | none => rw [q] at e; cases e
    | some d0 =>
      rw [q] at e
      cases e
      obtain ⟨z', h1, h2⟩ := (hd.mono s).get q
      have q2 := y xs (sql_mono R.ex (sql_mono s h))
      rw [h1] at q2
      injection q2 with q2
      subst q2
      have sn := same_new (o := .tup [.int (i : Nat), z']) (R.gnone hT)
      exact ⟨_, sn, R.new hT, dat_tup.mpr ⟨T, _, rfl, SqT.of upd_same, datL_cons' dat_v' (datL_cons' (h2.mono sn) datL_nil')⟩⟩
theorem wi_enum {R2 : List DV → Mu → Prop} (h : WA Z tx ρ M fun ds M1 => ∃ es, ds = [.lst es] ∧ R2 (enumD es) M1) : WI Z (iEnum Z.W.K tx) ρ M R2 := fun G σ H R s Rp E r =>
  h G σ H _ s Rp E fun ds vs G1 M1 H1 s1 R1 x q => by
    obtain ⟨es, rfl, q⟩ := q
    obtain ⟨y, e1, h3⟩ := one_of x
    obtain ⟨a, xs, e2, e3, e4⟩ := dat_lst.mp h3
    subst e1 e2
    exact ⟨a, xs, rfl, SqL.of (R1.ex _ _ e3), r _ _ G1 M1 H1 s1 R1 (ite_ok (SqL.of e3) e4) q⟩
theorem drop_cons {α : Type} {l : List α} {i : Nat} (h : i < l.length) : l.drop i = l[i] :: l.drop (i + 1) := List.drop_eq_getElem_cons h
theorem ws_for (h : WI Z wi ρ M fun items M1 => Loop Z g ts D2 items ρ M1) : WS Z (tFor wi g ts) D2 ρ M := fun G σ H D s R E e => by
  refine h G σ H _ s R E fun items J G1 M1 H1 s1 R1 it q => ?_
  refine ⟨fun i m σ' H' => ∃ G' ρ' M', Same G1 G' ∧ Rep Z.W G' M' Z.F H' ∧ EnvOk Z.W G' ρ' σ' ∧ i ≤ items.length ∧ m = items.length - i ∧ Loop Z g ts D2 (items.drop i) ρ' M', ⟨items.length, G1, ρ, M1, Same.refl G1, R1, E.mono s1, Nat.zero_le _, rfl, q⟩, ?_⟩
  rintro i m σ' H' ⟨G', ρ', M', sg, R', E', hi, rfl, lp⟩
  by_cases hlt : i < items.length
  · rw [drop_cons hlt] at lp
    refine .inr ⟨it.go i G' Z.F M' H' sg R' hlt, fun σ2 H2 => ∃ G2 ρ2 M2, Same G1 G2 ∧ Rep Z.W G2 M2 Z.F H2 ∧ EnvOk Z.W G2 ρ2 σ2 ∧ Loop Z g ts D2 (items.drop (i + 1)) ρ2 M2, ?_, fun x H2 y => ?_⟩
    · rintro σ2 H2 ⟨G2, ρ2, M2, a1, a2, a3, a4⟩
      exact ⟨items.length - (i + 1), by omega, G2, ρ2, M2, a1, a2, a3, hlt, rfl, a4⟩
    · obtain ⟨G2, s2, R2, dx⟩ := it.yld i _ G' Z.F M' H' x H2 sg R' (List.getElem?_eq_getElem hlt) y
      refine lp G2 σ' H2 x _ ((s.trans s1).trans (sg.trans s2)) R2 (E'.mono s2) dx fun ρ3 σ3 G3 M3 H3 s3 R3 E3 q3 => ?_
      have s13 : Same G1 G3 := (sg.trans s2).trans s3
      refine q3 G3 σ3 H3 _ ((s.trans s1).trans s13) R3 E3 ⟨fun ρ4 σ4 G4 M4 H4 s4 R4 E4 q4 => ⟨G4, ρ4, M4, s13.trans s4, R4, E4, q4⟩, e.rt.mono (s1.trans s13), e.nx.mono (s1.trans s13), fun ρ4 σ4 G4 M4 H4 s4 R4 E4 q4 => ⟨G4, ρ4, M4, s13.trans s4, R4, E4, q4⟩⟩
  · have ei : i = items.length := by omega
    subst ei
    rw [List.drop_length] at lp
    exact .inl ⟨it.stop _ G' Z.F M' H' sg R' (Nat.le_refl _), e.nx ρ' σ' G' M' H' (s1.trans sg) R' E' lp⟩
end
end DL
set_option Elab.async false
set_option linter.all false
set_option maxRecDepth 100000
set_option maxHeartbeats 2000000
namespace DL
open PySem PySem.Spec PyProof.Rows L2
def wipe2 (ρ : Ro) : List Nat → Ro
  | [] => ρ
  | i :: is => (wipe2 ρ is).set i none
section
variable {W : Wd} {Z : Zn} {G G' F : Hp} {ρ : Ro} {σ : L2.St} {M : Mu} {H : Hp} {te ta tb tc : TE} {tt tu : TT} {ts tr : TS} {tx : TA} {Q2 Q2' : DQ} {D2 : Ends2} {d e x y : DV} {ds es : List DV} {v : V} {wi : TI} {g : TG}
theorem wipe2_length : ∀ is : List Nat, (wipe2 ρ is).length = ρ.length
  | [] => rfl
  | i :: is => by unfold wipe2; rw [List.length_set, wipe2_length is]
theorem EnvOk.setN {i : Nat} (E : EnvOk W G ρ σ) : EnvOk W G (ρ.set i none) (σ.set i none) := ⟨by simp [E.len], fun j e hj => by
  by_cases q : i = j
  · subst q
    have hl : i < ρ.length := by
      have := (List.getElem?_eq_some_iff.mp hj).1
      simpa using this
    rw [List.getElem?_set_self hl] at hj
    cases hj
  · rw [List.getElem?_set_ne q] at hj
    obtain ⟨u, h1, h2⟩ := E.get j e hj
    exact ⟨u, by rw [List.getElem?_set_ne q]; exact h1, h2⟩⟩
theorem EnvOk.wipe (E : EnvOk W G ρ σ) : ∀ is : List Nat, EnvOk W G (wipe2 ρ is) (L2.wipe σ is)
  | [] => E
  | i :: is => (EnvOk.wipe E is).setN
/-- a target that touches the block's own slots alone -/
def GOk (g : TG) (is : List Nat) : Prop := ∀ v σ0 σ H P, L2.wipe σ is = L2.wipe σ0 is → g v σ H P → g v σ H fun σ2 H2 => L2.wipe σ2 is = L2.wipe σ0 is ∧ P σ2 H2
def GsOk (g : TGs) (is : List Nat) : Prop := ∀ vs σ0 σ H P, L2.wipe σ is = L2.wipe σ0 is → g vs σ H P → g vs σ H fun σ2 H2 => L2.wipe σ2 is = L2.wipe σ0 is ∧ P σ2 H2
theorem wipe_get (σ : L2.St) (j : Nat) : ∀ is : List Nat, (L2.wipe σ is)[j]? = if j ∈ is ∧ j < σ.length then some none else σ[j]?
  | [] => by simp [L2.wipe]
  | i :: is => by
    unfold L2.wipe
    by_cases q : i = j
    · subst q
      by_cases hl : i < σ.length
      · rw [List.getElem?_set_self (by rw [L2.wipe_length]; exact hl), if_pos ⟨by simp, hl⟩]
      · rw [List.getElem?_eq_none (by simp [L2.wipe_length]; omega), if_neg (fun z => hl z.2), List.getElem?_eq_none (by omega)]
    · rw [List.getElem?_set_ne q, wipe_get σ j is]
      have : (j ∈ i :: is) ↔ j ∈ is := by simp [Ne.symm q]
      simp only [this]
theorem wipe_set {σ : L2.St} {i : Nat} {o : Option V} {is : List Nat} (h : i ∈ is) : L2.wipe (σ.set i o) is = L2.wipe σ is := by
  apply List.ext_getElem?
  intro j
  rw [wipe_get, wipe_get, List.length_set]
  by_cases q : j ∈ is ∧ j < σ.length
  · rw [if_pos q, if_pos q]
  · rw [if_neg q, if_neg q]
    by_cases e : i = j
    · subst e
      have hl : ¬ i < σ.length := fun z => q ⟨h, z⟩
      rw [List.getElem?_eq_none (by simp; omega), List.getElem?_eq_none (by omega)]
    · rw [List.getElem?_set_ne e]
theorem wipe_idem (σ : L2.St) (is : List Nat) : L2.wipe (L2.wipe σ is) is = L2.wipe σ is := by
  apply List.ext_getElem?
  intro j
  rw [wipe_get, wipe_get, L2.wipe_length]
  by_cases q : j ∈ is ∧ j < σ.length
  · rw [if_pos q, if_pos q]
  · rw [if_neg q, if_neg q]
theorem gok_name {i : Nat} {is : List Nat} (h : i ∈ is) : GOk (gName i) is := fun v σ0 σ H P e p => ⟨by rw [wipe_set h]; exact e, p⟩
theorem gsok_nil {is : List Nat} : GsOk gNil is := fun vs σ0 σ H P e p => ⟨p.1, e, p.2⟩
theorem gsok_cons {g : TG} {gs : TGs} {is : List Nat} (h1 : GOk g is) (hm : ∀ v σ H P P', (∀ s h, P s h → P' s h) → g v σ H P → g v σ H P') (h2 : GsOk gs is) : GsOk (gCons g gs) is := fun vs σ0 σ H P e ⟨v, r, e1, p⟩ =>
  ⟨v, r, e1, hm v σ H _ _ (fun s h ⟨q1, q2⟩ => h2 r σ0 s h P q1 q2) (h1 v σ0 σ H _ e p)⟩
theorem gname_mono {i : Nat} : ∀ v σ H P P', (∀ s h, P s h → P' s h) → gName i v σ H P → gName i v σ H P' := fun v σ H P P' k p => k _ _ p
theorem gsok_name {i : Nat} {gs : TGs} {is : List Nat} (h1 : i ∈ is) (h2 : GsOk gs is) : GsOk (gCons (gName i) gs) is := gsok_cons (gok_name h1) gname_mono h2
theorem gok_tup {K : PySem.W.Frag} {n : Nat} {gs : TGs} {is : List Nat} (h : GsOk gs is) : GOk (gTup K n gs) is := fun v σ0 σ H P e ⟨a, xs, e1, e2, e3, p⟩ => ⟨a, xs, e1, e2, e3, h xs σ0 σ H P e p⟩
abbrev Zn.fr (Z : Zn) (F : Hp) : Zn := ⟨Z.W, Z.G, F⟩
/-- the turns of a comprehension: items left, what is made so far -/
def Comp (Z : Zn) (g : TG) (tt : TT) (te : TE) (ρ : Ro) (k : List DV → Mu → Prop) : List DV → List DV → Mu → Prop
  | [], acc, M => k acc M
  | d :: ds, acc, M => acc.length < sizeLine ∧ ∀ F, WG (Z.fr F) g d ρ M fun ρ2 M2 => WT (Z.fr F) tt ρ2 M2 fun b M3 =>
      if b = true then WE (Z.fr F) te ρ2 M3 fun y M4 => Comp Z g tt te ρ k ds (acc ++ [y]) M4 else Comp Z g tt te ρ k ds acc M3
theorem Rep.toFr {p : Addr} {o : HO} (R : Rep W G M F H) (hp : H p = none) : Rep W G M (upd F p o) (upd H p o) where
  ex := fun a u e => by rw [upd_ne (ne_of_none (R.ex a u e) hp)]; exact R.ex a u e
  fr := fun a u e => by
    by_cases h : a = p
    · subst h; rw [upd_same] at e ⊢; exact e
    · rw [upd_ne h] at e ⊢; exact R.fr a u e
  fd := fun a u e => by
    by_cases h : a = p
    · subst h; exact ⟨R.gnone hp, R.mnone hp⟩
    · rw [upd_ne h] at e; exact R.fd a u e
  mu := fun a u e => by
    obtain ⟨h1, h2⟩ := R.mu a u e
    obtain ⟨z, hz⟩ := h2.there
    exact ⟨h1, h2.heap (upd_ne (ne_of_none hz hp))⟩
theorem Rep.frSet {p : Addr} {o u : HO} (R : Rep W G M (upd F p o) H) : Rep W G M (upd F p u) (upd H p u) := by
  have hp := R.fd p o upd_same
  exact {
    ex := fun a w e => by
      have ne : a ≠ p := fun z => by subst z; rw [hp.1] at e; cases e
      rw [upd_ne ne]; exact R.ex a w e
    fr := fun a w e => by
      by_cases h : a = p
      · subst h; rw [upd_same] at e ⊢; exact e
      · rw [upd_ne h] at e ⊢; exact R.fr a w (by rw [upd_ne h]; exact e)
    fd := fun a w e => by
      by_cases h : a = p
      · subst h; exact hp
      · rw [upd_ne h] at e; exact R.fd a w (by rw [upd_ne h]; exact e)
    mu := fun a w e => by
      have ne : a ≠ p := fun z => by subst z; rw [hp.2] at e; cases e
      obtain ⟨h1, h2⟩ := R.mu a w e
      exact ⟨h1, h2.heap (upd_ne ne)⟩ }
theorem Rep.ofFr {p : Addr} {o : HO} (R : Rep W G M (upd F p o) H) (hf : F p = none) : Rep W (upd G p o) M F H := by
  have hp := R.fd p o upd_same
  exact {
    ex := fun a w e => by
      by_cases h : a = p
      · subst h; rw [upd_same] at e; rw [← e]; exact R.fr a o upd_same
      · rw [upd_ne h] at e; exact R.ex a w e
    fr := fun a w e => R.fr a w (by rw [upd_ne (ne_of_none e hf)]; exact e)
    fd := fun a w e => by
      have ne := ne_of_none e hf
      rw [upd_ne ne]; exact R.fd a w (by rw [upd_ne ne]; exact e)
    mu := fun a w e => by
      have ne : a ≠ p := fun z => by subst z; rw [hp.2] at e; cases e
      obtain ⟨h1, h2⟩ := R.mu a w e
      exact ⟨by rw [upd_ne ne]; exact h1, h2.mono (same_new hp.1)⟩ }
theorem we_lc {is : List Nat} (hg : GOk g is) (h : WI Z wi ρ M fun items M1 => Comp Z g tt te (wipe2 ρ is) (fun acc M2 => Q2 (.lst acc) M2) items [] M1) : WE Z (tLc wi g tt te is) ρ M Q2 := fun G σ H Q s R E r => by
  refine h G σ H _ s R E fun items J G1 M1 H1 s1 R1 it q => ?_
  intro D hD
  have fD : Z.F D = none := R1.fnone hD
  refine ⟨fun i m H' => ∃ G' M' acc accV, Same G1 G' ∧ Rep Z.W G' M' (upd Z.F D (.lst accV)) H' ∧ DatL Z.W G' acc accV ∧ i ≤ items.length ∧ m = items.length - i ∧ Comp Z g tt te (wipe2 ρ is) (fun acc M2 => Q2 (.lst acc) M2) (items.drop i) acc M',
    ⟨items.length, G1, M1, [], [], Same.refl G1, R1.toFr hD, datL_nil', Nat.zero_le _, rfl, q⟩, ?_⟩
  rintro i m H' ⟨G', M', acc, accV, sg, R', hacc, hi, rfl, lp⟩
  by_cases hlt : i < items.length
  · rw [drop_cons hlt] at lp
    obtain ⟨hz, lp⟩ := lp
    refine .inr ⟨it.go i G' _ M' H' sg R' hlt, fun H2 => ∃ G2 M2 acc2 acc2V, Same G1 G2 ∧ Rep Z.W G2 M2 (upd Z.F D (.lst acc2V)) H2 ∧ DatL Z.W G2 acc2 acc2V ∧ Comp Z g tt te (wipe2 ρ is) (fun acc M2 => Q2 (.lst acc) M2) (items.drop (i + 1)) acc2 M2, ?_, fun x H2 y => ?_⟩
    · rintro H2 ⟨G2, M2, acc2, acc2V, a1, a2, a3, a4⟩
      exact ⟨items.length - (i + 1), by omega, G2, M2, acc2, acc2V, a1, a2, a3, hlt, rfl, a4⟩
    · obtain ⟨G2, s2, R2, dx⟩ := it.yld i _ G' _ M' H' x H2 sg R' (List.getElem?_eq_getElem hlt) y
      have E2 : EnvOk Z.W G2 (wipe2 ρ is) (L2.wipe σ is) := ((E.mono s1).mono (sg.trans s2)).wipe is
      refine hg x σ (L2.wipe σ is) H2 _ (wipe_idem σ is) ?_
      refine lp (upd Z.F D (.lst accV)) G2 (L2.wipe σ is) H2 x _ ((s.trans s1).trans (sg.trans s2)) R2 E2 dx fun ρ3 σ3 G3 M3 H3 s3 R3 E3 q3 => ?_
      have s13 : Same G1 G3 := (sg.trans s2).trans s3
      refine q3 G3 σ3 H3 _ ((s.trans s1).trans s13) R3 E3 fun b G4 M4 H4 s4 R4 q4 => ?_
      cases b with
      | false => exact ⟨G4, M4, acc, accV, s13.trans s4, R4, hacc.mono ((s2.trans s3).trans s4), q4⟩
      | true =>
        refine q4 G4 σ3 H4 _ ((s.trans s1).trans (s13.trans s4)) R4 (E3.mono s4) fun yd yv G5 M5 H5 s5 R5 dy q5 => ?_
        have s25 : Same G' G5 := ((s2.trans s3).trans s4).trans s5
        refine ⟨accV, R5.fr D _ upd_same, by rw [hacc.length]; exact hz, ?_⟩
        exact ⟨G5, M5, acc ++ [yd], accV ++ [yv], sg.trans s25, R5.frSet, (hacc.mono s25).append (datL_cons' dy datL_nil'), q5⟩
  · have ei : i = items.length := by omega
    subst ei
    rw [List.drop_length] at lp
    refine .inl ⟨it.stop _ G' _ M' H' sg R' (Nat.le_refl _), ?_⟩
    have gD := (R'.fd D _ upd_same).1
    exact r _ _ (upd G' D (.lst accV)) M' H' ((s1.trans sg).trans (same_new gD)) (R'.ofFr fD) (dat_lst.mpr ⟨D, accV, rfl, upd_same, hacc.mono (same_new gD)⟩) lp
/-- each item is taken, each gives a thing of its own: the list of these -/
theorem comp_map {k : List DV → Mu → Prop} (f : DV → DV) : ∀ (items acc : List DV), acc.length + items.length ≤ sizeLine →
    (∀ d ∈ items, ∀ F k2, k2 (f d) M → WG (Z.fr F) g d ρ M fun ρ2 M2 => WT (Z.fr F) tt ρ2 M2 fun b M3 => b = true ∧ WE (Z.fr F) te ρ2 M3 k2) → k (acc ++ items.map f) M → Comp Z g tt te ρ k items acc M
  | [], acc, hz, h, q => by
    show k acc M
    simpa using q
  | d :: ds, acc, hz, h, q => by
    simp only [List.length_cons] at hz
    refine ⟨by omega, fun F => ?_⟩
    have := h d List.mem_cons_self F (fun y M4 => Comp Z g tt te ρ k ds (acc ++ [y]) M4) (comp_map f ds (acc ++ [f d]) (by simp; omega) (fun d' hd => h d' (List.mem_cons_of_mem _ hd)) (by simpa using q))
    intro G σ H v P s R E x n
    refine this G σ H v P s R E x fun ρ1 σ1 G1 M1 H1 s1 R1 E1 q1 => n ρ1 σ1 G1 M1 H1 s1 R1 E1 ?_
    exact q1.imp fun b M' ⟨hb, q⟩ => by rw [if_pos hb]; exact q
end
mutual
def DV.py : DV → Option PyData
  | .v .non => some .none
  | .v (.bl b) => some (.bool b)
  | .v (.int i) => some (.int i)
  | .v (.str x) => some (.str x)
  | .lst ds => (pyL ds).map .list
  | .tup ds => (pyL ds).map .tuple
  | _ => none
def pyL : List DV → Option (List PyData)
  | [] => some []
  | d :: ds => match d.py, pyL ds with
    | some p, some ps => some (p :: ps)
    | _, _ => none
end
section
variable {W : Wd} {Z : Zn} {G G' F : Hp} {ρ : Ro} {σ : L2.St} {M : Mu} {H : Hp} {Q2 Q2' : DQ} {d e x y : DV} {ds es : List DV} {v : V}
theorem pyL_cons {ps : List PyData} (h : pyL (d :: ds) = some ps) : ∃ p qs, d.py = some p ∧ pyL ds = some qs ∧ ps = p :: qs := by
  unfold pyL at h
  cases h1 : d.py with
  | none => rw [h1] at h; cases h
  | some p =>
    cases h2 : pyL ds with
    | none => rw [h1, h2] at h; cases h
    | some qs =>
      rw [h1, h2] at h
      cases h
      exact ⟨p, qs, rfl, rfl, rfl⟩
mutual
theorem Dat.dp (ex : Same G H) : ∀ {d : DV} {v : V} {p : PyData}, Dat W G d v → d.py = some p → Dp W.K H v p
  | .v x, v, p, h, e => by
    rw [dat_v.mp h]
    cases x <;> simp [DV.py] at e <;> subst e
    · exact .non
    · exact .bl _
    · exact .int _
    · exact .str _
  | .lst ds, v, p, h, e => by
    obtain ⟨a, xs, h1, h2, h3⟩ := dat_lst.mp h
    simp only [DV.py, Option.map_eq_some_iff] at e
    obtain ⟨ps, e1, e2⟩ := e
    rw [h1, ← e2]
    exact .lst (SqL.of (ex _ _ h2)) (DatL.dp ex h3 e1)
  | .tup ds, v, p, h, e => by
    obtain ⟨a, xs, h1, h2, h3⟩ := dat_tup.mp h
    simp only [DV.py, Option.map_eq_some_iff] at e
    obtain ⟨ps, e1, e2⟩ := e
    rw [h1, ← e2]
    exact .tup (sqt_mono ex h2) (DatL.dp ex h3 e1)
  | .obj C ns ds, v, p, h, e => by simp [DV.py] at e
  | .dk ks ds, v, p, h, e => by simp [DV.py] at e
  | .dl ks ds, v, p, h, e => by simp [DV.py] at e
  | .fn _ _, v, p, h, e => by simp [DV.py] at e
theorem DatL.dp (ex : Same G H) : ∀ {ds : List DV} {vs : List V} {ps : List PyData}, DatL W G ds vs → pyL ds = some ps → DpAll W.K H vs ps
  | [], vs, ps, h, e => by
    rw [datL_nil.mp h]
    simp [pyL] at e
    subst e
    exact .nil
  | d :: ds, vs, ps, h, e => by
    obtain ⟨y, r, e1, h1, h2⟩ := datL_cons.mp h
    obtain ⟨p, qs, f1, f2, f3⟩ := pyL_cons e
    rw [e1, f3]
    exact .cons (Dat.dp ex h1 f1) (DatL.dp ex h2 f2)
end
/-- as data: frozen, or a changeable list at the top -/
def PyOf (M : Mu) (d : DV) (p : PyData) : Prop := d.py = some p ∨ ∃ a ds ps, d = .r a ∧ M a = some (.lst ds) ∧ pyL ds = some ps ∧ p = .list ps
theorem PyOf.dp {p : PyData} (R : Rep W G M F H) (h : Dat W G d v) (o : PyOf M d p) : Dp W.K H v p := by
  rcases o with o | ⟨a, ds, ps, rfl, hm, e, rfl⟩
  · exact h.dp R.ex o
  · obtain ⟨xs, h1, h2⟩ := (R.mu a _ hm).2
    rw [dat_v.mp h]
    exact .lst (SqL.of h1) (h2.dp R.ex e)
theorem wr_eqD {p q : PyData} (h1 : PyOf M x p) (h2 : PyOf M y q) (s1 : SeqAt.shaped p = true) (s2 : SeqAt.shaped q = true) (h : Q2 (.b (PyData.eqv p q)) M) : WR Z (rEqD Z.W.K) x y M Q2 := fun G H vx vy Q s R dx dy r =>
  ⟨p, q, h1.dp R dx, h2.dp R dy, s1, s2, r _ _ G M H (Same.refl G) R dat_v' h⟩
theorem wr_neD {p q : PyData} (h1 : PyOf M x p) (h2 : PyOf M y q) (s1 : SeqAt.shaped p = true) (s2 : SeqAt.shaped q = true) (h : Q2 (.b (!PyData.eqv p q)) M) : WR Z (rNeD Z.W.K) x y M Q2 := fun G H vx vy Q s R dx dy r =>
  ⟨p, q, h1.dp R dx, h2.dp R dy, s1, s2, r _ _ G M H (Same.refl G) R dat_v' h⟩
theorem wr_inD {p : PyData} {qs : List PyData} (h1 : PyOf M x p) (h2 : PyOf M y (.list qs)) (s1 : SeqAt.shaped p = true) (s2 : SeqAt.shaped (.list qs) = true) (h : Q2 (.b (qs.any fun z => PyData.eqv z p)) M) : WR Z (rInD Z.W.K) x y M Q2 := fun G H vx vy Q s R dx dy r =>
  ⟨p, qs, h1.dp R dx, h2.dp R dy, s1, s2, r _ _ G M H (Same.refl G) R dat_v' h⟩
theorem wr_notInD {p : PyData} {qs : List PyData} (h1 : PyOf M x p) (h2 : PyOf M y (.list qs)) (s1 : SeqAt.shaped p = true) (s2 : SeqAt.shaped (.list qs) = true) (h : Q2 (.b (!qs.any fun z => PyData.eqv z p)) M) : WR Z (rNotInD Z.W.K) x y M Q2 := fun G H vx vy Q s R dx dy r =>
  ⟨p, qs, h1.dp R dx, h2.dp R dy, s1, s2, r _ _ G M H (Same.refl G) R dat_v' h⟩
def TyD (W : Wd) (M : Mu) (d : DV) (t : Value) : Prop := ∀ G F H v, Rep W G M F H → Dat W G d v → TyX W.K H v t
theorem wc_isi {x : DV} {c : V} {t u : Value} {b : Bool} (hc : ClsV c u) (ht : TyD Z.W M x t) (hk : PySem.W.kitOne Z.W.K t u = some b) (h : Q2 (.b b) M) : WC Z (rIsi Z.W.K) [x, .v c] M Q2 := fun G H vs Q s R xs r => by
  obtain ⟨y, z, e1, h1, h2⟩ := two_of xs
  rw [dat_v.mp h2] at e1
  exact ⟨y, c, t, u, b, e1, hc, ht G Z.F H y R h1, hk, r _ _ G M H (Same.refl G) R dat_v' h⟩
theorem tyD_non : TyD W M .n (.type "NoneType") := fun G F H v R h => by rw [dat_v.mp h]; exact .base .non
theorem tyD_bl {b : Bool} : TyD W M (.b b) (.type "bool") := fun G F H v R h => by rw [dat_v.mp h]; exact .base (.bl b)
theorem tyD_int {i : Int} : TyD W M (.i i) (.type "int") := fun G F H v R h => by rw [dat_v.mp h]; exact .base (.int i)
theorem tyD_str {z : Str} : TyD W M (.s z) (.type "str") := fun G F H v R h => by rw [dat_v.mp h]; exact .base (.str z)
theorem tyD_lst (l : LstOf M d ds) : TyD W M d (.type "list") := fun G F H v R h => by
  obtain ⟨a, xs, e1, e2, e3⟩ := lst_at R h l
  rw [e1]
  exact .base (.lst e2)
theorem tyD_tup : TyD W M (.tup ds) (.type "tuple") := fun G F H v R h => by
  obtain ⟨a, xs, e1, e2, e3⟩ := dat_tup.mp h
  rw [e1]
  rcases sqt_mono R.ex e2 with (q | ⟨o, q⟩) | ⟨o, its, n, k1, k2, _⟩
  · exact .base (.tup q)
  · exact .fTuple q
  · exact .kTuple k1 k2
theorem tyD_dk {ks : List Key} : TyD W M (.dk ks ds) (.type "dict") := fun G F H v R h => by
  obtain ⟨a, xs, e1, e2, e3, e4⟩ := dat_dk.mp h
  rw [e1]
  rcases Rd.same R.ex e2 with q | ⟨o, q⟩
  · exact .base (.dK q)
  · exact .fDict q
end
end DL
set_option Elab.async false
set_option linter.all false
set_option maxRecDepth 100000
set_option maxHeartbeats 4000000
namespace DL
open PySem PySem.Spec PyProof.Rows L2
section
variable {X : Cx} {e : Expr} {es : List Expr} {ta : TA} {p1 p2 pos : Pos}
theorem pe_finit {x : Str} {B : Addr} {pl : Sem Bool} (hg : Gl X x) (hm : X.mg x = some (.ref B)) (sp : PySem.W.specialIn X.K (.ref B) "__getattribute__" = some (some (.builtin "type.__getattribute__")))
    (rd : PySem.W.readsIn X.K B (.type "type") = true) (fc : PySem.W.findCls X.K (.ref B) (.type "type") "__init__" = some (.val (.builtin "ValueError.__init__"))) (ha : PA X (e :: es) ta)
    (hc : eval (.Call (.Attribute (.Name x p1) "__init__" p2) (e :: es) [] pos) X.env = (do
      let ov ← eval (.Name x p1) X.env
      standAt p2.atName
      let (f, first) ← holding [ov] (getMethod ov "__init__" pl)
      callWith pos f first (backTo pos (starEach (e :: es) X.env)) (backToKw pos (keywordEach [] X.env))) := by rfl)
    (hdb : (x == ("__debug__" : Str)) = false := by decide)
    (he : starEach (e :: es) X.env = (false, eval e X.env) :: starEach es X.env := by rfl) (hpl : (backTo pos (starEach es X.env)).any (·.1) = false := by rfl) :
    PE X (.Call (.Attribute (.Name x p1) "__init__" p2) (e :: es) [] pos) (tVeI X.K ta) := by
  refine ⟨fun pins s σ H Q I h => ?_⟩
  refine PySem.W.methodCall_KW (ld_glob I hg hm ?_ hdb) hc
  refine PySem.W.method_cls I.kIn sp (PySem.W.cls_value I.kIn rd fc (by decide +kernel) ?_)
  refine PyProof.Rows.callWith_method1 (thn (ha.run pos pins _ σ H _ (I.tok _) h) fun us s1 ⟨vs, H1, I1, r1, a, C, ws, ev, hl, T, ea, q⟩ => ?_) he hpl
  subst ev
  cases r1 with
  | @cons _ u0 _ ur ra rw' =>
    obtain rfl : u0 = Value.ref a := ra
    have hlen : ur.length ≤ sizeLine := by
      rw [← Paired.length rw', sizeLine_eq]
      omega
    exact oinit_ok T I1 ea hlen fun s' J => ⟨.non, H1, J, rfl, q⟩
end
/-- what __init__(self, f): B.__init__(self, ..); self.f = f keeps -/
def spX1 (C : Addr) (f : Str) : Sp := fun vs H Q _ => ∃ (a : Addr) (v : V), vs = [.ref a, v] ∧ H a = some (exo a C none) ∧ ∀ d, H d = none → d ≠ a → Q .non (upd (upd H d (exd d [(f, v)])) a (exo a C (some d)))
abbrev WX2 := Addr → List Str → List DV → Ro → Mu → Prop
def WxOk (Z : Zn) (W2 : WX2) (Wx : WX) : Prop := ∀ C ns ds d ρ' σ' G' M' H', Same Z.G G' → Rep Z.W G' M' Z.F H' → EnvOk Z.W G' ρ' σ' → XdOk Z.W G' d ns ds → W2 C ns ds ρ' M' → Wx (.ref C) d σ' H'
theorem wx_of {Z : Zn} {E2 : XK2} {E : XK} (h : XcOk Z E2 E) : WxOk Z (fun C ns ds _ M => E2 C ns ds M) (fun cls d _ H => E cls d H) := fun C ns ds d ρ' σ' G' M' H' s R _ x q => h C ns ds d G' M' H' s R x q
section
variable {W : Wd} {Z : Zn} {G G' F : Hp} {ρ : Ro} {σ : L2.St} {M : Mu} {H : Hp} {te ta tb tc : TE} {tt tu : TT} {ts tr : TS} {tx : TA} {Q2 Q2' : DQ} {D2 : Ends2} {d e x y : DV} {ds es : List DV} {v : V} {W2 : WX2} {Wx : WX}
/-- raise C(e), C with one field -/
theorem ws_raise1 {C : Addr} {f : Str} (hw : WxOk Z W2 Wx) (h : WA Z tx ρ M fun ds M1 => ∃ d, ds = [d] ∧ W2 C [f] [d] ρ M1) : WS Z (fun _ σ H => tMkO C (spX1 C f) [] tx σ H fun cls d H' => Wx cls d σ H') D2 ρ M := fun G σ H D s R E k =>
  h G σ H _ s R E fun ds vs G1 M1 H1 s1 R1 xs q => by
    obtain ⟨d0, rfl, q⟩ := q
    obtain ⟨y, e1, hy⟩ := one_of xs
    subst e1
    refine ⟨by show 1 ≤ 1000; decide, fun a ha => ⟨a, y, rfl, upd_same, fun dd hd hne => ⟨rfl, ?_⟩⟩⟩
    have hd1 : H1 dd = none := by rw [upd_ne hne] at hd; exact hd
    refine ⟨dd, [(f, y)], upd_same, ?_, hd1, ?_⟩
    · rw [upd_ne hne, upd_same]
    · have R2 : Rep Z.W (upd G1 dd (.xd [(f, y)])) M1 Z.F (upd H1 dd (.xd [(f, y)])) := R1.new hd1
      have sn := same_new (o := .xd [(f, y)]) (R1.gnone hd1)
      have key : upd (L2.del (upd (upd (upd H1 a (exo a C none)) dd (exd dd [(f, y)])) a (exo a C (some dd))) a) dd (.xd [(f, y)]) = upd H1 dd (.xd [(f, y)]) := by
        funext b
        by_cases h1 : b = dd
        · rw [h1, upd_same, upd_same]
        · rw [upd_ne h1, upd_ne h1]
          by_cases h2 : b = a
          · rw [h2, L2.del_same, ha]
          · rw [L2.del_ne h2, upd_ne h2, upd_ne h1, upd_ne h2]
      rw [key]
      exact hw C [f] [d0] (some dd) ρ σ _ M1 _ ((s.trans s1).trans sn) R2 ((E.mono s1).mono sn) ⟨[y], upd_same, rfl, datL_cons' (hy.mono sn) datL_nil'⟩ q
abbrev Zn.at (Z : Zn) (G : Hp) : Zn := ⟨Z.W, G, Z.F⟩
/-- try: .. except X as n: .. -/
theorem ws_try {K : PySem.W.Frag} (hK : K = Z.W.K) {tb : WX → TS} {c : Value} {i : Nat} {ts : Addr → Value → Option Addr → TS} {Wout : WX} (W2 : WX2)
    (hb : ∀ G1 Wx, Same Z.G G1 → WxOk (Z.at G1) W2 Wx → WS (Z.at G1) (tb Wx) D2 ρ M)
    (hs : ∀ C ns ds ρ' M', W2 C ns ds ρ' M' → PySem.W.exmOne Z.W.K (.ref C) c = some true ∧ ∀ G1 d a, Same Z.G G1 → XdOk Z.W G1 d ns ds →
      WS (Z.at G1) (ts a (.ref C) d) { nx := fun ρ2 M2 => D2.nx (ρ2.set i none) M2, rt := D2.rt, bk := fun ρ2 M2 => D2.bk (ρ2.set i none) M2, ct := fun ρ2 M2 => D2.ct (ρ2.set i none) M2 } (ρ'.set i (some (.r a))) M') :
    WS Z (fun D σ H => tb (wAs K c i ts Wout D) D σ H) D2 ρ M := fun G σ H D s R E k => by
  subst hK
  refine hb G _ s ?_ G σ H D (Same.refl G) R E k
  intro C ns ds d ρ' σ' G' M' H' s' R' E' x' q
  obtain ⟨e1, e2⟩ := hs C ns ds ρ' M' q
  refine ⟨true, e1, fun _ a ha => ?_, fun z => nomatch z⟩
  have ss : Same G G' := s'
  refine e2 G' d a (s.trans ss) x' G' _ H' _ (Same.refl G') R' (E'.set dat_v') ?_
  have nx : ∀ (P2 : Ro → Mu → Prop) (P : L2.St → Hp → Prop), NxOk Z.W G Z.F P2 P → NxOk Z.W G' Z.F (fun ρ2 M2 => P2 (ρ2.set i none) M2) (fun σ' H' => P (σ'.set i none) H') := fun P2 P h ρ2 σ2 G2 M2 H2 s2 R2 E2 q2 =>
    h _ _ G2 M2 H2 (ss.trans s2) R2 E2.setN q2
  exact ⟨nx _ _ k.nx, k.rt.mono ss, nx _ _ k.bk, nx _ _ k.ct⟩
end
def rIsX (K : PySem.W.Frag) (cls : Value) (d : Option Addr) (a : Addr) : List V → Hp → VK → Prop := fun xs H Q => ∃ (D : Addr) (c : V) (cv : Value) (b : Bool), cls = .ref D ∧ ExcC K D ∧ xs = [.ref a, c] ∧ ClsV c cv ∧
  PySem.W.kitOne K (.ref D) cv = some b ∧ (d = none ∨ ∃ dd fs, d = some dd ∧ H dd = some (.xd fs)) ∧ Q (.bl b) H
section
variable {X : Cx} {a : Addr} {oe : Obj} {cls : Value} {d : Option Addr} {pn : List (Addr × Obj)}
theorem inst_of {D : Addr} {pins : List (Addr × Obj)} {σ : L2.St} {H : Hp} {s : Shared} (I : Inv (X.suite a ((a, oe) :: pn)) pins σ H s) (hz : Zc (.ref D) d oe) (hf : ∃ vs, oe.data = .fields vs) (hd : d = none ∨ ∃ dd fs, d = some dd ∧ H dd = some (.xd fs)) :
    ∃ od, PySem.W.InstAt s.heap a oe D od := by
  obtain ⟨hget, _⟩ := I.pin (a, oe) (List.mem_append.mpr (.inl List.mem_cons_self))
  obtain ⟨vs, hv⟩ := hf
  obtain ⟨oc, od, oda, osl⟩ := oe
  obtain ⟨h1, h2⟩ := hz
  dsimp only at h1 h2 hv
  rcases hd with rfl | ⟨dd, fs, rfl, e⟩
  · subst h1 h2 hv
    exact ⟨none, hget, rfl, rfl, trivial⟩
  · obtain ⟨u, hu⟩ := objOk_get (I.hok dd _ e)
    subst h1 h2 hv
    exact ⟨some u, hget, rfl, rfl, hu⟩
theorem kitx_of_excC {K : PySem.W.Frag} {D x : Addr} {ox : Obj} {od : Option Obj} (C : ExcC K D) : PySem.W.KitX K (.ref x) (.ref D) (fun h => PySem.W.InstAt h x ox D od) := by
  obtain ⟨cd, hc, _⟩ := PySem.W.any_some C.hd
  exact PySem.W.kitx_exc (by rw [hc]; rfl) C.hg C.hk C.hs C.ha C.hn C.ht C.hm
theorem call_isX (hz : Zc cls d oe) (hf : ∃ vs, oe.data = .fields vs) : CallR (X.suite a ((a, oe) :: pn)) (.builtin "isinstance") (rIsX X.K cls d a) := by
  intro pins s σ H xs us Q I r h
  obtain ⟨D, c, cv, b, rfl, C, rfl, hcv, e, hd, q⟩ := h
  obtain ⟨u1, u2, rfl, r1, r2⟩ := vals2 r
  cases (show u1 = Value.ref a from r1)
  have ec := hcv.eq r2
  subst ec
  obtain ⟨od, J⟩ := inst_of I hz hf hd
  exact PySem.W.kia_one (kitx_of_excC C) I.kIn J e (fun z => nomatch z) fun tk => ⟨.bl b, H, I.kept (t' := tk) fun _ _ z => z, rfl, q⟩
end
section
variable {W : Wd} {Z : Zn} {G G' F : Hp} {ρ : Ro} {σ : L2.St} {M : Mu} {H : Hp} {te : TE} {Q2 Q2' : DQ} {ns : List Str} {ds : List DV}
theorem xd_there (hx : XdOk W G d ns ds) (s : Same G H) : d = none ∨ ∃ dd fs, d = some dd ∧ H dd = some (.xd fs) := by
  cases d with
  | none => exact .inl rfl
  | some dd =>
    obtain ⟨xs, h1, _⟩ := hx
    exact .inr ⟨dd, _, rfl, s _ _ h1⟩
theorem wc_isX {a D : Addr} {d : Option Addr} {c : V} {cv : Value} {b : Bool} (C : ExcC Z.W.K D) (hx : XdOk Z.W Z.G d ns ds) (hc : ClsV c cv) (hk : PySem.W.kitOne Z.W.K (.ref D) cv = some b) (h : Q2 (.b b) M) : WC Z (rIsX Z.W.K (.ref D) d a) [.r a, .v c] M Q2 := fun G H vs Q s R xs r => by
  obtain ⟨y, z, e1, h1, h2⟩ := two_of xs
  rw [dat_v.mp h1, dat_v.mp h2] at e1
  exact ⟨D, c, cv, b, rfl, C, e1, hc, hk, xd_there hx (s.trans R.ex), r _ _ G M H (Same.refl G) R dat_v' h⟩
theorem we_xf {a C : Addr} {cls : Value} {d : Option Addr} {f : Str} (hx : XdOk Z.W Z.G d ns ds) (h : WE Z te ρ M fun x M1 => x = .r a ∧ cls = .ref C ∧ ∃ e, d.isSome = true ∧ (ns.zip ds).lookup f = some e ∧ Q2 e M1) : WE Z (tXf a cls d C f te) ρ M Q2 := fun G σ H Q s R E r =>
  h G σ H _ s R E fun x v G1 M1 H1 s1 R1 hv q => by
    obtain ⟨rfl, rfl, e, hs, l, q⟩ := q
    cases d with
    | none => cases hs
    | some dd =>
      obtain ⟨xs, h1, h2, h3⟩ := hx
      have sz : Same Z.G G1 := s.trans s1
      obtain ⟨y, l1, l2⟩ := zip_look (h3.mono sz) l
      exact ⟨dat_v.mp hv, rfl, dd, _, y, rfl, R1.ex _ _ (sz _ _ h1), l1, r _ _ G1 M1 H1 s1 R1 l2 q⟩
end
end DL
set_option Elab.async false
set_option linter.all false
set_option maxRecDepth 100000
set_option maxHeartbeats 4000000
namespace DL
open PySem PySem.Spec PyProof.Rows L2
theorem lex_irrefl : ∀ x : List Int, HT.lexLt x x = false
  | [] => rfl
  | a :: x => by rw [HT.lexLt_cons, if_pos rfl]; exact lex_irrefl x
theorem lex_asym : ∀ x y : List Int, HT.lexLt x y = true → HT.lexLt y x = false
  | [], [], h => rfl
  | [], _ :: _, h => rfl
  | _ :: _, [], h => nomatch h
  | a :: x, b :: y, h => by
    rw [HT.lexLt_cons] at h ⊢
    by_cases e : a = b
    · rw [if_pos e] at h; rw [if_pos e.symm]; exact lex_asym x y h
    · rw [if_neg e] at h; rw [if_neg (Ne.symm e)]
      have := of_decide_eq_true h
      exact decide_eq_false (by omega)
theorem lex_trans : ∀ x y z : List Int, HT.lexLt x y = true → HT.lexLt y z = true → HT.lexLt x z = true
  | [], [], z, h, _ => nomatch h
  | [], _ :: _, [], _, k => nomatch k
  | [], _ :: _, _ :: _, _, _ => rfl
  | _ :: _, [], z, h, _ => nomatch h
  | _ :: _, _ :: _, [], _, k => nomatch k
  | a :: x, b :: y, c :: z, h, k => by
    rw [HT.lexLt_cons] at h k ⊢
    by_cases e : a = b
    · rw [if_pos e] at h
      by_cases f : b = c
      · rw [if_pos f] at k; rw [if_pos (e.trans f)]; exact lex_trans x y z h k
      · rw [if_neg f] at k; rw [if_neg (by omega)]
        have := of_decide_eq_true k
        exact decide_eq_true (by omega)
    · rw [if_neg e] at h
      have h' := of_decide_eq_true h
      by_cases f : b = c
      · rw [if_neg (by omega)]; exact decide_eq_true (by omega)
      · rw [if_neg f] at k
        have k' := of_decide_eq_true k
        rw [if_neg (by omega)]; exact decide_eq_true (by omega)
theorem lex_tot : ∀ x y : List Int, x = y ∨ HT.lexLt x y = true ∨ HT.lexLt y x = true
  | [], [] => .inl rfl
  | [], _ :: _ => .inr (.inl rfl)
  | _ :: _, [] => .inr (.inr rfl)
  | a :: x, b :: y => by
    rw [HT.lexLt_cons, HT.lexLt_cons]
    by_cases e : a = b
    · subst e
      rw [if_pos rfl, if_pos rfl]
      rcases lex_tot x y with h | h | h
      · exact .inl (by rw [h])
      · exact .inr (.inl h)
      · exact .inr (.inr h)
    · rw [if_neg e, if_neg (Ne.symm e)]
      by_cases h : a < b
      · exact .inr (.inl (decide_eq_true h))
      · exact .inr (.inr (decide_eq_true (by omega)))
/-- rows, sorted, each once -/
def insU (r : List Int) : List (List Int) → List (List Int)
  | [] => [r]
  | x :: xs => if HT.lexLt r x then r :: x :: xs else if r = x then x :: xs else x :: insU r xs
def sset (rows : List (List Int)) : List (List Int) := rows.foldr insU []
abbrev Rising (l : List (List Int)) : Prop := l.Pairwise fun x y => HT.lexLt x y = true
theorem mem_insU {r z : List Int} : ∀ {l : List (List Int)}, z ∈ insU r l ↔ z = r ∨ z ∈ l
  | [] => by simp [insU]
  | x :: xs => by
    unfold insU
    by_cases h : HT.lexLt r x
    · rw [if_pos h]; simp
    · rw [if_neg h]
      by_cases e : r = x
      · rw [if_pos e]; subst e; simp
      · rw [if_neg e]; simp only [List.mem_cons, mem_insU (l := xs)]
        constructor
        · rintro (h | h | h)
          · exact .inr (.inl h)
          · exact .inl h
          · exact .inr (.inr h)
        · rintro (h | h | h)
          · exact .inr (.inl h)
          · exact .inl h
          · exact .inr (.inr h)
theorem rising_insU {r : List Int} : ∀ {l : List (List Int)}, Rising l → Rising (insU r l)
  | [], _ => by simp [insU, Rising]
  | x :: xs, h => by
    unfold insU
    obtain ⟨h1, h2⟩ := List.pairwise_cons.mp h
    by_cases c : HT.lexLt r x
    · rw [if_pos c]
      refine List.pairwise_cons.mpr ⟨fun z hz => ?_, h⟩
      rcases List.mem_cons.mp hz with e | e
      · rw [e]; exact c
      · exact lex_trans _ _ _ c (h1 z e)
    · rw [if_neg c]
      by_cases e : r = x
      · rw [if_pos e]; exact h
      · rw [if_neg e]
        refine List.pairwise_cons.mpr ⟨fun z hz => ?_, rising_insU h2⟩
        rcases mem_insU.mp hz with q | q
        · subst q
          rcases lex_tot z x with k | k | k
          · exact absurd k e
          · rw [k] at c; exact absurd rfl c
          · exact k
        · exact h1 z q
theorem mem_sset {z : List Int} : ∀ {l : List (List Int)}, z ∈ sset l ↔ z ∈ l
  | [] => by simp [sset]
  | x :: xs => by
    show z ∈ insU x (sset xs) ↔ _
    rw [mem_insU, mem_sset, List.mem_cons]
theorem rising_sset : ∀ (l : List (List Int)), Rising (sset l)
  | [] => List.Pairwise.nil
  | x :: xs => rising_insU (rising_sset xs)
theorem rising_uniq : ∀ {l m : List (List Int)}, Rising l → Rising m → (∀ z, z ∈ l ↔ z ∈ m) → l = m
  | [], [], _, _, _ => rfl
  | [], y :: m, _, _, h => absurd ((h y).mpr List.mem_cons_self) (by simp)
  | x :: l, [], _, _, h => absurd ((h x).mp List.mem_cons_self) (by simp)
  | x :: l, y :: m, hl, hm, h => by
    obtain ⟨l1, l2⟩ := List.pairwise_cons.mp hl
    obtain ⟨m1, m2⟩ := List.pairwise_cons.mp hm
    have e : x = y := by
      rcases List.mem_cons.mp ((h x).mp List.mem_cons_self) with e | hx
      · exact e
      · rcases List.mem_cons.mp ((h y).mpr List.mem_cons_self) with e | hy
        · exact e.symm
        · have a := m1 x hx
          have b := l1 y hy
          rw [lex_asym _ _ a] at b; cases b
    subst e
    have ih : l = m := rising_uniq l2 m2 fun z => by
      constructor
      · intro hz
        rcases List.mem_cons.mp ((h z).mp (List.mem_cons_of_mem _ hz)) with e | q
        · subst e
          have := l1 z hz
          rw [lex_irrefl] at this; cases this
        · exact q
      · intro hz
        rcases List.mem_cons.mp ((h z).mpr (List.mem_cons_of_mem _ hz)) with e | q
        · subst e
          have := m1 z hz
          rw [lex_irrefl] at this; cases this
        · exact q
    rw [ih]
theorem Rising.nodup {l : List (List Int)} (h : Rising l) : l.Nodup := h.imp fun {x y} q e => by
  subst e
  rw [lex_irrefl] at q; cases q
/-- sorted of a set of tuples of ints, all of one length -/
def rSortG (W : Wd) : List V → Hp → VK → Prop := fun vs H Q => ∃ (a : Addr) (L : List (Addr × List Int)) (d : Nat), vs = [V.ref a] ∧ H a = some (SetTO W.P W.w a L) ∧ (∀ p ∈ L, SqT W.K H p.1 (p.2.map V.int)) ∧ (∀ p ∈ L, p.2.length = d) ∧
  ∀ (L' : List (Addr × List Int)) (p : Addr), L'.Perm L → L'.Pairwise (fun q r => HT.lexLt q.2 r.2 = true) → H p = none → Q (.ref p) (upd H p (.lst (L'.map fun q => V.ref q.1)))
/-- a row as data -/
abbrev rowD (r : List Int) : DV := .tup (r.map DV.i)
section
variable {W : Wd} {Z : Zn} {G G' F : Hp} {ρ : Ro} {M : Mu} {H : Hp} {te : TE} {Q2 : DQ}
theorem rows_keys : ∀ {rows : List (List Int)} {xs : List V}, DatL W G (rows.map rowD) xs → ∃ ks : List (Addr × List Int), xs = ks.map (fun p => V.ref p.1) ∧ ks.map (·.2) = rows ∧ ∀ p ∈ ks, SqT W.K G p.1 (p.2.map V.int)
  | [], xs, h => ⟨[], by rw [datL_nil.mp h]; rfl, rfl, fun p hp => by cases hp⟩
  | r :: rows, xs, h => by
    obtain ⟨y, t, e, h1, h2⟩ := datL_cons.mp h
    obtain ⟨a, zs, e1, e2, e3⟩ := dat_tup.mp h1
    obtain ⟨ks, k1, k2, k3⟩ := rows_keys h2
    rw [datL_int e3] at e2
    refine ⟨(a, r) :: ks, by rw [e, e1, k1]; rfl, by rw [List.map_cons, k2], fun p hp => ?_⟩
    rcases List.mem_cons.mp hp with q | q
    · rw [q]; exact e2
    · exact k3 p q
theorem keys_rows : ∀ {ks : List (Addr × List Int)}, (∀ p ∈ ks, SqT W.K G p.1 (p.2.map V.int)) → DatL W G ((ks.map (·.2)).map rowD) (ks.map fun p => V.ref p.1)
  | [], _ => datL_nil'
  | p :: ks, h => datL_cons' (dat_tup.mpr ⟨p.1, _, rfl, h p List.mem_cons_self, by
      have : p.2.map DV.i = (p.2.map V.int).map DV.v := by rw [List.map_map]; rfl
      rw [this]
      exact datL_v _⟩) (keys_rows fun q hq => h q (List.mem_cons_of_mem _ hq))
theorem we_sset {P : Program} {w : World} {K : PySem.W.Frag} (hW : Z.W = ⟨P, w, K⟩) (h : WE Z te ρ M fun d M1 => ∃ (rows : List (List Int)) (n : Nat), LstOf M1 d (rows.map rowD) ∧ rows.length < 64 ∧ (∀ r ∈ rows, r.length = n) ∧ Q2 (.lst ((sset rows).map rowD)) M1) :
    WE Z (tCB (rSortG ⟨P, w, K⟩) (tCons (tCB (rSetOfT K P w) (tCons te tNil)) tNil)) ρ M Q2 := fun G σ H Q s R E r => by
  refine h G σ H _ s R E fun d v G1 M1 H1 s1 R1 x q => ?_
  obtain ⟨rows, n, l, hl, hn, q⟩ := q
  obtain ⟨a, xs, e1, e2, e3⟩ := lst_at R1 x l
  obtain ⟨ks, k1, k2, k3⟩ := rows_keys e3
  have kl : ks.length = rows.length := by rw [← k2, List.length_map]
  have hWK : Z.W.K = K := by rw [hW]
  have k3' : ∀ p ∈ ks, SqT K H1 p.1 (p.2.map V.int) := fun p hp => by rw [← hWK]; exact sqt_mono R1.ex (k3 p hp)
  subst e1
  refine ⟨a, ks, rfl, SqL.of (by rw [e2, k1]), k3', by omega, fun b L hb hL1 hL2 => ?_⟩
  have L3 : ∀ p ∈ L, SqT Z.W.K G1 p.1 (p.2.map V.int) := fun p hp => k3 p (hL1 p hp)
  refine ⟨b, L, n, rfl, upd_same, fun p hp => ?_, fun p hp => hn _ (by rw [← k2]; exact List.mem_map_of_mem (hL1 p hp)), fun L' p pm pw hp => ?_⟩
  · have := sqt_mono (same_new (o := SetTO P w b L) hb) (k3' p (hL1 p hp))
    exact this
  · have hp1 : H1 p = none := by
      by_cases e : p = b
      · rw [e, upd_same] at hp; cases hp
      · rw [upd_ne e] at hp; exact hp
    have R2 : Rep Z.W G1 M1 Z.F (upd H1 b (SetTO P w b L)) := R1.skip hb
    have es : sset rows = L'.map (·.2) := rising_uniq (rising_sset rows) (List.pairwise_map.mpr pw) fun z => by
      rw [mem_sset, ← k2]
      constructor
      · intro hz
        obtain ⟨p', hp', e'⟩ := List.mem_map.mp hz
        have := hL2 p' hp'
        rw [e'] at this
        exact (pm.map (·.2)).mem_iff.mpr this
      · intro hz
        obtain ⟨p', hp', e'⟩ := List.mem_map.mp ((pm.map (·.2)).mem_iff.mp hz)
        rw [← e']
        exact List.mem_map_of_mem (hL1 p' hp')
    rw [es] at q
    have sn := same_new (o := .lst (L'.map fun q => V.ref q.1)) (R2.gnone hp)
    exact r _ _ _ M1 _ (s1.trans sn) (R2.new hp) (dat_lst.mpr ⟨p, _, rfl, upd_same, (keys_rows fun p' hp' => L3 p' (pm.mem_iff.mp hp')).mono sn⟩) q
end
end DL
set_option Elab.async false
set_option linter.all false
set_option maxRecDepth 100000
set_option maxHeartbeats 4000000
namespace DL
open PySem PySem.Spec PyProof.Rows L2
theorem strs_at : ∀ {xs : List Str} {us : List Value}, Vals (xs.map V.str) us → ∀ (i : Nat) (v : Value), us[i]? = some v → ∃ x t, xs[i]? = some x ∧ v = Value.str x t
  | [], _, .nil, i, v, h => by simp at h
  | x :: xs, _, .cons r t, 0, v, h => by
    obtain ⟨k, rfl⟩ := r
    exact ⟨x, k, rfl, by simpa using h.symm⟩
  | x :: xs, _, .cons r t, i + 1, v, h => by
    obtain ⟨y, k, h1, h2⟩ := strs_at t i v (by simpa using h)
    exact ⟨y, k, by simpa using h1, h2⟩
end DL
set_option Elab.async false
set_option linter.all false
set_option maxRecDepth 100000
set_option maxHeartbeats 4000000
namespace DL
open PySem PySem.Spec PyProof.Rows L2
section
variable {prog : Program} {w : World} {A : Around} {E : Value → Shared → Prop} {s : Shared} {K : PySem.W.Frag} {x C f : Addr} {ox : Obj} {od : Option Obj} {b tb : Value}
open PySem.W in
theorem ifBound_B {M : Model} {name : Str} {id : String} {args : List Value} {Q : Option Value → Shared → Prop} (X : K.In s.heap) (I : InstAt s.heap x ox C od) (hs : findIn K (.ref C) name = some (some (.builtin id)))
    (hb : ∀ self, bindSpecial (.builtin id) self = pure (.builtin id, [self])) (h : wpAny M A (call (.builtin id) (.ref x :: args)) (fun v => Q (some v)) E s) : wpAny M A (callSpecialIfBound? (.ref x) name args) Q E s := by
  simp only [callSpecialIfBound?, bindSpecialIfBound?]
  refine wpAny_holding (wpAny_bind (wpAny_bind (wpAny_bind (I.type.here ((looks_findIn X hs).here ?_)))))
  have fin : wpAny M A (call (.builtin id) ([.ref x] ++ args) >>= fun v => pure (some v)) Q E s := wpAny_bind (wpAny_mono h (fun v s' h' => wpAny_pure h') fun _ _ h' => h')
  refine wpAny_bind (wpAny_askSetting (wpAny_ite ?_))
  split
  · exact wpAny_bind ((Looks.of_pure (hb _)).here (wpAny_pure (by exact fin)))
  · exact wpAny_tryCatch (wpAny_bind ((Looks.of_pure (hb _)).here (wpAny_pure (by exact fin))))
open PySem.W in
/-- x != b by object.__ne__, which asks the own __eq__ -/
theorem ne_own {Q : Value → Shared → Prop} (hu : A.units + 2 < cLine) (X : K.In s.heap) (I : InstAt s.heap x ox C od) (hb : Looks (model prog w) s.heap (typeOf b) tb) (hn : notFirst K C tb = true)
    (hne : findIn K (.ref C) "__ne__" = some (some (.builtin "object.__ne__"))) (heq : findIn K (.ref C) "__eq__" = some (some (.ref f))) (hf : isFn K (.ref f) = true) (hm : mroIn K C (.type "object") = some true)
    (h : wpAny (model prog w) A.in1 (call (.ref f) [.ref x, b]) (fun v s' => ∃ k, v = .bool k ∧ Q (.bool (!k)) s') E s) : wpAny (model prog w) A (richCompare .NotEq (.ref x) b) Q E s := by
  have inner : wpAny (model prog w) A (call (.builtin "object.__ne__") [.ref x, b]) (fun v s' => ∃ k, v = .bool k ∧ Q (.bool k) s') E s := by
    refine wpAny_call (codeAny_call_builtin PySem.F.cmp_object.ne.plain PySem.F.cmpEntry_ne (check_slot (i := "object.__ne__") (owner := "object") (n := "__ne__") PySem.F.cmpKind_ne PySem.F.cmpSplit_ne (I.type.andThen (looks_mroIn X hm)) (PySem.F.cmpArgs_ne _ _) ?_))
    unfold Builtin.«object.__ne__»
    refine wpAny_bind (m := slotArgs "__ne__" 1 _) (wpAny_pure ?_)
    refine wpAny_bind (m := cRoomFor _ _) (wpAny_cRoomFor (by show A.units + 1 < cLine; omega) ?_)
    refine wpAny_bind (m := callSpecialIfBound? (.ref x) (Str.ofString "__eq__") _) (ifBound_K X I heq hf (wpAny_mono h (fun v s' hv => ?_) fun _ _ y => y))
    obtain ⟨k, rfl, q⟩ := hv
    refine wpAny_bind (wpAny_truthy_bool ?_)
    exact wpAny_pure ⟨_, rfl, q⟩
  have one : wpAny (model prog w) A (tryCompare (.ref x) (cmpInfo .NotEq).2.1 b) (fun r s' => ∃ v, r = some v ∧ Q v s') E s := by
    unfold tryCompare
    refine wpAny_bind (ifBound_B X I hne PySem.F.cmp_object.ne.bind (wpAny_mono inner (fun v s' hv => ?_) fun _ _ e => e))
    obtain ⟨k, rfl, q⟩ := hv
    exact wpAny_pure ⟨_, rfl, q⟩
  unfold richCompare
  simp only [oneThing_ref]
  refine wpAny_holding (wpAny_bind (wpAny_cRoomFor (by omega) ?_))
  refine wpAny_bind (I.type.here (wpAny_bind (hb.here ?_)))
  split
  · rename_i q
    have e : subIn K tb (.ref C) = some false := by
      rcases Bool.or_eq_true_iff.mp hn with e | e
      · rw [beq_iff_eq.mp e] at q; simp at q
      · exact beq_iff_eq.mp e
    refine wpAny_bind ((looks_subIn X e).here ?_)
    simp only [Bool.false_eq_true, if_false]
    refine wpAny_bind (wpAny_mono one (fun r s' z => ?_) fun _ _ e => e)
    obtain ⟨v, rfl, hq⟩ := z
    exact wpAny_pure hq
  · refine wpAny_bind (wpAny_pure ?_)
    simp only [Bool.false_eq_true, if_false]
    refine wpAny_bind (wpAny_mono one (fun r s' z => ?_) fun _ _ e => e)
    obtain ⟨v, rfl, hq⟩ := z
    exact wpAny_pure hq
end
/-- what the text says of an own class with == -/
structure EqC (K : PySem.W.Frag) (C f : Addr) : Prop where
  heq : PySem.W.findIn K (.ref C) "__eq__" = some (some (.ref f))
  hne : PySem.W.findIn K (.ref C) "__ne__" = some (some (.builtin "object.__ne__"))
  hf : PySem.W.isFn K (.ref f) = true
  hm : PySem.W.mroIn K C (.type "object") = some true
  hcl : Cls K C
  hcs : PySem.W.findIn K (.ref C) "__class__" = some (some (.builtin "object.__class__"))
  hcg : PySem.W.specialIn K (.builtin "object.__class__") "__get__" = some (some (.builtin "getset_descriptor.__get__"))
  hct : PySem.W.takesIn K (.builtin "object.__class__") = some true
def rOwn (K : PySem.W.Frag) (C : Addr) (sp : Sp) (E : XK) (neg : Bool) : R2 := fun x y H Q => ∃ (a dx : Addr) (fs : List (Str × V)) (t : Value), x = .ref a ∧ H a = some (.ins C dx fs) ∧ TyX K H y t ∧ PySem.W.notFirst K C t = true ∧
  sp [x, y] H (fun v H' => ∃ k, v = .bl k ∧ Q (.bl (if neg then !k else k)) H') E
section
variable {X : Cx} {CX : CXT} {k : Nat} {f C : Addr} {fd : FuncData} {ps : List Str} {sp : Sp} {E : XK}
theorem run_own {A : Around} {pins : List (Addr × Obj)} {σ : L2.St} {H : Hp} {s : Shared} {Q : VK} {us : List Value} {vs : List V} (F : FnOk X.prog X.w X.K X.mg X.base CX k f fd ps sp) (hA : A.frames = X.A.frames) (hr : Room k A) (hb : Binds X.K fd ps []) (hx : Passes CX X E)
    (I : Inv X pins σ H s) (r : Vals vs us) (h : sp vs H Q E) : wpAny (model X.prog X.w) A (call (.ref f) us) (EP X pins σ Q) X.xe s := by
  have hl : us.length = ps.length := by rw [← r.length]; exact F.len _ _ _ _ h
  have e0 : Env0 X.prog X.w X.K X.mg X.base A X.stack s H := by
    have e := I.env0
    exact ⟨by rw [hA]; exact e.frames, e.mod, e.bs, e.bsz, e.funs, e.frf, e.hok, e.bare⟩
  have hbb := hb s us I.kIn (by simpa using hl)
  rw [List.append_nil] at hbb
  refine wpAny_call (codeAny_mono (F.run A X.stack s H ⟨us, []⟩ us vs Q E hr e0 hbb r h) fun rr s' hq => ?_)
  cases rr with
  | error e => exact hx pins σ H s e s' I hq
  | ok fl =>
    cases fl with
    | ret u => exact I.after hq
    | next => exact False.elim hq
    | brk => exact False.elim hq
    | cont => exact False.elim hq
theorem ty_of {pins : List (Addr × Obj)} {σ : L2.St} {H : Hp} {s : Shared} {y : V} {u t : Value} (I : Inv X pins σ H s) (ry : RelV y u) (ty : TyX X.K H y t) : PySem.W.Looks (model X.prog X.w) s.heap (typeOf u) t := by
  obtain ⟨P, Zk, p, _⟩ := kit_of I ry ty
  exact Zk.ty _ _ I.kIn p
theorem op_own_eq (T : EqC X.K C f) (F : FnOk X.prog X.w X.K X.mg X.base CX k f fd ps sp) (hr : Room k X.A) (hb : Binds X.K fd ps []) (hx : Passes CX X E) : OpR X (compareOp .Eq) (rOwn X.K C sp E false) := by
  intro pins s σ H x y v u Q I rx ry h
  obtain ⟨a, dx, fs, t, rfl, ha, ty, nf, h⟩ := h
  cases rx
  obtain ⟨mA, J, _⟩ := ins_get I.hok ha
  obtain ⟨od, J, _⟩ := J.look
  obtain ⟨m, hF⟩ := I.fr
  show wpAny _ _ (richCompare .Eq (.ref a) u) _ _ _
  refine PySem.W.cmp_K (op := .Eq) (tb := t) hr.units0 hF I.ok.mod.kin J (ty_of I ry ty) nf T.heq T.hf ?_
  refine thn (run_own F rfl hr hb hx I (show Vals [V.ref a, y] [Value.ref a, u] from .cons rfl (.cons ry .nil)) h) fun z s' hz => ?_
  obtain ⟨zv, H', I', rz, kb, rfl, q⟩ := hz
  cases rz
  exact ⟨.bl kb, H', I', rfl, q⟩
theorem op_own_ne (T : EqC X.K C f) (F : FnOk X.prog X.w X.K X.mg X.base CX k f fd ps sp) (hr : Room (k + 1) X.A) (hb : Binds X.K fd ps []) (hx : Passes CX X E) : OpR X (compareOp .NotEq) (rOwn X.K C sp E true) := by
  intro pins s σ H x y v u Q I rx ry h
  obtain ⟨a, dx, fs, t, rfl, ha, ty, nf, h⟩ := h
  cases rx
  obtain ⟨mA, J, _⟩ := ins_get I.hok ha
  obtain ⟨od, J, _⟩ := J.look
  show wpAny _ _ (richCompare .NotEq (.ref a) u) _ _ _
  refine ne_own (by have := hr.un; omega) I.kIn J (ty_of I ry ty) nf T.hne T.heq T.hf T.hm ?_
  refine thn (run_own F rfl hr.in1 hb hx I (show Vals [V.ref a, y] [Value.ref a, u] from .cons rfl (.cons ry .nil)) h) fun z s' hz => ?_
  obtain ⟨zv, H', I', rz, kb, rfl, q⟩ := hz
  cases rz
  exact ⟨kb, rfl, .bl (!kb), H', I', rfl, q⟩
/-- len(x) by an own __len__ -/
theorem call_lenO {fl : Addr} (hl : PySem.W.findIn X.K (.ref C) "__len__" = some (some (.ref fl))) (hf : PySem.W.isFn X.K (.ref fl) = true) (F : FnOk X.prog X.w X.K X.mg X.base CX k fl fd ps sp) (hr : Room (k + 1) X.A) (hb : Binds X.K fd ps []) (hx : Passes CX X E) :
    CallR X (.builtin "len") (fun xs H Q => ∃ (a dx : Addr) (fs : List (Str × V)), xs = [.ref a] ∧ H a = some (.ins C dx fs) ∧ sp [.ref a] H (fun v H' => ∃ n : Int, v = .int n ∧ 0 ≤ n ∧ n < 2 ^ 63 ∧ Q (.int n) H') E) := by
  intro pins s σ H xs us Q I r h
  obtain ⟨a, dx, fs, rfl, ha, h⟩ := h
  obtain ⟨u, rfl, ru⟩ := vals1 r
  cases ru
  obtain ⟨mA, J, _⟩ := ins_get I.hok ha
  obtain ⟨od, J, _⟩ := J.look
  obtain ⟨m, hF⟩ := I.fr
  refine PySem.W.len_K hF I.ok.mod.kin J hl hf ?_
  refine thn (run_own F rfl hr.in1 hb hx I (show Vals [V.ref a] [Value.ref a] from .cons rfl .nil) h) fun z s' hz => ?_
  obtain ⟨zv, H', I', rz, n, rfl, h0, h1, q⟩ := hz
  obtain ⟨t, rfl⟩ := rz
  exact ⟨⟨h0, h1⟩, .int n, H', I'.tok _, ⟨_, rfl⟩, q⟩
end
section
variable {W : Wd} {Z : Zn} {G G' F : Hp} {ρ : Ro} {M : Mu} {H : Hp} {te ta tb : TE} {tx tk : TA} {Q2 : DQ} {d e x y : DV} {ds es : List DV} {sp2 : Sp2} {E : XK} {E2 : XK2} {ns : List Str}
theorem wr_own {C : Addr} {t : Value} {neg : Bool} (hx : XcOk Z E2 E) (o : ObjOf M x C ns ds) (ht : TyD Z.W M y t) (nf : PySem.W.notFirst Z.W.K C t = true) (h : sp2 [x, y] M (fun v M' => ∃ k, v = .b k ∧ Q2 (.b (if neg then !k else k)) M') E2) :
    WR Z (rOwn Z.W.K C (lift Z.W sp2) E neg) x y M Q2 := fun G H vx vy Q s R dx dy r => by
  obtain ⟨a, ddx, xs, e1, e2, e3, e4⟩ := obj_at R dx o
  refine ⟨a, ddx, _, t, e1, e2, ht G Z.F H vy R dy, nf, G, Z.F, [x, y], M, _, E2, R, datL_cons' dx (datL_cons' dy datL_nil'), h, ?_, hx.mono s⟩
  intro d v G' M' H' s' R' hv q
  obtain ⟨k, rfl, q⟩ := q
  exact ⟨k, dat_v.mp hv, r _ _ G' M' H' s' R' dat_v' q⟩
theorem wc_lenO {C : Addr} (hx : XcOk Z E2 E) (o : ObjOf M x C ns ds) (h : sp2 [x] M (fun v M' => ∃ n : Int, v = .i n ∧ 0 ≤ n ∧ n < 2 ^ 63 ∧ Q2 (.i n) M') E2) :
    WC Z (fun xs H Q => ∃ (a dx : Addr) (fs : List (Str × V)), xs = [.ref a] ∧ H a = some (.ins C dx fs) ∧ lift Z.W sp2 [.ref a] H (fun v H' => ∃ n : Int, v = .int n ∧ 0 ≤ n ∧ n < 2 ^ 63 ∧ Q (.int n) H') E) [x] M Q2 := fun G H vs Q s R xs r => by
  obtain ⟨y, e0, h0⟩ := one_of xs
  obtain ⟨a, ddx, zs, e1, e2, e3, e4⟩ := obj_at R h0 o
  subst e0 e1
  refine ⟨a, ddx, _, rfl, e2, G, Z.F, [x], M, _, E2, R, xs, h, ?_, hx.mono s⟩
  intro d v G' M' H' s' R' hv q
  obtain ⟨n, rfl, h1, h2, q⟩ := q
  exact ⟨n, dat_v.mp hv, h1, h2, r _ _ G' M' H' s' R' dat_v' q⟩
theorem tyD_obj {C : Addr} {f : Addr} (T : EqC W.K C f) (o : ObjOf M d C ns ds) : TyD W M d (.ref C) := fun G F H v R h => by
  obtain ⟨a, dx, xs, e1, e2, e3, e4⟩ := obj_at R h o
  rw [e1]
  exact .base (.ins e2 T.hcl T.hcs T.hcg T.hct T.hm)
end
end DL
set_option Elab.async false
set_option linter.all false
set_option maxRecDepth 100000
set_option maxHeartbeats 4000000
namespace DL
open PySem PySem.Spec PyProof.Rows L2
abbrev orR (r r' : R2) : R2 := fun x y H Q => r x y H Q ∨ r' x y H Q
abbrev orC (r r' : List V → Hp → VK → Prop) : List V → Hp → VK → Prop := fun xs H Q => r xs H Q ∨ r' xs H Q
abbrev orL (r r' : V → Option Int → Option Int → Hp → VK → Prop) : V → Option Int → Option Int → Hp → VK → Prop := fun x l u H Q => r x l u H Q ∨ r' x l u H Q
theorem CallR.or {X : Cx} {f : Value} {r r' : List V → Hp → VK → Prop} (h : CallR X f r) (h' : CallR X f r') : CallR X f (orC r r') := by
  intro pins s σ H xs us Q I rx q
  rcases q with q | q
  · exact h pins s σ H xs us Q I rx q
  · exact h' pins s σ H xs us Q I rx q
theorem SlR.or {X : Cx} {r r' : V → Option Int → Option Int → Hp → VK → Prop} (h : SlR X r) (h' : SlR X r') : SlR X (orL r r') := by
  intro pins s σ H x v vl vu lo hi sl Q I rx hs pl pu q
  rcases q with q | q
  · exact h pins s σ H x v vl vu lo hi sl Q I rx hs pl pu q
  · exact h' pins s σ H x v vl vu lo hi sl Q I rx hs pl pu q
section
variable {Z : Zn} {r r' : R2} {x y d : DV} {M : Mu} {Q2 : DQ} {xs : List DV} {c c' : List V → Hp → VK → Prop} {l l' : V → Option Int → Option Int → Hp → VK → Prop} {lo hi : Option Int}
theorem wr_l (h : WR Z r x y M Q2) : WR Z (orR r r') x y M Q2 := fun G H vx vy Q s R dx dy k => .inl (h G H vx vy Q s R dx dy k)
theorem wr_r (h : WR Z r' x y M Q2) : WR Z (orR r r') x y M Q2 := fun G H vx vy Q s R dx dy k => .inr (h G H vx vy Q s R dx dy k)
theorem wc_l (h : WC Z c xs M Q2) : WC Z (orC c c') xs M Q2 := fun G H vs Q s R dx k => .inl (h G H vs Q s R dx k)
theorem wc_r (h : WC Z c' xs M Q2) : WC Z (orC c c') xs M Q2 := fun G H vs Q s R dx k => .inr (h G H vs Q s R dx k)
theorem wl_l (h : WL Z l x lo hi M Q2) : WL Z (orL l l') x lo hi M Q2 := fun G H vx Q s R dx k => .inl (h G H vx Q s R dx k)
theorem wl_r (h : WL Z l' x lo hi M Q2) : WL Z (orL l l') x lo hi M Q2 := fun G H vx Q s R dx k => .inr (h G H vx Q s R dx k)
end
def rAddI : R2 := rI0 fun i j => .int (i + j)
def rAddS : R2 := fun x y H Q => ∃ i j, x = .str i ∧ y = .str j ∧ i.length + j.length ≤ sizeLine ∧ Q (.str (i ++ j)) H
def rAddA (K : PySem.W.Frag) : R2 := orR rAddI (orR rAddS (orR rCat (rCatT K)))
section
variable {X : Cx}
theorem op_addA : OpR X (binaryOp .Add) (rAddA X.K) := OpR.or op_add (OpR.or op_add_str (OpR.or op_cat op_catT))
end
section
variable {W : Wd} {Z : Zn} {G G' F : Hp} {ρ : Ro} {σ : L2.St} {M : Mu} {H : Hp} {te ta tb tc : TE} {tt tu : TT} {ts tr : TS} {tx : TA} {Q2 Q2' : DQ} {D2 : Ends2} {d e x y : DV} {ds es : List DV} {v : V}
theorem wr_addI {i j : Int} (h : Q2 (.i (i + j)) M) : WR Z (rAddA Z.W.K) (.i i) (.i j) M Q2 := wr_l (wr_I0 h)
theorem wr_addS {i j : Str} (hz : i.length + j.length ≤ sizeLine) (h : Q2 (.s (i ++ j)) M) : WR Z (rAddA Z.W.K) (.s i) (.s j) M Q2 := wr_r (wr_l fun G H vx vy Q s R dx dy r =>
  ⟨i, j, dat_v.mp dx, dat_v.mp dy, hz, r _ _ G M H (Same.refl G) R dat_v' h⟩)
theorem wr_addL (l : LstOf M x ds) (k : LstOf M y es) (hz : ds.length + es.length ≤ sizeLine) (h : Q2 (.lst (ds ++ es)) M) : WR Z (rAddA Z.W.K) x y M Q2 := wr_r (wr_r (wr_l (wr_cat l k hz h)))
end
def rMulA : R2 := orR (rI CMul fun i j => .int (i * j)) rRep
section
variable {X : Cx} {Z : Zn} {M : Mu} {Q2 : DQ} {x : DV} {ds : List DV}
theorem op_mulA : OpR X (binaryOp .Mult) rMulA := OpR.or op_mul op_rep
theorem wr_mulI {i j : Int} (hc : CMul i j) (h : Q2 (.i (i * j)) M) : WR Z rMulA (.i i) (.i j) M Q2 := wr_l (wr_I hc h)
theorem wr_mulL {k : Int} (l : LstOf M x ds) (h1 : -(2 ^ 63) ≤ k) (h2 : k < 2 ^ 63) (hz : ds.length * k.toNat ≤ sizeLine) (h : Q2 (.lst (List.replicate k.toNat ds).flatten) M) : WR Z rMulA x (.i k) M Q2 := wr_r (wr_rep l h1 h2 hz h)
end
def rInA (K : PySem.W.Frag) : R2 := orR (rIn K false) (rInD K)
def rNiA (K : PySem.W.Frag) : R2 := orR (rIn K true) (rNotInD K)
section
variable {X : Cx} {W : Wd} {Z : Zn} {G F H : Hp} {M : Mu} {Q2 : DQ} {x y d : DV} {ds : List DV} {v : V}
theorem op_inA (hu : X.A.units + 65 < cLine) : OpR X (compareOp .In) (rInA X.K) := OpR.or op_in_seq (op_inD hu)
theorem op_niA (hu : X.A.units + 65 < cLine) : OpR X (compareOp .NotIn) (rNiA X.K) := OpR.or op_notIn_seq (op_notInD hu)
theorem wr_inF {p : V} {xs : List V} (l : SqOf M y (xs.map DV.v)) (hp : flatV p = true) (hx : xs.all flatV = true) (h : Q2 (.b (inV p xs)) M) : WR Z (rInA Z.W.K) (.v p) y M Q2 := wr_l fun G H vx vy Q s R dx dy r => by
  obtain ⟨a, zs, e1, e2, e3⟩ := sq_at rfl R dy l
  rw [datL_vs e3] at e2
  rw [dat_v.mp dx]
  exact ⟨a, xs, e1, e2, hp, hx, r _ _ G M H (Same.refl G) R dat_v' h⟩
theorem wr_niF {p : V} {xs : List V} (l : SqOf M y (xs.map DV.v)) (hp : flatV p = true) (hx : xs.all flatV = true) (h : Q2 (.b (!inV p xs)) M) : WR Z (rNiA Z.W.K) (.v p) y M Q2 := wr_l fun G H vx vy Q s R dx dy r => by
  obtain ⟨a, zs, e1, e2, e3⟩ := sq_at rfl R dy l
  rw [datL_vs e3] at e2
  rw [dat_v.mp dx]
  exact ⟨a, xs, e1, e2, hp, hx, r _ _ G M H (Same.refl G) R dat_v' h⟩
theorem wr_inDA {p : PyData} {qs : List PyData} (h1 : PyOf M x p) (h2 : PyOf M y (.list qs)) (s1 : SeqAt.shaped p = true) (s2 : SeqAt.shaped (.list qs) = true) (h : Q2 (.b (qs.any fun z => PyData.eqv z p)) M) : WR Z (rInA Z.W.K) x y M Q2 := wr_r (wr_inD h1 h2 s1 s2 h)
theorem wr_niDA {p : PyData} {qs : List PyData} (h1 : PyOf M x p) (h2 : PyOf M y (.list qs)) (s1 : SeqAt.shaped p = true) (s2 : SeqAt.shaped (.list qs) = true) (h : Q2 (.b (!qs.any fun z => PyData.eqv z p)) M) : WR Z (rNiA Z.W.K) x y M Q2 := wr_r (wr_notInD h1 h2 s1 s2 h)
end
section
variable {X : Cx} {W : Wd} {Z : Zn} {G F H : Hp} {ρ : Ro} {M : Mu} {Q2 : DQ} {x y d e : DV} {ds es : List DV} {v : V} {D2 : Ends2} {te ta tb : TE}
theorem wr_atL {k : Int} (l : LstOf M d ds) (h1 : atI ds k = some e) (h : Q2 e M) : WR Z (rIx Z.W.K) d (.i k) M Q2 := fun G H vx vy Q s R dx dy r => .inl (wr_ixL l h1 h G H vx vy Q s R dx dy r)
theorem wr_atT {k : Int} (h1 : atI ds k = some e) (h : Q2 e M) : WR Z (rIx Z.W.K) (.tup ds) (.i k) M Q2 := fun G H vx vy Q s R dx dy r => .inr (.inl (wr_ixT h1 h G H vx vy Q s R dx dy r))
theorem wr_atS {z : Str} {k : Int} {c : Nat} (hz : z.length ≤ sizeLine) (h1 : atI z.cps.toList k = some c) (h : Q2 (.s ⟨#[c]⟩) M) : WR Z (rIx Z.W.K) (.s z) (.i k) M Q2 := fun G H vx vy Q s R dx dy r => .inr (.inr (wr_ixS hz h1 h G H vx vy Q s R dx dy r))
def rSlA (K : PySem.W.Frag) : V → Option Int → Option Int → Hp → VK → Prop := orL (rSlL K) (orL rSlS (rSlT K))
theorem sl_A : SlR X (rSlA X.K) := SlR.or sl_list (SlR.or sl_str sl_tup)
theorem wl_A {lo hi : Option Int} (l : LstOf M x ds) (h : Q2 (.lst (cutD ds lo hi)) M) : WL Z (rSlA Z.W.K) x lo hi M Q2 := wl_l (wl_list l h)
theorem wl_A0 {lo hi : Option Int} {a : Addr} {xs : List V} (hs : SqL Z.W.K Z.G a xs) (h : Q2 (.lst ((cutV xs lo hi).map DV.v)) M) : WL Z (rSlA Z.W.K) (.r a) lo hi M Q2 := wl_l (wl_list0 hs h)
theorem wl_AS {lo hi : Option Int} {z : Str} (hz : z.length ≤ sizeLine) (h : Q2 (.s (cutS z lo hi)) M) : WL Z (rSlA Z.W.K) (.s z) lo hi M Q2 := wl_r (wl_l fun G H vx Q s R dx r =>
  ⟨z, dat_v.mp dx, hz, r _ _ G M H (Same.refl G) R dat_v' h⟩)
def rLenQ (K : PySem.W.Frag) : List V → Hp → VK → Prop := fun xs H Q => ∃ p ys, xs = [.ref p] ∧ (SqL K H p ys ∨ SqT K H p ys) ∧ Q (.int ys.length) H
def rLenT : List V → Hp → VK → Prop := fun xs H Q => ∃ z : Str, xs = [.str z] ∧ z.length ≤ sizeLine ∧ Q (.int z.length) H
theorem call_lenA : CallR X (.builtin "len") (orC (rLenQ X.K) rLenT) := CallR.or call_len_seq call_len_str
theorem wc_lenQ (l : SqOf M d ds) (h : Q2 (.i (ds.length : Nat)) M) : WC Z (orC (rLenQ Z.W.K) rLenT) [d] M Q2 := wc_l (wc_len l h)
theorem wc_lenT {z : Str} (hz : z.length ≤ sizeLine) (h : Q2 (.i (z.length : Nat)) M) : WC Z (orC (rLenQ Z.W.K) rLenT) [.s z] M Q2 := wc_r (wc_lenS hz h)
def rListQ (K : PySem.W.Frag) : List V → Hp → VK → Prop := fun xs H Q => ∃ p ys, xs = [.ref p] ∧ (SqL K H p ys ∨ SqT K H p ys) ∧ ∀ l, H l = none → Q (.ref l) (upd H l (.lst ys))
theorem call_listQ : CallR X (.type "list") (rListQ X.K) := call_list_of
theorem wc_listQ (l : SqOf M d ds) (h : Q2 (.lst ds) M) : WC Z (rListQ Z.W.K) [d] M Q2 := wc_list l h
theorem wc_listQM (l : SqOf M d ds) (h : ∀ p, M p = none → Q2 (.r p) (updM M p (.lst ds))) : WC Z (rListQ Z.W.K) [d] M Q2 := wc_listM l h
def rTupQ (K : PySem.W.Frag) : List V → Hp → VK → Prop := fun xs H Q => ∃ p ys, xs = [.ref p] ∧ ((SqL K H p ys ∧ ∀ l, H l = none → Q (.ref l) (upd H l (.tup ys))) ∨ (SqT K H p ys ∧ Q (.ref p) H))
theorem call_tupQ : CallR X (.type "tuple") (rTupQ X.K) := call_tuple_of
theorem wc_tupQ (l : SqOf M d ds) (h : Q2 (.tup ds) M) : WC Z (rTupQ Z.W.K) [d] M Q2 := wc_tuple l h
def rInt1 : List V → Hp → VK → Prop := fun xs H Q => (∃ i, xs = [.int i] ∧ Q (.int i) H) ∨ ∃ k, xs = [.bl k] ∧ Q (.int (if k then 1 else 0)) H
theorem call_intQ : CallR X (.type "int") rInt1 := call_int1
theorem wc_intB {k : Bool} (h : Q2 (.i (if k then 1 else 0)) M) : WC Z rInt1 [.b k] M Q2 := fun G H vs Q s R x r => by
  obtain ⟨y, e1, h1⟩ := one_of x
  rw [dat_v.mp h1] at e1
  exact .inr ⟨k, e1, r _ _ G M H (Same.refl G) R dat_v' h⟩
theorem wc_intI {k : Int} (h : Q2 (.i k) M) : WC Z rInt1 [.i k] M Q2 := fun G H vs Q s R x r => by
  obtain ⟨y, e1, h1⟩ := one_of x
  rw [dat_v.mp h1] at e1
  exact .inl ⟨k, e1, r _ _ G M H (Same.refl G) R dat_v' h⟩
def WSet (Z : Zn) (t : TSet) (o i v : DV) (M : Mu) (P2 : Mu → Prop) : Prop :=
  ∀ G H vo vi vv P, Same Z.G G → Rep Z.W G M Z.F H → Dat Z.W G o vo → Dat Z.W G i vi → Dat Z.W G v vv → (∀ G' M' H', Same G G' → Rep Z.W G' M' Z.F H' → P2 M' → P H') → t vo vi vv H P
theorem wg_sub {t : TSet} {P2 : Ro → Mu → Prop} (h : WE Z ta ρ M fun o M1 => WE Z tb ρ M1 fun i M2 => WSet Z t o i d M2 fun M3 => P2 ρ M3) : WG Z (gSub ta tb t) d ρ M P2 := fun G σ H v P s R E x n =>
  h G σ H _ s R E fun o vo G1 M1 H1 s1 R1 xo q => q G1 σ H1 _ (s.trans s1) R1 (E.mono s1) fun i vi G2 M2 H2 s2 R2 xi q2 =>
    q2 G2 H2 vo vi v _ ((s.trans s1).trans s2) R2 (xo.mono s2) xi ((x.mono s1).mono s2) fun G3 M3 H3 s3 R3 q3 => n ρ σ G3 M3 H3 ((s1.trans s2).trans s3) R3 (((E.mono s1).mono s2).mono s3) q3
theorem wset_list {a : Addr} {k : Int} {j : Nat} {P2 : Mu → Prop} (hm : M a = some (.lst ds)) (hj : ixN ds.length k = some j) (h : P2 (updM M a (.lst (ds.set j d)))) : WSet Z rSetL (.r a) (.i k) d M P2 := fun G H vo vi vv P s R xo xi xv n => by
  obtain ⟨xs, h1, h2⟩ := (R.mu a _ hm).2
  refine ⟨a, xs, k, j, dat_v.mp xo, dat_v.mp xi, h1, by rw [h2.length]; exact hj, ?_⟩
  exact n G _ _ (Same.refl G) (R.write (mo' := .lst (ds.set j d)) hm ⟨_, upd_same, h2.set j xv⟩) h
theorem datL_erase {xs : List V} : ∀ {ds : List DV} {xs : List V} (j : Nat), DatL W G ds xs → DatL W G (ds.eraseIdx j) (xs.eraseIdx j)
  | [], xs, j, h => by rw [datL_nil.mp h]; exact datL_nil'
  | e :: ds, xs, 0, h => by
    obtain ⟨z, r, e1, a, t⟩ := datL_cons.mp h
    subst e1
    exact t
  | e :: ds, xs, j + 1, h => by
    obtain ⟨z, r, e1, a, t⟩ := datL_cons.mp h
    subst e1
    exact datL_cons' a (datL_erase (xs := xs) j t)
theorem wm_popAt {a : Addr} {i : Int} {k : Nat} (hm : M a = some (.lst ds)) (h1 : -(2 ^ 63) ≤ i) (h2 : i < 2 ^ 63) (h3 : seqIndex? i ds.length = some k) (h4 : ds[k]? = some e) (h : Q2 e (updM M a (.lst (ds.eraseIdx k)))) : WM Z rPopAt (.r a) [.i i] M Q2 := fun G H vx vs Q s R x xs r => by
  obtain ⟨y, e1, hy⟩ := one_of xs
  rw [dat_v.mp hy] at e1
  obtain ⟨ys, g1, g2⟩ := (R.mu a _ hm).2
  obtain ⟨z, g3, g4⟩ := g2.get h4
  refine ⟨a, ys, i, k, z, dat_v.mp x, e1, g1, h1, h2, by rw [g2.length]; exact h3, g3, ?_⟩
  exact r _ _ G _ _ (Same.refl G) (R.write (mo' := .lst (ds.eraseIdx k)) hm ⟨_, upd_same, datL_erase (xs := ys) k g2⟩) g4 h
/-- a, b = x, y -/
theorem ws_par {i j : Nat} {tx : TA} (h : WA Z tx ρ M fun ds M1 => ∃ d e, ds = [d, e] ∧ D2.nx ((ρ.set i (some d)).set j (some e)) M1) : WS Z (tPar i j tx) D2 ρ M := fun G σ H D s R E k =>
  h G σ H _ s R E fun ds vs G1 M1 H1 s1 R1 x q => by
    obtain ⟨d, e, rfl, q⟩ := q
    obtain ⟨y, z, e1, hy, hz⟩ := two_of x
    exact ⟨y, z, e1, k.nx _ _ G1 M1 H1 s1 R1 (((E.mono s1).set hy).set hz) q⟩
def rJoin (K : PySem.W.Frag) : V → List V → Hp → VK → Prop := fun x xs H Q => ∃ a p, ∃ ys : List Str, x = .str a ∧ xs = [.ref p] ∧ (SqL K H p (ys.map V.str) ∨ SqT K H p (ys.map V.str)) ∧ (ys.map (·.length)).sum + ys.length * a.length ≤ 16777216 ∧ Q (.str (Txt.join a ys)) H
theorem mt_joinA : MtR X "str.join" (rJoin X.K) := mt_join
theorem wm_join {a : Str} {ys : List Str} (l : LstOf M d (ys.map DV.s)) (hz : (ys.map (·.length)).sum + ys.length * a.length ≤ 16777216) (h : Q2 (.s (Txt.join a ys)) M) : WM Z (rJoin Z.W.K) (.s a) [d] M Q2 := fun G H vx vs Q s R x xs r => by
  obtain ⟨y, e1, h1⟩ := one_of xs
  obtain ⟨p, zs, e2, e3, e4⟩ := lst_at R h1 l
  rw [datL_str e4] at e3
  subst e1 e2
  exact ⟨a, p, ys, dat_v.mp x, rfl, .inl (SqL.of e3), hz, r _ _ G M H (Same.refl G) R dat_v' h⟩
def rStrip : V → List V → Hp → VK → Prop := fun x xs H Q => ∃ a b, x = .str a ∧ xs = [.str b] ∧ a.length ≤ sizeLine ∧ Q (.str (Txt.stripChars a b)) H
theorem mt_stripA : MtR X "str.strip" rStrip := mt_stripChars
theorem wm_strip {a b : Str} (hz : a.length ≤ sizeLine) (h : Q2 (.s (Txt.stripChars a b)) M) : WM Z rStrip (.s a) [.s b] M Q2 := fun G H vx vs Q s R x xs r => by
  obtain ⟨y, e1, h1⟩ := one_of xs
  rw [dat_v.mp h1] at e1
  exact ⟨a, b, dat_v.mp x, e1, hz, r _ _ G M H (Same.refl G) R dat_v' h⟩
def isNonD : DV → Bool
  | .v x => decide (x = .non)
  | _ => false
theorem isNonD_of {W : Wd} {G : Hp} {d : DV} {v : V} (x : Dat W G d v) : isNonD d = decide (v = .non) := by
  cases d with
  | v y => rw [dat_v.mp x]; rfl
  | tup ds => obtain ⟨a, _, e, _⟩ := dat_tup.mp x; rw [e]; rfl
  | lst ds => obtain ⟨a, _, e, _⟩ := dat_lst.mp x; rw [e]; rfl
  | obj C ns ds => obtain ⟨a, _, _, e, _⟩ := dat_obj.mp x; rw [e]; rfl
  | dk ks ds => obtain ⟨a, _, e, _⟩ := dat_dk.mp x; rw [e]; rfl
  | dl ks ds => obtain ⟨a, _, e, _⟩ := dat_dl.mp x; rw [e]; rfl
  | fn q o => obtain ⟨a, _, e, _⟩ := dat_fn.mp x; rw [e]; rfl
def iSeq (K : PySem.W.Frag) (tl : TE) : TI := fun σ H R => tl σ H fun x H1 => ∃ a, x = .ref a ∧ (((∃ xs, SqL K H1 a xs) ∧ R (Itl K a) H1) ∨ ((∃ xs, SqT K H1 a xs) ∧ R (Itt K a) H1))
theorem pi_seq {tg l : Expr} {tl : TE} (hl : PE X l tl) : PI X tg l (iSeq X.K tl) := by
  refine ⟨fun pins s σ H R I h => ?_⟩
  refine thn (hl.run pins s σ H _ I h) fun v s1 ⟨x, H1, I1, r1, a, e, q1⟩ => ?_
  subst e
  cases r1
  rcases q1 with ⟨⟨xs, hq⟩, q⟩ | ⟨⟨xs, hq⟩, q⟩
  · obtain ⟨its, rv, p, hz⟩ := I1.list hq
    refine wpAny_pyIter_list p.isList ⟨s1.heap.objs.size, [s1.heap.objs.size], _, _, H1, rfl, I1.kept (t' := s1.toks) fun b o e => Heap.get?_push_of_some _ e, turn_list a _, ⟨_, Heap.get?_push_size _ rfl, rfl, rfl⟩, fun b hb => ?_, q⟩
    rw [show b = s1.heap.objs.size by simpa using hb]
    exact I1.fpOk (Nat.le_refl _) (I1.hok.fresh (Nat.le_refl _))
  · obtain ⟨its, rv, p, hz⟩ := I1.tuple hq
    refine wpAny_pyIter_tuple (show s1.heap.IsTuple a its.toArray from p) ⟨s1.heap.objs.size, [s1.heap.objs.size], _, _, H1, rfl, I1.kept (t' := s1.toks) fun b o e => Heap.get?_push_of_some _ e, turn_tuple a _, ⟨_, Heap.get?_push_size _ rfl, rfl, rfl⟩, fun b hb => ?_, q⟩
    rw [show b = s1.heap.objs.size by simpa using hb]
    exact I1.fpOk (Nat.le_refl _) (I1.hok.fresh (Nat.le_refl _))
theorem wi_seq {tl : TE} {R2 : List DV → Mu → Prop} (h : WE Z tl ρ M fun d M1 => ∃ ds, (d = .lst ds ∨ d = .tup ds) ∧ R2 ds M1) : WI Z (iSeq Z.W.K tl) ρ M R2 := fun G σ H R s Rp E r =>
  h G σ H _ s Rp E fun d v G1 M1 H1 s1 R1 x q => by
    obtain ⟨ds, e, q⟩ := q
    rcases e with rfl | rfl
    · obtain ⟨a, xs, e1, e2, e3⟩ := dat_lst.mp x
      exact ⟨a, e1, .inl ⟨⟨xs, SqL.of (R1.ex _ _ e2)⟩, r ds _ G1 M1 H1 s1 R1 (itl_ok (SqL.of e2) e3) q⟩⟩
    · obtain ⟨a, xs, e1, e2, e3⟩ := dat_tup.mp x
      exact ⟨a, e1, .inr ⟨⟨xs, sqt_mono R1.ex e2⟩, r ds _ G1 M1 H1 s1 R1 (itt_ok e2 e3) q⟩⟩
end
end DL
set_option Elab.async false
set_option linter.all false
set_option maxRecDepth 100000
set_option maxHeartbeats 2000000
namespace DL
open PySem PySem.Spec PyProof.Rows L2
section
variable {X : Cx} {E : XK}
theorem passF : Passes (L2.CX X.prog X.w) X (fun _ _ _ => False) := passes_call takes0 fun _ _ _ _ h => h
theorem passE {W : WX} (tk : Takes X W) (hW : ∀ cls d σ H, E cls d H → W cls d σ H) : Passes (L2.CX X.prog X.w) X E := passes_call tk hW
end
section
variable {W : Wd} {Z : Zn} {G G' F : Hp} {ρ : Ro} {σ : L2.St} {M : Mu} {H : Hp} {te ta tb tc : TE} {tt tu : TT} {ts tr : TS} {tx : TA} {Q2 Q2' : DQ} {D2 : Ends2} {d e x y : DV} {ds es : List DV} {v : V} {wi : TI} {g : TG} {E : XK} {E2 : XK2} {sp2 : Sp2}
theorem xcF : XcOk Z (fun _ _ _ _ => False) (fun _ _ _ => False) := fun _ _ _ _ _ _ _ _ _ _ h => h
/-- a call within a try -/
theorem we_callS {W2 : WX2} {Wx : WX} (hw : WxOk Z W2 Wx) (h : WA Z tx ρ M fun ds M1 => sp2 ds M1 Q2 (fun C ns es M' => W2 C ns es ρ M')) : WE Z (tCallS (lift Z.W sp2) (L2.WE Wx) tx) ρ M Q2 := fun G σ H Q s R En r =>
  h G σ H _ s R En fun ds vs G1 M1 H1 s1 R1 x q => ⟨G1, Z.F, ds, M1, Q2, _, R1, x, q, r.mono s1, fun C ns es d G' M' H' s' R' x' q' => hw C ns es d ρ σ G' M' H' (s.trans (s1.trans s')) R' (En.mono (s1.trans s')) x' q'⟩
def rEqA (K : PySem.W.Frag) : R2 := orR rEq (rEqD K)
def rNeA (K : PySem.W.Frag) : R2 := orR rNe (rNeD K)
theorem op_eqA {X : Cx} (hu : X.A.units + 64 < cLine) : OpR X (compareOp .Eq) (rEqA X.K) := OpR.or op_eq (op_eqD hu)
theorem op_neA {X : Cx} (hu : X.A.units + 64 < cLine) : OpR X (compareOp .NotEq) (rNeA X.K) := OpR.or op_ne (op_neD hu)
theorem wr_eqS {x y : V} (hs : scal x y = true) (h : Q2 (.b (decide (x = y))) M) : WR Z (rEqA Z.W.K) (.v x) (.v y) M Q2 := wr_l (wr_eq hs h)
theorem wr_neS {x y : V} (hs : scal x y = true) (h : Q2 (.b (!decide (x = y))) M) : WR Z (rNeA Z.W.K) (.v x) (.v y) M Q2 := wr_l (wr_ne hs h)
theorem wr_eqP {p q : PyData} (h1 : PyOf M x p) (h2 : PyOf M y q) (s1 : SeqAt.shaped p = true) (s2 : SeqAt.shaped q = true) (h : Q2 (.b (PyData.eqv p q)) M) : WR Z (rEqA Z.W.K) x y M Q2 := wr_r (wr_eqD h1 h2 s1 s2 h)
theorem wr_neP {p q : PyData} (h1 : PyOf M x p) (h2 : PyOf M y q) (s1 : SeqAt.shaped p = true) (s2 : SeqAt.shaped q = true) (h : Q2 (.b (!PyData.eqv p q)) M) : WR Z (rNeA Z.W.K) x y M Q2 := wr_r (wr_neD h1 h2 s1 s2 h)
def rIsN : R2 := fun x y H Q => y = .non ∧ Q (.bl (decide (x = .non))) H
def rNotN : R2 := fun x y H Q => y = .non ∧ Q (.bl (!decide (x = .non))) H
theorem op_isNA {X : Cx} : OpR X (compareOp .Is) rIsN := op_isN
theorem op_notNA {X : Cx} : OpR X (compareOp .IsNot) rNotN := op_notN
theorem wr_isN (h : Q2 (.b (isNonD x)) M) : WR Z rIsN x .n M Q2 := fun G H vx vy Q s R dx dy r => ⟨dat_v.mp dy, r _ _ G M H (Same.refl G) R dat_v' (by rw [← isNonD_of dx]; exact h)⟩
theorem wr_notN (h : Q2 (.b (!isNonD x)) M) : WR Z rNotN x .n M Q2 := fun G H vx vy Q s R dx dy r => ⟨dat_v.mp dy, r _ _ G M H (Same.refl G) R dat_v' (by rw [← isNonD_of dx]; exact h)⟩
theorem datL_vv : ∀ {xs : List V} {vs : List V}, DatL W G (xs.map DV.v) vs → vs = xs
  | [], vs, h => datL_nil.mp h
  | x :: xs, vs, h => by
    obtain ⟨z, r, e1, a, t⟩ := datL_cons.mp h
    subst e1
    rw [dat_v.mp a, datL_vv t]
theorem wm_index {ys : List V} {p z : V} {j : Nat} (l : LstOf M d (ys.map DV.v)) (hp : flatV p = true) (hx : ys.all flatV = true) (hz : ys[j]? = some z) (he : eqV z p = true) (hn : ∀ (m : Nat) (z' : V), m < j → ys[m]? = some z' → eqV z' p = false) (h : Q2 (.i (j : Nat)) M) :
    WM Z (rIndex Z.W.K) d [.v p] M Q2 := fun G H vx vs Q s R x xs r => by
  obtain ⟨y, e1, h1⟩ := one_of xs
  rw [dat_v.mp h1] at e1
  obtain ⟨a, zs, e2, e3, e4⟩ := lst_at R x l
  rw [datL_vv e4] at e3
  exact ⟨a, ys, p, j, z, e2, e1, SqL.of e3, hp, hx, hz, he, hn, r _ _ G M H (Same.refl G) R dat_v' h⟩
theorem hu64 {A : Around} {k : Nat} (hr : Room k A) : A.units + 64 < cLine := hr.units
end
end DL
set_option Elab.async false
set_option linter.all false
set_option maxRecDepth 100000
set_option maxHeartbeats 2000000
namespace DL
open PySem PySem.Spec PyProof.Rows L2
abbrev Df (K : PySem.W.Frag) (x qual : Str) (st : Stmt) (dvs : List V) (f : Addr) (fd : FuncData) : Prop := FunD K x qual (defArgs st) (defBody st) (defScope st) dvs [] f fd
section
variable {P : Program} {w : World} {K : PySem.W.Frag} {mg : Str → Option Value} {base : Heap} {x qual : Str} {st : Stmt} {dvs : List V} {f : Addr} {fd : FuncData} {N ps : List Str} {k : Nat}
theorem df_mk {oc : Value} {od an : Option Addr} {osl : Array (Option Value)} {kV doc pm cdv ct : Value} (l : K.lookup f = some ⟨oc, od, .func (PySem.W.fnOf x qual (defArgs st) (defBody st) (defScope st) .none kV doc pm an cdv ct), osl⟩)
    (c : PySem.W.codeIn K cdv qual = true) (k : PySem.W.keepIn K (.ref f) = true) : Df K x qual st [] f (PySem.W.fnOf x qual (defArgs st) (defBody st) (defScope st) .none kV doc pm an cdv ct) :=
  ⟨⟨oc, od, .none, kV, doc, pm, an, cdv, ct, osl, rfl, l, c, .inl ⟨rfl, rfl⟩, .inl rfl⟩, k⟩
theorem df_mkD {oc oc2 : Value} {od od2 an : Option Addr} {osl osl2 : Array (Option Value)} {kV doc pm cdv ct : Value} {T : Addr} {its : List Value} {n : Nat} (l : K.lookup f = some ⟨oc, od, .func (PySem.W.fnOf x qual (defArgs st) (defBody st) (defScope st) (.ref T) kV doc pm an cdv ct), osl⟩)
    (c : PySem.W.codeIn K cdv qual = true) (k : PySem.W.keepIn K (.ref f) = true) (lT : K.lookup T = some ⟨oc2, od2, .seq its.toArray n, osl2⟩) (hn : dvs ≠ []) (r : Vals dvs its) :
    Df K x qual st dvs f (PySem.W.fnOf x qual (defArgs st) (defBody st) (defScope st) (.ref T) kV doc pm an cdv ct) :=
  ⟨⟨oc, od, .ref T, kV, doc, pm, an, cdv, ct, osl, rfl, l, c, .inr ⟨hn, T, _, its, n, rfl, lT, rfl, r⟩, .inl rfl⟩, k⟩
theorem okD {sp2 : Sp2} (F : Df K x qual st dvs f fd) (S : FnScope N ps (defScope st)) (len : ∀ ds M Q2 E2, sp2 ds M Q2 E2 → ds.length = ps.length)
    (hbody : ∀ (cdv : Value) (A : Around) (outer : List Env) (s : Shared) (H : Hp) (E : XK) (G Fr : Hp) (ds : List DV) (M : Mu) (Q2 : DQ) (E2 : XK2), Room k (A.deeper (envOfC qual (defScope st) s.heap.objs.size f cdv)) → sp2 ds M Q2 E2 →
      ∃ t, PSs (cxOf CX0 P w K mg base N qual (defScope st) f cdv A outer s H E).nox (defBody st) t ∧ WS (Z_ P w K G Fr) t { nx := fun _ M' => Q2 .n M', rt := Q2 } (start2 N ds) M) :
    FnOk P w K mg base CX0 (k + 1) f fd ps (lift ⟨P, w, K⟩ sp2) := by
  refine F.ok S (lift_len len) fun cdv A outer s H vs Q E hr h => ?_
  obtain ⟨G, Fr, ds, M, Q2, E2, R, x, q, r, ex⟩ := h
  obtain ⟨t, h1, h2⟩ := hbody cdv A outer s H E G Fr ds M Q2 E2 hr q
  exact ⟨t, h1.nox, h2 G _ H _ (Same.refl G) R (env_start x) ⟨fun ρ' σ' G' M' H' s' R' _ q' => r _ _ G' M' H' s' R' dat_v' q', r, fun _ _ _ _ _ _ _ _ z => z.elim, fun _ _ _ _ _ _ _ _ z => z.elim⟩⟩
theorem okDX {sp2 : Sp2} (F : Df K x qual st dvs f fd) (S : FnScope N ps (defScope st)) (len : ∀ ds M Q2 E2, sp2 ds M Q2 E2 → ds.length = ps.length)
    (hbody : ∀ (cdv : Value) (A : Around) (outer : List Env) (s : Shared) (H : Hp) (E : XK) (G Fr : Hp) (ds : List DV) (M : Mu) (Q2 : DQ) (E2 : XK2), Room k (A.deeper (envOfC qual (defScope st) s.heap.objs.size f cdv)) → sp2 ds M Q2 E2 → XcOk (Z_ P w K G Fr) E2 E →
      ∃ t, PSs (cxOf (L2.CX P w) P w K mg base N qual (defScope st) f cdv A outer s H E) (defBody st) t ∧ WS (Z_ P w K G Fr) t { nx := fun _ M' => Q2 .n M', rt := Q2 } (start2 N ds) M) :
    FnOk P w K mg base (L2.CX P w) (k + 1) f fd ps (lift ⟨P, w, K⟩ sp2) := by
  refine F.ok S (lift_len len) fun cdv A outer s H vs Q E hr h => ?_
  obtain ⟨G, Fr, ds, M, Q2, E2, R, x, q, r, ex⟩ := h
  obtain ⟨t, h1, h2⟩ := hbody cdv A outer s H E G Fr ds M Q2 E2 hr q ex
  exact ⟨t, h1, h2 G _ H _ (Same.refl G) R (env_start x) ⟨fun ρ' σ' G' M' H' s' R' _ q' => r _ _ G' M' H' s' R' dat_v' q', r, fun _ _ _ _ _ _ _ _ z => z.elim, fun _ _ _ _ _ _ _ _ z => z.elim⟩⟩
/-- class C(B): def __init__(self, f): B.__init__(self, '..'); self.f = f -/
theorem okInit1 {C : Addr} {n fl m : Str} {ps : List Str} (F : Df K x qual st dvs f fd) (S : FnScope ps ps (defScope st)) (hp : ps.length = 2) (T : OexC K C) (hno : PySem.W.findIn K (.ref C) fl = some none)
    (hb : ∀ (cdv : Value) (A : Around) (outer : List Env) (s : Shared) (H : Hp) (E : XK), Room k (A.deeper (envOfC qual (defScope st) s.heap.objs.size f cdv)) →
      PSs (cxOf CX0 P w K mg base ps qual (defScope st) f cdv A outer s H E).nox (defBody st) (tSeq (tDrop (tVeI K (tCons (tVar 0) (tCons (tC (.str m)) tNil)))) (tOst K fl (tVar 0) (tVar 1)))) :
    FnOk P w K mg base CX0 (k + 1) f fd ps (spX1 C fl) := by
  refine F.ok S (fun vs H Q E h => ?_) fun cdv A outer s H vs Q E hr h => ?_
  · obtain ⟨a, v, rfl, _⟩ := h
    exact hp.symm
  · obtain ⟨a, v, rfl, e, q⟩ := h
    refine ⟨_, (hb cdv A outer s H E hr).nox, ?_⟩
    have h0 : (L2.start ps [.ref a, v])[0]? = some (some (.ref a)) := rfl
    have h1 : (L2.start ps [.ref a, v])[1]? = some (some v) := rfl
    refine ⟨_, h0, a, C, _, rfl, by show 1 ≤ 1000; decide, T, e, ?_⟩
    exact ⟨_, h1, _, h0, a, C, rfl, T, hno, .inl ⟨e, fun d h1 h2 => q d h1 h2⟩⟩
end
theorem bt_len : bootBuiltins "len" = some (.builtin "len") := by decide +kernel
theorem bt_isinstance : bootBuiltins "isinstance" = some (.builtin "isinstance") := by decide +kernel
theorem bt_all : bootBuiltins "all" = some (.builtin "all") := by decide +kernel
theorem bt_list : bootBuiltins "list" = some (.type "list") := by decide +kernel
theorem bt_tuple : bootBuiltins "tuple" = some (.type "tuple") := by decide +kernel
theorem bt_int : bootBuiltins "int" = some (.type "int") := by decide +kernel
theorem bt_str : bootBuiltins "str" = some (.type "str") := by decide +kernel
theorem bt_bool : bootBuiltins "bool" = some (.type "bool") := by decide +kernel
theorem hu65 {A : Around} {k : Nat} (hr : Room k A) : A.units + 65 < cLine := by
  have := hr.un
  omega
end DL
set_option Elab.async false
set_option linter.all false
set_option maxRecDepth 100000
set_option maxHeartbeats 2000000
namespace DL
open PySem PySem.Spec PyProof.Rows L2
def spL (K : PySem.W.Frag) : Sp := fun vs H Q _ => ∃ (a : Addr) (ns : List Int), vs = [.ref a] ∧ SqL K H a (ns.map V.int) ∧ ns.length ≤ 63 ∧ ∀ H', Q (.bl true) H'
theorem okLaw {P : Program} {w : World} {K : PySem.W.Frag} {mg : Str → Option Value} {base : Heap} {x qual n : Str} {st : Stmt} {dvs : List V} {f : Addr} {fd : FuncData} {N : List Str} {k : Nat} (F : Df K x qual st dvs f fd) (S : FnScope N [n] (defScope st))
    (hbody : ∀ (cdv : Value) (A : Around) (outer : List Env) (s : Shared) (H : Hp) (E : XK) (a : Addr) (ns : List Int), Room k (A.deeper (envOfC qual (defScope st) s.heap.objs.size f cdv)) → SqL K H a (ns.map V.int) → ns.length ≤ 63 →
      ∃ t, PSs (cxOf CX0 P w K mg base N qual (defScope st) f cdv A outer s H E).nox (defBody st) t ∧ WS (Z_ P w K H (fun _ => none)) t { nx := fun _ _ => False, rt := fun d _ => d = .b true } (start2 N [.r a]) (fun _ => none)) :
    FnOk P w K mg base CX0 (k + 1) f fd [n] (spL K) := by
  refine F.ok S (fun vs H Q E h => ?_) fun cdv A outer s H vs Q E hr h => ?_
  · obtain ⟨a, ns, rfl, _⟩ := h
    rfl
  · obtain ⟨a, ns, rfl, h1, h2, q⟩ := h
    obtain ⟨t, k1, k2⟩ := hbody cdv A outer s H E a ns hr h1 h2
    refine ⟨t, k1.nox, k2 H _ H _ (Same.refl H) ⟨Same.refl H, fun _ _ z => (by cases z), fun _ _ z => (by cases z), fun _ _ z => (by cases z)⟩ (env_start (datL_cons' dat_v' datL_nil')) ⟨fun _ _ _ _ _ _ _ _ z => z.elim, fun d v G' M' H' _ _ x e => ?_, fun _ _ _ _ _ _ _ _ z => z.elim, fun _ _ _ _ _ _ _ _ z => z.elim⟩⟩
    subst e
    rw [dat_v.mp x]
    exact q H'
theorem walkL {l : PySem.W.OpenLaw} {q : Program} {loose : List Str} {XP : (Str → Option Value) → Heap → Prop} {YP : World → Heap → Prop} {d : DefRec} {K : Params → PySem.W.Frag} {k : Nat} (hk : Room k callerA) (hn : l.most = some 63) (hdf : d.params.defaults = [])
    (hY : ∀ (w : World) (h : Heap), YP w h → (K w.params).In h)
    (F : ∀ (w : World) (mg : Str → Option Value) (fa : Addr) (h : Heap), (K w.params).In h → h.Ns mainGlobals mg → mg d.name = some (.ref fa) →
      ∃ fd : FuncData, (∀ (s : Shared) (u : Value), BindsTo s fd ⟨[u], []⟩ [("_law_script", u)]) ∧ ∀ base : Heap, (K w.params).In base → base.Ns mainGlobals mg → FnOk l.prog w (K w.params) mg base CX0 k fa fd ["_law_script"] (spL (K w.params))) :
    PySem.W.WalkO q loose XP YP l.row.toRowW d [] (fun f vs => PySem.call f vs) :=
  L2.walk_of (n := 63) (k := k) (x := "_law_script") (CX := fun _ => CX0) (sp := fun w => spL (K w.params)) hn (by decide) hdf hk hY F (fun w H a ns hl _ hS => ⟨a, ns, rfl, hS, hl, fun _ => rfl⟩) fun _ _ _ _ _ z => z
end DL
set_option Elab.async false
set_option linter.all false
set_option maxRecDepth 100000
set_option maxHeartbeats 2000000
namespace DL
open PySem PySem.Spec PyProof.Rows L2
inductive Kd where
  | int | str | bool | none | list | tuple | dict
deriving DecidableEq
def Kd.nm : Kd → String
  | .int => "int" | .str => "str" | .bool => "bool" | .none => "NoneType" | .list => "list" | .tuple => "tuple" | .dict => "dict"
def kdM (M : Mu) : DV → Option Kd
  | .v (.int _) => some .int
  | .v (.str _) => some .str
  | .v (.bl _) => some .bool
  | .v .non => some .none
  | .v (.ref a) => match M a with
    | some (.lst _) => some .list
    | _ => Option.none
  | .tup _ => some .tuple
  | .lst _ => some .list
  | .dk _ _ => some .dict
  | _ => Option.none
theorem kd_r {M : Mu} {a : Addr} {ds : List DV} (h : M a = some (.lst ds)) : kdM M (.r a) = some .list := by
  show (match M a with | some (.lst _) => some Kd.list | _ => Option.none) = _
  rw [h]
theorem kd_of {M : Mu} {d : DV} {ds : List DV} (l : LstOf M d ds) : kdM M d = some .list := by
  rcases l with rfl | ⟨a, rfl, h⟩
  · rfl
  · exact kd_r h
theorem tyD_kd {W : Wd} {M : Mu} {d : DV} {k : Kd} (h : kdM M d = some k) : TyD W M d (.type k.nm) := by
  unfold kdM at h
  split at h
  all_goals first | cases h | skip
  · exact tyD_int
  · exact tyD_str
  · exact tyD_bl
  · exact tyD_non
  · split at h
    · rename_i e
      cases h
      exact tyD_lst (.inr ⟨_, rfl, e⟩)
    · cases h
  · exact tyD_tup
  · exact tyD_lst (.inl rfl)
  · exact tyD_dk
def subK (k t : Kd) : Bool := decide (k = t) || (decide (k = .bool) && decide (t = .int))
theorem kit_kd {K : PySem.W.Frag} {k t : Kd} : PySem.W.kitOne K (.type k.nm) (.type t.nm) = some (subK k t) := by
  cases k <;> cases t <;> exact kit_ty (by decide +kernel)
section
variable {W : Wd} {Z : Zn} {ρ : Ro} {M : Mu} {Q2 : DQ} {d : DV}
theorem wc_isK (t : Kd) {k : Kd} (hk : kdM M d = some k) (h : Q2 (.b (subK k t)) M) : WC Z (rIsi Z.W.K) [d, .v (.ty t.nm)] M Q2 := wc_isi (.ty _) (tyD_kd hk) kit_kd h
theorem wc_isC {C : Addr} {k : Kd} {b : Bool} (hk : kdM M d = some k) (hc : PySem.W.kitOne Z.W.K (.type k.nm) (.ref C) = some b) (h : Q2 (.b b) M) : WC Z (rIsi Z.W.K) [d, .v (.ref C)] M Q2 := wc_isi (.own C) (tyD_kd hk) hc h
end
theorem ex_b {P : Bool → Prop} {x : Bool} (h : P x) : ∃ b, DV.b x = DV.b b ∧ P b := ⟨x, rfl, h⟩
theorem if_b {b : Bool} {A B : Prop} (h1 : b = true → A) (h2 : b = false → B) : if b = true then A else B := by
  cases b
  · rw [if_neg Bool.false_ne_true]; exact h2 rfl
  · rw [if_pos rfl]; exact h1 rfl
theorem if_tt {b : Bool} {A B : Prop} (e : b = true) (h : A) : if b = true then A else B := by rw [if_pos e]; exact h
theorem if_ff {b : Bool} {A B : Prop} (e : b = false) (h : B) : if b = true then A else B := by rw [e, if_neg Bool.false_ne_true]; exact h
end DL
set_option Elab.async false
set_option linter.all false
set_option maxRecDepth 100000
set_option maxHeartbeats 2000000
namespace DL
open PySem PySem.Spec PyProof.Rows L2
theorem passZ {X : Cx} : Passes CX0 X (fun _ _ _ => False) := pass0
section
variable {W : Wd} {Z : Zn} {G G' F : Hp} {ρ : Ro} {σ : L2.St} {M : Mu} {H : Hp} {te ta tb tc : TE} {tt tu : TT} {ts tr : TS} {tx : TA} {Q2 Q2' : DQ} {D2 : Ends2} {d e x y : DV} {ds es : List DV} {v : V} {wi : TI} {g : TG}
theorem WG.imp {P P' : Ro → Mu → Prop} (h : WG Z g d ρ M P) (k : ∀ ρ' M', P ρ' M' → P' ρ' M') : WG Z g d ρ M P' := fun G σ H v Q s R E x n => h G σ H v Q s R E x fun ρ' σ' G' M' H' s' R' E' q => n ρ' σ' G' M' H' s' R' E' (k _ _ q)
/-- each turn gives a thing; a word of what is made so far -/
theorem comp_word {k : List DV → Mu → Prop} (I : Nat → List DV → Mu → Prop) : ∀ (items : List DV) (j : Nat) (acc : List DV) (M : Mu), acc.length + items.length ≤ sizeLine → I j acc M →
    (∀ i d acc M F, items[i]? = some d → I (j + i) acc M → WG (Z.fr F) g d ρ M fun ρ2 M2 => WT (Z.fr F) tt ρ2 M2 fun b M3 => b = true ∧ WE (Z.fr F) te ρ2 M3 fun y M4 => I (j + i + 1) (acc ++ [y]) M4) →
    (∀ acc M, I (j + items.length) acc M → k acc M) → Comp Z g tt te ρ k items acc M
  | [], j, acc, M, hz, h0, hs, hk => hk acc M h0
  | d :: ds, j, acc, M, hz, h0, hs, hk => by
    simp only [List.length_cons] at hz
    refine ⟨by omega, fun F => ?_⟩
    refine (hs 0 d acc M F rfl h0).imp fun ρ2 M2 q => q.imp fun b M3 ⟨hb, q2⟩ => ?_
    rw [if_pos hb]
    refine q2.imp fun y M4 q3 => ?_
    refine comp_word I ds (j + 1) (acc ++ [y]) M4 (by simp; omega) q3 (fun i d' acc' M' F' hi hI => ?_) fun acc' M' h => hk acc' M' ?_
    · have := hs (i + 1) d' acc' M' F' hi (by rw [show j + (i + 1) = j + 1 + i by omega]; exact hI)
      rw [show j + (i + 1) = j + 1 + i by omega] at this
      exact this
    · rw [List.length_cons, show j + (ds.length + 1) = j + 1 + ds.length by omega]
      exact h
/-- each turn of a for; a word by the number of turns -/
theorem loop_word (I : Nat → Ro → Mu → Prop) : ∀ (items : List DV) (j : Nat) (ρ : Ro) (M : Mu), I j ρ M →
    (∀ i d ρ M, items[i]? = some d → I (j + i) ρ M → WG Z g d ρ M fun ρ1 M1 => WS Z ts { D2 with nx := I (j + i + 1), ct := I (j + i + 1), bk := D2.nx } ρ1 M1) →
    (∀ ρ M, I (j + items.length) ρ M → D2.nx ρ M) → Loop Z g ts D2 items ρ M
  | [], j, ρ, M, h0, hs, hk => hk ρ M h0
  | d :: ds, j, ρ, M, h0, hs, hk => by
    refine (hs 0 d ρ M rfl h0).imp fun ρ1 M1 q => ?_
    have key : ∀ ρ M, I (j + 1) ρ M → Loop Z g ts D2 ds ρ M := fun ρ' M' h => loop_word I ds (j + 1) ρ' M' h (fun i d' ρ2 M2 hi hI => by
      have := hs (i + 1) d' ρ2 M2 hi (by rw [show j + (i + 1) = j + 1 + i by omega]; exact hI)
      rw [show j + (i + 1) = j + 1 + i by omega] at this
      exact this) fun ρ2 M2 hI => hk ρ2 M2 (by rw [List.length_cons, show j + (ds.length + 1) = j + 1 + ds.length by omega]; exact hI)
    exact q.imp key (fun _ _ h => h) (fun _ _ h => h) key
end
mutual
def DV.good : DV → Bool
  | .v .non => true
  | .v (.bl _) => true
  | .v (.int _) => true
  | .v (.str z) => PyData.strOk z
  | .lst ds => goodL ds
  | .tup ds => goodL ds
  | _ => false
def goodL : List DV → Bool
  | [] => true
  | d :: ds => d.good && goodL ds
end
mutual
def DV.dep : DV → Nat
  | .lst ds => depL ds + 1
  | .tup ds => depL ds + 1
  | _ => 0
def depL : List DV → Nat
  | [] => 0
  | d :: ds => max d.dep (depL ds)
end
mutual
theorem good_py : ∀ d : DV, d.good = true → ∃ p, d.py = some p ∧ p.canLay0 = true ∧ p.depth = d.dep
  | .v x, h => by
    cases x <;> simp [DV.good] at h
    · exact ⟨_, rfl, rfl, rfl⟩
    · exact ⟨_, rfl, rfl, rfl⟩
    · exact ⟨_, rfl, rfl, rfl⟩
    · exact ⟨_, rfl, h, rfl⟩
  | .lst ds, h => by
    obtain ⟨ps, h1, h2, h3⟩ := goodL_py ds (by simpa [DV.good] using h)
    exact ⟨.list ps, by simp [DV.py, h1], by simpa [PyData.canLay0] using h2, by simp [PyData.depth, DV.dep, h3]⟩
  | .tup ds, h => by
    obtain ⟨ps, h1, h2, h3⟩ := goodL_py ds (by simpa [DV.good] using h)
    exact ⟨.tuple ps, by simp [DV.py, h1], by simpa [PyData.canLay0] using h2, by simp [PyData.depth, DV.dep, h3]⟩
  | .obj _ _ _, h => by simp [DV.good] at h
  | .dk _ _, h => by simp [DV.good] at h
  | .dl _ _, h => by simp [DV.good] at h
  | .fn _ _, h => by simp [DV.good] at h
theorem goodL_py : ∀ ds : List DV, goodL ds = true → ∃ ps, pyL ds = some ps ∧ PyData.canLayAll0 ps = true ∧ PyData.depthAll ps = depL ds
  | [], _ => ⟨[], rfl, rfl, rfl⟩
  | d :: ds, h => by
    simp only [goodL, Bool.and_eq_true] at h
    obtain ⟨p, h1, h2, h3⟩ := good_py d h.1
    obtain ⟨ps, g1, g2, g3⟩ := goodL_py ds h.2
    exact ⟨p :: ps, by simp [pyL, h1, g1], by simp [PyData.canLayAll0, h2, g2], by simp [PyData.depthAll, depL, h3, g3]⟩
end
section
variable {Z : Zn} {M : Mu} {Q2 : DQ} {x y d : DV} {ds : List DV}
theorem shaped_of {p : PyData} (h1 : p.canLay0 = true) (h2 : p.depth ≤ 64) : SeqAt.shaped p = true := by
  unfold SeqAt.shaped
  rw [h1, decide_eq_true h2]
  rfl
theorem wr_eqT (hg : d.good = true) (hd : d.dep ≤ 64) (h : Q2 (.b true) M) : WR Z (rEqA Z.W.K) d d M Q2 := by
  obtain ⟨p, h1, h2, h3⟩ := good_py d hg
  have s := shaped_of h2 (by rw [h3]; exact hd)
  refine wr_eqP (.inl h1) (.inl h1) s s ?_
  rw [SeqAt.eqv_refl p h2]
  exact h
theorem wr_neT (hg : d.good = true) (hd : d.dep ≤ 64) (h : Q2 (.b false) M) : WR Z (rNeA Z.W.K) d d M Q2 := by
  obtain ⟨p, h1, h2, h3⟩ := good_py d hg
  have s := shaped_of h2 (by rw [h3]; exact hd)
  refine wr_neP (.inl h1) (.inl h1) s s ?_
  rw [SeqAt.eqv_refl p h2]
  exact h
theorem pyOf_lst {ps : List PyData} (l : LstOf M x ds) (h : pyL ds = some ps) : PyOf M x (.list ps) := by
  rcases l with rfl | ⟨a, rfl, hm⟩
  · exact .inl (by simp [DV.py, h])
  · exact .inr ⟨a, ds, ps, rfl, hm, h, rfl⟩
theorem wr_eqLL (l : LstOf M x ds) (k : LstOf M y ds) (hg : goodL ds = true) (hd : depL ds ≤ 63) (h : Q2 (.b true) M) : WR Z (rEqA Z.W.K) x y M Q2 := by
  obtain ⟨ps, h1, h2, h3⟩ := goodL_py ds hg
  have c : (PyData.list ps).canLay0 = true := by simpa [PyData.canLay0] using h2
  have s := shaped_of c (by simp [PyData.depth, h3]; omega)
  refine wr_eqP (pyOf_lst l h1) (pyOf_lst k h1) s s ?_
  rw [SeqAt.eqv_refl _ c]
  exact h
theorem wr_neLL (l : LstOf M x ds) (k : LstOf M y ds) (hg : goodL ds = true) (hd : depL ds ≤ 63) (h : Q2 (.b false) M) : WR Z (rNeA Z.W.K) x y M Q2 := by
  obtain ⟨ps, h1, h2, h3⟩ := goodL_py ds hg
  have c : (PyData.list ps).canLay0 = true := by simpa [PyData.canLay0] using h2
  have s := shaped_of c (by simp [PyData.depth, h3]; omega)
  refine wr_neP (pyOf_lst l h1) (pyOf_lst k h1) s s ?_
  rw [SeqAt.eqv_refl _ c]
  exact h
end
theorem goodL_int : ∀ {r : List Int}, goodL (r.map DV.i) = true
  | [] => rfl
  | i :: r => by simp [goodL, DV.good, goodL_int (r := r)]
theorem depL_int : ∀ {r : List Int}, depL (r.map DV.i) = 0
  | [] => rfl
  | i :: r => by simp [depL, DV.dep, depL_int (r := r)]
theorem goodL_rows : ∀ {rows : List (List Int)}, goodL (rows.map rowD) = true
  | [] => rfl
  | r :: rows => by simp [goodL, rowD, DV.good, goodL_int, goodL_rows (rows := rows)]
theorem depL_rows : ∀ {rows : List (List Int)}, depL (rows.map rowD) ≤ 1
  | [] => by simp [depL]
  | r :: rows => by
    have := depL_rows (rows := rows)
    simp only [List.map_cons, depL, rowD, DV.dep, depL_int]
    omega
theorem goodL_strs : ∀ {zs : List Str}, (∀ z ∈ zs, PyData.strOk z = true) → goodL (zs.map DV.s) = true
  | [], _ => rfl
  | z :: zs, h => by simp [goodL, DV.good, h z List.mem_cons_self, goodL_strs fun y hy => h y (List.mem_cons_of_mem _ hy)]
theorem depL_strs : ∀ {zs : List Str}, depL (zs.map DV.s) = 0
  | [] => rfl
  | z :: zs => by simp [depL, DV.dep, depL_strs (zs := zs)]
theorem takeWhile_all {α : Type} {p : α → Bool} : ∀ {l : List α}, l.all p = true → l.takeWhile p = l
  | [], _ => rfl
  | a :: l, h => by
    simp only [List.all_cons, Bool.and_eq_true] at h
    simp [List.takeWhile_cons, h.1, takeWhile_all h.2]
theorem strip_letters {x y : Str} (h : x.cps.toList.all y.cps.contains = true) : Txt.stripChars x y = ⟨#[]⟩ := by
  unfold Txt.stripChars
  rw [PySem.W.stripBy_eq]
  show Builtin.Str.strSub x (stripLo _ true x) (stripHi _ true x (stripLo _ true x)) = _
  have e : stripLo y.cps.contains true x = x.cps.toList.length := by
    unfold stripLo
    rw [if_pos rfl, takeWhile_all h]
  rw [e]
  unfold stripHi Builtin.Str.strSub
  simp
end DL
set_option Elab.async false
set_option linter.all false
set_option maxRecDepth 100000
set_option maxHeartbeats 2000000
namespace DL
open PySem PySem.Spec PyProof.Rows L2
section
variable {X : Cx} {K : PySem.W.Frag} {P : Program} {w : World}
theorem k_ix (e : X.K = K) : IxR X (rIx K) := by subst e; exact ix_seq
theorem k_add (e : X.K = K) : OpR X (binaryOp .Add) (rAddA K) := by subst e; exact op_addA
theorem k_in (e : X.K = K) (hu : X.A.units + 65 < cLine) : OpR X (compareOp .In) (rInA K) := by subst e; exact op_inA hu
theorem k_ni (e : X.K = K) (hu : X.A.units + 65 < cLine) : OpR X (compareOp .NotIn) (rNiA K) := by subst e; exact op_niA hu
theorem k_eq (e : X.K = K) (hu : X.A.units + 64 < cLine) : OpR X (compareOp .Eq) (rEqA K) := by subst e; exact op_eqA hu
theorem k_ne (e : X.K = K) (hu : X.A.units + 64 < cLine) : OpR X (compareOp .NotEq) (rNeA K) := by subst e; exact op_neA hu
theorem k_sl (e : X.K = K) : SlR X (rSlA K) := by subst e; exact sl_A
theorem k_len (e : X.K = K) : CallR X (.builtin "len") (orC (rLenQ K) rLenT) := by subst e; exact call_lenA
theorem k_list (e : X.K = K) : CallR X (.type "list") (rListQ K) := by subst e; exact call_listQ
theorem k_tup (e : X.K = K) : CallR X (.type "tuple") (rTupQ K) := by subst e; exact call_tupQ
theorem k_all (e : X.K = K) (hc : X.calm = true) : CallR X (.builtin "all") (rAll K) := by subst e; exact cr_all hc
theorem k_isi (e : X.K = K) : CallR X (.builtin "isinstance") (rIsi K) := by subst e; exact call_isi
theorem k_index (e : X.K = K) : MtR X "list.index" (rIndex K) := by subst e; exact mt_index
theorem k_join (e : X.K = K) : MtR X "str.join" (rJoin K) := by subst e; exact mt_joinA
theorem k_fld {e : Expr} {f : Str} {ta : TE} {pos : Pos} (eK : X.K = K) (he : PE X e ta) (hb : attributeBase e f X.env (eval e X.env) = eval e X.env) : PE X (.Attribute e f pos) (tFld K ta f) := by subst eK; exact pe_fld he hb
theorem k_seq {tg l : Expr} {tl : TE} (eK : X.K = K) (hl : PE X l tl) : PI X tg l (iSeq K tl) := by subst eK; exact pi_seq hl
theorem k_ls {tg l : Expr} {tl : TE} (eK : X.K = K) (hl : PE X l tl) : PI X tg l (iList K tl) := by subst eK; exact pi_list hl
theorem k_enum {e : Expr} {ta : TA} {p pos tpos : Pos} {elts : List Expr} {kk : Nat} (eK : X.K = K) (hg : Gl X "enumerate") (hm : X.mg "enumerate" = none) (ha : PA X [e] ta) (hs : starEach [e] X.env = [(false, eval e X.env)] := by rfl) :
    PI X (.Tuple elts kk tpos) (.Call (.Name "enumerate" p) [e] [] pos) (iEnum K ta) := by subst eK; exact pi_enum hg hm ha hs
theorem k_gtup {es : List Expr} {k : Nat} {t : TGs} {n : Nat} {pos : Pos} (eK : X.K = K) (hc : X.calm = true) (h : PGs X es t)
    (hn : (assignEach es X.env).length = n := by rfl) (hst : (assignEach es X.env).findIdx? (·.1) = none := by rfl) : PG X (.Tuple es k pos) (gTup K n t) := by subst eK; exact pg_tup hc h hn hst
theorem k_bm {o e : Expr} {es : List Expr} {to : TE} {t : TA} {name : Str} {apos cpos : Pos} {T id : String} {r : V → List V → Hp → VK → Prop} (eK : X.K = K) (pa : PlainAttrs T) (slot : Slot T name id) (hty : typeOf (.builtin id) = pure (.type "method_descriptor")) (hm : MtR X id r) (ho : PE X o to) (ha : PA X (e :: es) t)
    (hbase : attributeBase o name X.env (eval o X.env) = eval o X.env := by rfl)
    (hfew : ((backTo cpos (starEach (e :: es) X.env)).all (fun x => !x.1) && (backToKw cpos (keywordEach [] X.env)).all (fun x => x.1.isSome)
      && decide ((e :: es).length + ([] : List Keyword).length + (if ([] : List Keyword).isEmpty then 0 else 1) < 30)) = true := by rfl)
    (hline : (apos.endLine == cpos.line) = true := by rfl) (hs : starEach (e :: es) X.env = (false, eval e X.env) :: starEach es X.env := by rfl) (hplain : (backTo cpos (starEach es X.env)).any (·.1) = false := by rfl) :
    PE X (.Call (.Attribute o name apos) (e :: es) [] cpos) (tBM K T r to t) := by subst eK; exact pe_bm pa slot hty hm ho ha hbase hfew hline hs hplain
end
end DL
set_option Elab.async false
set_option linter.all false
set_option maxRecDepth 100000
set_option maxHeartbeats 2000000
namespace DL
open PySem PySem.Spec PyProof.Rows L2
def well (A B C : Int) : MO := .lst [.i A, .i B, .i C]
/-- a well from which n were drawn at most -/
def WelO (mo : MO) (n : Nat) : Prop := ∃ A B C : Int, mo = well A B C ∧ 0 ≤ A ∧ 0 ≤ B ∧ B < 2147483647 ∧ 0 ≤ C ∧ C ≤ (n : Int)
theorem WelO.mono {mo : MO} {n m : Nat} (h : WelO mo n) (l : n ≤ m) : WelO mo m := by
  obtain ⟨A, B, C, e, h1, h2, h3, h4, h5⟩ := h
  exact ⟨A, B, C, e, h1, h2, h3, h4, by omega⟩
abbrev letters : Str := "abcdefghijklmnopqrstuvwxyz"
def nameB (z : Str) : Bool := decide ((1 : Int) ≤ ((z.length : Nat) : Int)) && (decide (((z.length : Nat) : Int) ≤ 8) && decide (V.str (Txt.stripChars z letters) = V.str ""))
/-- c is one of the letters -/
def isL (c : Nat) : Prop := 97 ≤ c ∧ c ≤ 122
theorem letters_list : letters.cps.toList = (List.range 26).map (· + 97) := by decide +kernel
theorem letters_len : letters.length = 26 := by decide +kernel
theorem letters_at {i : Nat} (h : i < 26) : letters.cps.toList[i]? = some (i + 97) := by
  rw [letters_list, List.getElem?_map, List.getElem?_range h]
  rfl
theorem letters_has {c : Nat} (h : isL c) : letters.cps.contains c = true := by
  have : c ∈ letters.cps.toList := by
    rw [letters_list, List.mem_map]
    exact ⟨c - 97, by rw [List.mem_range]; have := h.1; have := h.2; omega, by have := h.1; omega⟩
  rw [Array.contains_iff_mem]
  exact Array.mem_toList_iff.mp this
theorem name_ok {l : List Nat} (h1 : 1 ≤ l.length) (h8 : l.length ≤ 8) (hl : ∀ c ∈ l, isL c) : nameB ⟨l.toArray⟩ = true := by
  unfold nameB
  have e : (⟨l.toArray⟩ : Str).length = l.length := by show l.toArray.size = _; simp
  rw [e, strip_letters (y := letters) (by rw [List.all_eq_true]; intro c hc; exact letters_has (hl c (by simpa using hc)))]
  have a1 : decide ((1 : Int) ≤ ((l.length : Nat) : Int)) = true := decide_eq_true (by omega)
  have a2 : decide (((l.length : Nat) : Int) ≤ 8) = true := decide_eq_true (by omega)
  rw [a1, a2]
  rfl
theorem name_strOk {l : List Nat} (hl : ∀ c ∈ l, isL c) : PyData.strOk ⟨l.toArray⟩ = true := by
  unfold PyData.strOk
  rw [Array.all_eq_true']
  intro c hc
  have := (hl c (by simpa using hc)).2
  simp
  omega
/-- the k-th name -/
def nmL (b : List Nat) (spot more : Nat) (c : Nat) : List Nat := b.take spot ++ [c] ++ (b.drop spot).take more
theorem nmL_len {b : List Nat} {spot more c : Nat} (hb : b.length = 7) (h1 : spot ≤ 7) (h2 : more ≤ 7 - spot) : (nmL b spot more c).length = spot + 1 + more := by
  unfold nmL
  simp [hb]
  omega
theorem nmL_all {b : List Nat} {spot more c : Nat} (hb : ∀ x ∈ b, isL x) (hc : isL c) : ∀ x ∈ nmL b spot more c, isL x := by
  intro x hx
  unfold nmL at hx
  rw [List.mem_append, List.mem_append, List.mem_singleton] at hx
  rcases hx with (h | h) | h
  · exact hb x (List.mem_of_mem_take h)
  · rw [h]; exact hc
  · exact hb x (List.mem_of_mem_drop (List.mem_of_mem_take h))
theorem nmL_inj {b : List Nat} {spot more c d : Nat} (hb : b.length = 7) (h1 : spot ≤ 7) (e : nmL b spot more c = nmL b spot more d) : c = d := by
  unfold nmL at e
  rw [List.append_assoc, List.append_assoc] at e
  have := List.append_cancel_left e
  simpa using this
/-- the letter of the k-th name -/
def ltr (begin_ apart k : Nat) : Nat := (begin_ + apart * k) % 26 + 97
theorem ltr_is {begin_ apart k : Nat} : isL (ltr begin_ apart k) := by
  unfold ltr isL
  omega
theorem ltr_inj {b p k l : Nat} (hp : p ∈ [1, 3, 5, 7, 9, 11, 15, 17]) (hk : k < 26) (hl : l < 26) (e : ltr b p k = ltr b p l) : k = l := by
  unfold ltr at e
  simp only [List.mem_cons, List.not_mem_nil, or_false] at hp
  rcases hp with rfl | rfl | rfl | rfl | rfl | rfl | rfl | rfl <;> omega
def nmsL (b : List Nat) (spot more begin_ apart n : Nat) : List Str := (List.range n).map fun k => ⟨(nmL b spot more (ltr begin_ apart k)).toArray⟩
/-- names as the program wants them -/
structure Nms (zs : List Str) : Prop where
  nm : ∀ z ∈ zs, nameB z = true
  ok : ∀ z ∈ zs, PyData.strOk z = true
  nd : zs.Nodup
theorem nmsL_ok {b : List Nat} {spot more begin_ apart n : Nat} (hb : b.length = 7) (hl : ∀ x ∈ b, isL x) (h1 : spot ≤ 7) (h2 : more ≤ 7 - spot) (hp : apart ∈ [1, 3, 5, 7, 9, 11, 15, 17]) (hn : n ≤ 26) : Nms (nmsL b spot more begin_ apart n) where
  nm := fun z hz => by
    obtain ⟨k, _, rfl⟩ := List.mem_map.mp hz
    have := nmL_len (c := ltr begin_ apart k) hb h1 h2
    exact name_ok (by omega) (by omega) (nmL_all hl ltr_is)
  ok := fun z hz => by
    obtain ⟨k, _, rfl⟩ := List.mem_map.mp hz
    exact name_strOk (nmL_all hl ltr_is)
  nd := by
    unfold nmsL
    rw [List.Nodup, List.pairwise_map]
    refine List.Pairwise.imp_of_mem ?_ (List.nodup_range (n := n))
    intro k l hk hl' hne e
    rw [List.mem_range] at hk hl'
    apply hne
    have e2 : nmL b spot more (ltr begin_ apart k) = nmL b spot more (ltr begin_ apart l) := by
      injection e with e
      have := congrArg Array.toList e
      simpa using this
    exact ltr_inj hp (by omega) (by omega) (nmL_inj hb h1 e2)
theorem nmsL_len {b : List Nat} {spot more begin_ apart n : Nat} : (nmsL b spot more begin_ apart n).length = n := by simp [nmsL]
theorem nmsL_succ {b : List Nat} {spot more begin_ apart n : Nat} : nmsL b spot more begin_ apart (n + 1) = nmsL b spot more begin_ apart n ++ [⟨(nmL b spot more (ltr begin_ apart n)).toArray⟩] := by
  unfold nmsL
  rw [List.range_succ, List.map_append]
  rfl
theorem Nms.sub {zs ys : List Str} (h : Nms zs) (s : List.Sublist ys zs) : Nms ys := ⟨fun z hz => h.nm z (s.subset hz), fun z hz => h.ok z (s.subset hz), h.nd.sublist s⟩
theorem joinL_one : ∀ cs : List Nat, TL.joinL [] (cs.map fun c => [c]) = cs
  | [] => rfl
  | [c] => rfl
  | c :: d :: cs => by
    have := joinL_one (d :: cs)
    show [c] ++ ([] ++ TL.joinL [] ((d :: cs).map fun c => [c])) = _
    rw [this]
    rfl
theorem join_chars (cs : List Nat) : Txt.join ⟨#[]⟩ (cs.map fun c => (⟨#[c]⟩ : Str)) = ⟨cs.toArray⟩ := by
  refine TL.ext_tl ?_
  rw [TL.join_eq, TL.tl_join]
  have e : (cs.map fun c => (⟨#[c]⟩ : Str)).map TL.tl = cs.map fun c => [c] := by
    rw [List.map_map]
    rfl
  have e0 : TL.tl (⟨#[]⟩ : Str) = [] := rfl
  rw [e, e0, joinL_one]
end DL
set_option Elab.async false
set_option linter.all false
set_option maxRecDepth 100000
set_option maxHeartbeats 2000000
namespace DL
open PySem PySem.Spec PyProof.Rows L2
theorem str_app (a b : List Nat) : ((⟨a.toArray⟩ : Str) ++ (⟨b.toArray⟩ : Str)) = ⟨(a ++ b).toArray⟩ := by
  show Str.mk (a.toArray ++ b.toArray) = _
  simp
theorem str_len (a : List Nat) : (⟨a.toArray⟩ : Str).length = a.length := by
  show a.toArray.size = _
  simp
theorem cut_to (l : List Nat) (k : Nat) : cutS ⟨l.toArray⟩ none (some (k : Int)) = ⟨(l.take k).toArray⟩ := by
  unfold cutS
  rw [HT.sIx_none, HT.sIx_nat, str_len]
  simp only [List.drop_zero, Nat.sub_zero]
  congr 2
  by_cases h : k ≤ l.length
  · rw [Nat.min_eq_left h]
  · rw [Nat.min_eq_right (by omega), List.take_length, List.take_of_length_le (by omega)]
theorem cut_mid (l : List Nat) (j k : Nat) (h : j + k ≤ l.length) : cutS ⟨l.toArray⟩ (some (j : Int)) (some ((j : Int) + (k : Int))) = ⟨((l.drop j).take k).toArray⟩ := by
  have e : ((j : Int) + (k : Int)) = ((j + k : Nat) : Int) := by push_cast; rfl
  unfold cutS
  rw [e, HT.sIx_nat, HT.sIx_nat, str_len, Nat.min_eq_left h, Nat.min_eq_left (by omega : j ≤ l.length)]
  congr 3
  omega
theorem wm_appendT {Z : Zn} {M : Mu} {Q2 : DQ} {ds : List DV} {e : DV} {a : Addr} (hm : M a = some (.lst ds)) (hz : ds.length < 1000000) (h : Q2 .n (updM M a (.lst (ds ++ [e])))) : WM Z rAppend (.r a) [e] M Q2 := wm_append hm (Nat.lt_of_lt_of_le hz (by decide)) h
/-- a number not below nought -/
theorem nat_of {i : Int} (h : 0 ≤ i) : ∃ n : Nat, i = (n : Int) := ⟨i.toNat, (Int.toNat_of_nonneg h).symm⟩
theorem letters_get {n : Nat} (h : n < 26) : atI letters.cps.toList (n : Int) = some (n + 97) := atI_nat (letters_at h)
theorem aparts {n : Nat} (h : n < 8) : ∃ p : Nat, atI [DV.i 1, .i 3, .i 5, .i 7, .i 9, .i 11, .i 15, .i 17] (n : Int) = some (.i (p : Nat)) ∧ p ∈ [1, 3, 5, 7, 9, 11, 15, 17] := by
  have : n = 0 ∨ n = 1 ∨ n = 2 ∨ n = 3 ∨ n = 4 ∨ n = 5 ∨ n = 6 ∨ n = 7 := by omega
  rcases this with rfl | rfl | rfl | rfl | rfl | rfl | rfl | rfl
  · exact ⟨1, rfl, by decide⟩
  · exact ⟨3, rfl, by decide⟩
  · exact ⟨5, rfl, by decide⟩
  · exact ⟨7, rfl, by decide⟩
  · exact ⟨9, rfl, by decide⟩
  · exact ⟨11, rfl, by decide⟩
  · exact ⟨15, rfl, by decide⟩
  · exact ⟨17, rfl, by decide⟩
theorem rangeD_get {n i : Nat} {d : DV} (h : (rangeD 0 n)[i]? = some d) : i < n ∧ d = .i (i : Nat) := by
  unfold rangeD at h
  rw [List.getElem?_map] at h
  cases e : (List.range n)[i]? with
  | none => rw [e] at h; cases h
  | some j =>
    rw [e] at h
    have := List.getElem?_eq_some_iff.mp e
    obtain ⟨h1, h2⟩ := this
    rw [List.getElem_range] at h2
    subst h2
    cases h
    exact ⟨by simpa using h1, by simp⟩
theorem rangeD_len {n : Nat} {lo : Int} : (rangeD lo n).length = n := by simp [rangeD]
end DL
set_option Elab.async false
set_option linter.all false
set_option maxRecDepth 100000
set_option maxHeartbeats 2000000
namespace DL
open PySem PySem.Spec PyProof.Rows L2
def tTry (tb : WX → TS) (K : PySem.W.Frag) (c : Value) (i : Nat) (ts : Addr → Value → Option Addr → TS) (Wout : WX) : TS := fun D σ H => tb (wAs K c i ts Wout D) D σ H
theorem ps_tryA {X : Cx} {K : PySem.W.Frag} {body suite : List Stmt} {b₀ : Stmt} {x n : Str} {np pos' pos : Pos} {c : Value} {i : Nat} {Wout : WX} {tb : WX → TS} {ts : Addr → Value → Option Addr → TS} (eK : X.K = K)
    (hs : X.stack = X.env :: X.outer) (hf : X.env.frame = some X.env.locals) (hN : X.N.Nodup) (hi : X.N[i]? = some n) (hln : X.env.kindOf n = some .local) (hc : Names X x c) (tk : Takes X Wout)
    (hb : ∀ (W : WX) (pn : List (Addr × Obj)) (xe : Value → Shared → Prop), Takes (X.tr pn xe) W → PassesOwn (model X.prog X.w) X.A X.env xe → PSs (X.tr pn xe) body (tb W))
    (hsu : ∀ (a : Addr) (oe : Obj) (cls : Value) (d : Option Addr) (pn : List (Addr × Obj)), Zc cls d oe → (∃ vs, oe.data = .fields vs) → PSs (X.suite a ((a, oe) :: pn)) (b₀ :: suite) (ts a cls d)) :
    PS X (.Try body [.ExceptHandler (some (.Name x np)) (some n) (b₀ :: suite) pos'] [] [] pos) (tTry tb K c i ts Wout) := by
  subst eK
  exact ps_try_as hs hf hN hi hln hc tk hb hsu
theorem ws_tryA {Z : Zn} {ρ : Ro} {M : Mu} {D2 : Ends2} {tb : WX → TS} {c : Value} {i : Nat} {ts : Addr → Value → Option Addr → TS} {Wout : WX} (W2 : WX2)
    (hb : ∀ G1 Wx, Same Z.G G1 → WxOk (Z.at G1) W2 Wx → WS (Z.at G1) (tb Wx) D2 ρ M)
    (hs : ∀ C ns ds ρ' M', W2 C ns ds ρ' M' → PySem.W.exmOne Z.W.K (.ref C) c = some true ∧ ∀ G1 d a, Same Z.G G1 → XdOk Z.W G1 d ns ds →
      WS (Z.at G1) (ts a (.ref C) d) { nx := fun ρ2 M2 => D2.nx (ρ2.set i none) M2, rt := D2.rt, bk := fun ρ2 M2 => D2.bk (ρ2.set i none) M2, ct := fun ρ2 M2 => D2.ct (ρ2.set i none) M2 } (ρ'.set i (some (.r a))) M') :
    WS Z (tTry tb Z.W.K c i ts Wout) D2 ρ M := ws_try rfl W2 hb hs
theorem xd_some {W : Wd} {G : Hp} {d : Option Addr} {n : Str} {ns : List Str} {ds : List DV} (h : XdOk W G d (n :: ns) ds) : d.isSome = true := by
  cases d with
  | none => cases h.1
  | some x => rfl
end DL
set_option Elab.async false
set_option linter.all false
set_option maxRecDepth 100000
set_option maxHeartbeats 2000000
namespace DL
open PySem PySem.Spec PyProof.Rows L2
section
variable {W : Wd} {Z : Zn} {G G' F : Hp} {ρ : Ro} {M M' : Mu} {H : Hp} {te : TE} {ts : TS} {Q2 : DQ} {D2 : Ends2} {d e x y : DV} {ds es : List DV}
theorem wr_P {i j : Int} (v : Int) (hv : i ^ j.toNat = v) (hc : CPow i j) (h : Q2 (.i v) M) : WR Z (rI CPow fun i j => .int (i ^ j.toNat)) (.i i) (.i j) M Q2 := wr_I hc (by rw [hv]; exact h)
theorem wr_atN {k : Nat} (l : LstOf M d ds) (h1 : ds[k]? = some e) (h : Q2 e M) : WR Z (rIx Z.W.K) d (.i (k : Nat)) M Q2 := wr_atL l (atI_nat h1) h
/-- an item of a mapped list -/
theorem wr_atM {α : Type} {f : α → DV} {xs : List α} {k : Nat} (l : LstOf M d (xs.map f)) (hk : k < xs.length) (h : ∀ x, xs[k]? = some x → Q2 (f x) M) : WR Z (rIx Z.W.K) d (.i (k : Nat)) M Q2 :=
  wr_atN l (by rw [List.getElem?_map, List.getElem?_eq_getElem hk]; rfl) (h _ (List.getElem?_eq_getElem hk))
/-- one of some, by an int -/
theorem atI_of {α : Type} {xs : List α} {k : Int} (h0 : 0 ≤ k) {e : α} (h : xs[k.toNat]? = some e) : atI xs k = some e := by
  obtain ⟨n, rfl⟩ := nat_of h0
  exact atI_nat h
theorem wr_pickI {k : Int} (l : LstOf M d ds) (h0 : 0 ≤ k) (hk : k < ds.length) (h : ∀ e, e ∈ ds → Q2 e M) : WR Z (rIx Z.W.K) d (.i k) M Q2 :=
  wr_atL l (atI_of h0 (List.getElem?_eq_getElem (by omega))) (h _ (List.getElem_mem _))
inductive OLe : Option MO → Option MO → Prop
  | rf {o : Option MO} : OLe o o
  | close {ds : List DV} {P : List DV → Prop} (h : P ds) : OLe (some (.lst ds)) (some (.pre P))
  | wk {P P' : List DV → Prop} (h : ∀ ds, P ds → P' ds) : OLe (some (.pre P)) (some (.pre P'))
  | drop {o : Option MO} : OLe o none
def MLe (M M' : Mu) : Prop := ∀ a, OLe (M a) (M' a)
theorem MLe.rfl {M : Mu} : MLe M M := fun _ => .rf
theorem MLe.upd {p : Addr} {a b : MO} (h : OLe (some a) (some b)) : MLe (updM M p a) (updM M p b) := fun q => by
  by_cases e : q = p
  · subst e; rw [updM_same, updM_same]; exact h
  · rw [updM_ne e, updM_ne e]; exact .rf
theorem MLe.upd2 {p : Addr} {a : MO} (h : MLe M M') : MLe (updM M p a) (updM M' p a) := fun q => by
  by_cases e : q = p
  · subst e; rw [updM_same, updM_same]; exact .rf
  · rw [updM_ne e, updM_ne e]; exact h q
theorem Rep.weak (R : Rep W G M F H) (l : MLe M M') : Rep W G M' F H where
  ex := R.ex
  fr := R.fr
  fd := fun a o h => ⟨(R.fd a o h).1, by
    have h1 := (R.fd a o h).2
    have := l a
    rw [h1] at this
    generalize M' a = z at this
    cases this <;> rfl⟩
  mu := fun a o h => by
    have := l a
    rw [h] at this
    generalize q : M a = z at this
    cases this with
    | rf => exact R.mu a o q
    | close hp =>
      obtain ⟨h1, xs, h2, h3⟩ := R.mu a _ q
      exact ⟨h1, _, xs, hp, h2, h3⟩
    | wk hp =>
      obtain ⟨h1, ds, xs, h0, h2, h3⟩ := R.mu a _ q
      exact ⟨h1, ds, xs, hp ds h0, h2, h3⟩
theorem ws_weakR (h : WS Z ts { D2 with rt := fun d M1 => ∃ M2, MLe M1 M2 ∧ D2.rt d M2 } ρ M) : WS Z ts D2 ρ M := fun G σ H D s R E e =>
  h G σ H D s R E ⟨e.nx, fun d v G1 M1 H1 s1 R1 x ⟨M2, l, q⟩ => e.rt d v G1 M2 H1 s1 (R1.weak l) x q, e.bk, e.ct⟩
theorem Rep.opens {p : Addr} {P : List DV → Prop} (R : Rep W G M F H) (hm : M p = some (.pre P)) : ∃ ds, P ds ∧ Rep W G (updM M p (.lst ds)) F H := by
  obtain ⟨h1, ds, xs, h0, h2, h3⟩ := R.mu p _ hm
  refine ⟨ds, h0, R.ex, R.fr, fun a o h => ⟨(R.fd a o h).1, ?_⟩, fun a o h => ?_⟩
  · have e : a ≠ p := fun e => by rw [e] at h; rw [(R.fd p o h).2] at hm; cases hm
    rw [updM_ne e]; exact (R.fd a o h).2
  · by_cases e : a = p
    · subst e
      rw [updM_same] at h
      cases h
      exact ⟨h1, xs, h2, h3⟩
    · rw [updM_ne e] at h
      exact R.mu a o h
theorem ws_open {p : Addr} {P : List DV → Prop} (hm : M p = some (.pre P)) (h : ∀ ds, P ds → WS Z ts D2 ρ (updM M p (.lst ds))) : WS Z ts D2 ρ M := fun G σ H D s R E e => by
  obtain ⟨ds, h0, R'⟩ := R.opens hm
  exact h ds h0 G σ H D s R' E e
theorem updM_swap {p q : Addr} {x y z : MO} (h : q ≠ p) : updM (updM (updM M p x) q y) p z = updM (updM M p z) q y := by
  funext b
  unfold updM
  by_cases h1 : b = p
  · have h2 : b ≠ q := fun e => h (e.symm.trans h1)
    rw [if_pos h1, if_neg h2, if_pos h1]
  · rw [if_neg h1]
    by_cases h2 : b = q
    · rw [if_pos h2, if_pos h2]
    · rw [if_neg h2, if_neg h1, if_neg h2, if_neg h1]
theorem updM_comm {p q : Addr} {x y : MO} (h : q ≠ p) : updM (updM M p x) q y = updM (updM M q y) p x := by
  funext b
  unfold updM
  by_cases h1 : b = p
  · have h2 : b ≠ q := fun e => h (e.symm.trans h1)
    rw [if_neg h2, if_pos h1, if_pos h1]
  · rw [if_neg h1, if_neg h1]
theorem updM_none {p q : Addr} {x : MO} (h : updM M p x q = none) : q ≠ p ∧ M q = none := by
  have : q ≠ p := fun e => by rw [e, updM_same] at h; cases h
  exact ⟨this, by rw [updM_ne this] at h; exact h⟩
end
def WellP (n : Nat) : List DV → Prop := fun ds => ∃ A B C : Int, ds = [.i A, .i B, .i C] ∧ 0 ≤ B ∧ B < 2147483647 ∧ 0 ≤ C ∧ C ≤ (n : Int)
abbrev wl (n : Nat) : MO := .pre (WellP n)
theorem WellP.mono {n m : Nat} (l : n ≤ m) : OLe (some (wl n)) (some (wl m)) := .wk fun ds ⟨A, B, C, e, h2, h3, h4, h5⟩ => ⟨A, B, C, e, h2, h3, h4, by omega⟩
theorem wl_le {M : Mu} {p : Addr} {n m : Nat} (l : n ≤ m) : MLe (updM M p (wl n)) (updM M p (wl m)) := MLe.upd (WellP.mono l)
def sp_draw : Sp2 := fun ds M Q2 _ => ∃ (p : Addr) (top : Int) (n : Nat), ds = [.r p, .i top] ∧ M p = some (wl n) ∧ n ≤ 1000000000 ∧ 0 < top ∧ top < 1073741824 ∧ ∀ r : Nat, (r : Int) < top → Q2 (.i (r : Nat)) (updM M p (wl (n + 1)))
section
variable {M : Mu} {Q2 : DQ} {E2 : XK2} {p q q' : Addr} {n : Nat} {top : Int} {x y : MO}
theorem draw1 (hn : n ≤ 1000000000) (h0 : 0 < top) (h1 : top < 1073741824) (h : ∀ r : Nat, (r : Int) < top → Q2 (.i (r : Nat)) (updM M p (wl (n + 1)))) : sp_draw [.r p, .i top] (updM M p (wl n)) Q2 E2 :=
  ⟨p, top, n, rfl, updM_same, hn, h0, h1, by rw [updM_upd]; exact h⟩
theorem draw2 (hq : q ≠ p) (hn : n ≤ 1000000000) (h0 : 0 < top) (h1 : top < 1073741824) (h : ∀ r : Nat, (r : Int) < top → Q2 (.i (r : Nat)) (updM (updM M p (wl (n + 1))) q x)) : sp_draw [.r p, .i top] (updM (updM M p (wl n)) q x) Q2 E2 :=
  ⟨p, top, n, rfl, by rw [updM_ne (Ne.symm hq), updM_same], hn, h0, h1, by rw [updM_swap hq]; exact h⟩
theorem draw3 (hq : q ≠ p) (hq' : q' ≠ p) (hn : n ≤ 1000000000) (h0 : 0 < top) (h1 : top < 1073741824) (h : ∀ r : Nat, (r : Int) < top → Q2 (.i (r : Nat)) (updM (updM (updM M p (wl (n + 1))) q x) q' y)) : sp_draw [.r p, .i top] (updM (updM (updM M p (wl n)) q x) q' y) Q2 E2 :=
  ⟨p, top, n, rfl, by rw [updM_ne (Ne.symm hq'), updM_ne (Ne.symm hq), updM_same], hn, h0, h1, by
    have e : updM (updM (updM (updM M p (wl n)) q x) q' y) p (wl (n + 1)) = updM (updM (updM M p (wl (n + 1))) q x) q' y := by
      rw [← updM_comm hq', updM_swap hq]
    rw [e]
    exact h⟩
end
end DL
set_option Elab.async false
set_option linter.all false
set_option maxRecDepth 100000
set_option maxHeartbeats 2000000
namespace DL
open PySem PySem.Spec PyProof.Rows L2
/-- a list display that will be changed -/
def tLstM (t : TA) : TE := tLst t
theorem pe_lstM {X : Cx} {es : List Expr} {t : TA} {pos : Pos} (h : PA X es t) : PE X (.List es pos) (tLstM t) := pe_lst h
def rListQM (K : PySem.W.Frag) : List V → Hp → VK → Prop := rListQ K
theorem and_size {n : Nat} {Q : Prop} (h : Nat.ble n 1000000 = true) (q : Q) : n ≤ sizeLine ∧ Q := ⟨Nat.le_trans (Nat.le_of_ble_eq_true h) (by decide), q⟩
theorem le_size {n : Nat} (h : n ≤ 1000000) : n ≤ sizeLine := Nat.le_trans h (by decide)
theorem if_d {p : Prop} [Decidable p] {A B : Prop} (h1 : p → A) (h2 : ¬p → B) : if decide p = true then A else B := by
  by_cases h : p
  · rw [if_pos (decide_eq_true h)]; exact h1 h
  · rw [if_neg (by rw [decide_eq_false h]; exact Bool.false_ne_true)]; exact h2 h
theorem if_nd {p : Prop} [Decidable p] {A B : Prop} (h1 : ¬p → A) (h2 : p → B) : if (!decide p) = true then A else B := by
  by_cases h : p
  · rw [decide_eq_true h]; exact h2 h
  · rw [decide_eq_false h]; exact h1 h
section
variable {W : Wd} {Z : Zn} {G G' F : Hp} {ρ : Ro} {M M' : Mu} {H : Hp} {te ta tb : TE} {ts : TS} {tx : TA} {Q2 : DQ} {D2 : Ends2} {d e x y : DV} {ds es : List DV} {wi : TI} {g : TG} {tt : TT}
theorem we_lstMM (h : WA Z tx ρ M fun ds M1 => ds.length ≤ sizeLine ∧ ∀ p, M1 p = none → Q2 (.r p) (updM M1 p (.lst ds))) : WE Z (tLstM tx) ρ M Q2 := we_lstM h
theorem wm_app1 {q : Addr} (hz : ds.length < 1000000) (h : Q2 .n (updM M q (.lst (ds ++ [e])))) : WM Z rAppend (.r q) [e] (updM M q (.lst ds)) Q2 := wm_appendT updM_same hz (by rw [updM_upd]; exact h)
theorem wm_ext1 {q : Addr} (l : LstOf (updM M q (.lst ds)) e es) (hz : ds.length + es.length ≤ 1000000) (h : Q2 .n (updM M q (.lst (ds ++ es)))) : WM Z rExtend (.r q) [e] (updM M q (.lst ds)) Q2 := wm_extend updM_same l (le_size hz) (by rw [updM_upd]; exact h)
theorem ty_l1 {q : Addr} : TyOk W "list" (updM M q (.lst ds)) (.r q) := tyOk_lst (.inr ⟨q, rfl, updM_same⟩)
theorem ty_l0 : TyOk W "list" M (.lst ds) := tyOk_lst (.inl rfl)
theorem ls_l1 {q : Addr} : LstOf (updM M q (.lst ds)) (.r q) ds := .inr ⟨q, rfl, updM_same⟩
theorem we_call0 {sp2 : Sp2} {E : XK} {E2 : XK2} (hx : XcOk Z E2 E) (h : WA Z tx ρ M fun ds M1 => sp2 ds M1 Q2 E2) : WE Z (tCall (lift Z.W sp2) [] E tx) ρ M Q2 := we_call hx (h.imp fun ds M1 q => by rw [List.map_nil, List.append_nil]; exact q)
theorem we_meth0 {sp2 : Sp2} {E : XK} {E2 : XK2} {C : Addr} {m : Str} (hx : XcOk Z E2 E) (h : WE Z ta ρ M fun d M1 => (∃ ns ds, ObjOf M1 d C ns ds ∧ (ns.zip ds).lookup m = none) ∧ WA Z tx ρ M1 fun es M2 => sp2 (d :: es) M2 Q2 E2) : WE Z (tMeth C m (lift Z.W sp2) [] E ta tx) ρ M Q2 :=
  we_meth hx (h.imp fun d M1 q => ⟨q.1, q.2.imp fun ds M1 q => by rw [List.map_nil, List.append_nil]; exact q⟩)
theorem wc_isI {k : Kd} (hk : kdM M d = some k) (h : Q2 (.b (subK k .int)) M) : WC Z (rIsi Z.W.K) [d, .v (.ty "int")] M Q2 := wc_isK .int hk h
theorem wc_isS {k : Kd} (hk : kdM M d = some k) (h : Q2 (.b (subK k .str)) M) : WC Z (rIsi Z.W.K) [d, .v (.ty "str")] M Q2 := wc_isK .str hk h
theorem wc_isB {k : Kd} (hk : kdM M d = some k) (h : Q2 (.b (subK k .bool)) M) : WC Z (rIsi Z.W.K) [d, .v (.ty "bool")] M Q2 := wc_isK .bool hk h
theorem wc_isL {k : Kd} (hk : kdM M d = some k) (h : Q2 (.b (subK k .list)) M) : WC Z (rIsi Z.W.K) [d, .v (.ty "list")] M Q2 := wc_isK .list hk h
theorem wc_isT {k : Kd} (hk : kdM M d = some k) (h : Q2 (.b (subK k .tuple)) M) : WC Z (rIsi Z.W.K) [d, .v (.ty "tuple")] M Q2 := wc_isK .tuple hk h
theorem wc_lenL (h : Q2 (.i (ds.length : Nat)) M) : WC Z (orC (rLenQ Z.W.K) rLenT) [.lst ds] M Q2 := wc_lenQ (.inl (.inl rfl)) h
theorem wc_lenU (h : Q2 (.i (ds.length : Nat)) M) : WC Z (orC (rLenQ Z.W.K) rLenT) [.tup ds] M Q2 := wc_lenQ (.inr rfl) h
theorem wc_lenR {q : Addr} (h : Q2 (.i (ds.length : Nat)) (updM M q (.lst ds))) : WC Z (orC (rLenQ Z.W.K) rLenT) [.r q] (updM M q (.lst ds)) Q2 := wc_lenQ (.inl ls_l1) h
theorem wc_listL (h : Q2 (.lst ds) M) : WC Z (rListQ Z.W.K) [.lst ds] M Q2 := wc_listQ (.inl (.inl rfl)) h
theorem wc_listU (h : Q2 (.lst ds) M) : WC Z (rListQ Z.W.K) [.tup ds] M Q2 := wc_listQ (.inr rfl) h
theorem wc_listR {q : Addr} (h : Q2 (.lst ds) (updM M q (.lst ds))) : WC Z (rListQ Z.W.K) [.r q] (updM M q (.lst ds)) Q2 := wc_listQ (.inl ls_l1) h
theorem wc_listML (h : ∀ p, M p = none → Q2 (.r p) (updM M p (.lst ds))) : WC Z (rListQM Z.W.K) [.lst ds] M Q2 := wc_listQM (.inl (.inl rfl)) h
theorem wc_tupL (h : Q2 (.tup ds) M) : WC Z (rTupQ Z.W.K) [.lst ds] M Q2 := wc_tupQ (.inl (.inl rfl)) h
theorem wc_tupU (h : Q2 (.tup ds) M) : WC Z (rTupQ Z.W.K) [.tup ds] M Q2 := wc_tupQ (.inr rfl) h
theorem wc_tupR {q : Addr} (h : Q2 (.tup ds) (updM M q (.lst ds))) : WC Z (rTupQ Z.W.K) [.r q] (updM M q (.lst ds)) Q2 := wc_tupQ (.inl ls_l1) h
theorem wr_aL0 (h : Q2 e M) : WR Z (rIx Z.W.K) (.lst (e :: ds)) (.i 0) M Q2 := wr_atL (.inl rfl) (atI_nat (j := 0) rfl) h
theorem wr_aT0 (h : Q2 e M) : WR Z (rIx Z.W.K) (.tup (e :: ds)) (.i 0) M Q2 := wr_atT (atI_nat (j := 0) rfl) h
theorem wr_aR0 {q : Addr} (h : Q2 e (updM M q (.lst (e :: ds)))) : WR Z (rIx Z.W.K) (.r q) (.i 0) (updM M q (.lst (e :: ds))) Q2 := wr_atL ls_l1 (atI_nat (j := 0) rfl) h
theorem wr_aL1 {a0 : DV} (h : Q2 e M) : WR Z (rIx Z.W.K) (.lst (a0 :: e :: ds)) (.i 1) M Q2 := wr_atL (.inl rfl) (atI_nat (j := 1) rfl) h
theorem wr_aT1 {a0 : DV} (h : Q2 e M) : WR Z (rIx Z.W.K) (.tup (a0 :: e :: ds)) (.i 1) M Q2 := wr_atT (atI_nat (j := 1) rfl) h
theorem wr_aR1 {a0 : DV} {q : Addr} (h : Q2 e (updM M q (.lst (a0 :: e :: ds)))) : WR Z (rIx Z.W.K) (.r q) (.i 1) (updM M q (.lst (a0 :: e :: ds))) Q2 := wr_atL ls_l1 (atI_nat (j := 1) rfl) h
theorem wr_aL2 {a0 a1 : DV} (h : Q2 e M) : WR Z (rIx Z.W.K) (.lst (a0 :: a1 :: e :: ds)) (.i 2) M Q2 := wr_atL (.inl rfl) (atI_nat (j := 2) rfl) h
theorem wr_aT2 {a0 a1 : DV} (h : Q2 e M) : WR Z (rIx Z.W.K) (.tup (a0 :: a1 :: e :: ds)) (.i 2) M Q2 := wr_atT (atI_nat (j := 2) rfl) h
theorem wr_aR2 {a0 a1 : DV} {q : Addr} (h : Q2 e (updM M q (.lst (a0 :: a1 :: e :: ds)))) : WR Z (rIx Z.W.K) (.r q) (.i 2) (updM M q (.lst (a0 :: a1 :: e :: ds))) Q2 := wr_atL ls_l1 (atI_nat (j := 2) rfl) h
theorem wr_aL3 {a0 a1 a2 : DV} (h : Q2 e M) : WR Z (rIx Z.W.K) (.lst (a0 :: a1 :: a2 :: e :: ds)) (.i 3) M Q2 := wr_atL (.inl rfl) (atI_nat (j := 3) rfl) h
theorem wr_aT3 {a0 a1 a2 : DV} (h : Q2 e M) : WR Z (rIx Z.W.K) (.tup (a0 :: a1 :: a2 :: e :: ds)) (.i 3) M Q2 := wr_atT (atI_nat (j := 3) rfl) h
theorem wr_aR3 {a0 a1 a2 : DV} {q : Addr} (h : Q2 e (updM M q (.lst (a0 :: a1 :: a2 :: e :: ds)))) : WR Z (rIx Z.W.K) (.r q) (.i 3) (updM M q (.lst (a0 :: a1 :: a2 :: e :: ds))) Q2 := wr_atL ls_l1 (atI_nat (j := 3) rfl) h
theorem wr_aL4 {a0 a1 a2 a3 : DV} (h : Q2 e M) : WR Z (rIx Z.W.K) (.lst (a0 :: a1 :: a2 :: a3 :: e :: ds)) (.i 4) M Q2 := wr_atL (.inl rfl) (atI_nat (j := 4) rfl) h
theorem wr_aT4 {a0 a1 a2 a3 : DV} (h : Q2 e M) : WR Z (rIx Z.W.K) (.tup (a0 :: a1 :: a2 :: a3 :: e :: ds)) (.i 4) M Q2 := wr_atT (atI_nat (j := 4) rfl) h
theorem wr_aR4 {a0 a1 a2 a3 : DV} {q : Addr} (h : Q2 e (updM M q (.lst (a0 :: a1 :: a2 :: a3 :: e :: ds)))) : WR Z (rIx Z.W.K) (.r q) (.i 4) (updM M q (.lst (a0 :: a1 :: a2 :: a3 :: e :: ds))) Q2 := wr_atL ls_l1 (atI_nat (j := 4) rfl) h
theorem wr_aL5 {a0 a1 a2 a3 a4 : DV} (h : Q2 e M) : WR Z (rIx Z.W.K) (.lst (a0 :: a1 :: a2 :: a3 :: a4 :: e :: ds)) (.i 5) M Q2 := wr_atL (.inl rfl) (atI_nat (j := 5) rfl) h
theorem wr_aT5 {a0 a1 a2 a3 a4 : DV} (h : Q2 e M) : WR Z (rIx Z.W.K) (.tup (a0 :: a1 :: a2 :: a3 :: a4 :: e :: ds)) (.i 5) M Q2 := wr_atT (atI_nat (j := 5) rfl) h
theorem wr_aR5 {a0 a1 a2 a3 a4 : DV} {q : Addr} (h : Q2 e (updM M q (.lst (a0 :: a1 :: a2 :: a3 :: a4 :: e :: ds)))) : WR Z (rIx Z.W.K) (.r q) (.i 5) (updM M q (.lst (a0 :: a1 :: a2 :: a3 :: a4 :: e :: ds))) Q2 := wr_atL ls_l1 (atI_nat (j := 5) rfl) h
theorem if_ttN {p : Prop} [Decidable p] {A B : Prop} (h : ¬p) (q : A) : if (!decide p) = true then A else B := by rw [decide_eq_false h]; exact q
theorem if_ffN {p : Prop} [Decidable p] {A B : Prop} (h : p) (q : B) : if (!decide p) = true then A else B := by rw [decide_eq_true h]; exact q
theorem if_ttD {p : Prop} [Decidable p] {A B : Prop} (h : p) (q : A) : if decide p = true then A else B := by rw [decide_eq_true h]; exact q
theorem if_ffD {p : Prop} [Decidable p] {A B : Prop} (h : ¬p) (q : B) : if decide p = true then A else B := by rw [decide_eq_false h]; exact q
theorem wr_M {C : Int → Int → Prop} {g : Int → Int → V} {i j : Int} (hc : C i j) (h : Q2 (.v (g i j)) M) : WR Z (rI C g) (.i i) (.i j) M Q2 := wr_I hc h
end
mutual
def DV.pln : DV → Bool
  | .v .non => true
  | .v (.int _) => true
  | .v (.str z) => PyData.strOk z
  | .lst ds => plnL ds
  | .tup ds => plnL ds
  | _ => false
def plnL : List DV → Bool
  | [] => true
  | d :: ds => d.pln && plnL ds
end
mutual
theorem pln_good : ∀ d : DV, d.pln = true → d.good = true
  | .v x, h => by cases x <;> simp_all [DV.pln, DV.good]
  | .lst ds, h => by simp only [DV.good]; exact plnL_good ds (by simpa [DV.pln] using h)
  | .tup ds, h => by simp only [DV.good]; exact plnL_good ds (by simpa [DV.pln] using h)
  | .obj _ _ _, h => by simp [DV.pln] at h
  | .dk _ _, h => by simp [DV.pln] at h
  | .dl _ _, h => by simp [DV.pln] at h
  | .fn _ _, h => by simp [DV.pln] at h
theorem plnL_good : ∀ ds : List DV, plnL ds = true → goodL ds = true
  | [], _ => rfl
  | d :: ds, h => by
    simp only [plnL, Bool.and_eq_true] at h
    simp only [goodL, Bool.and_eq_true]
    exact ⟨pln_good d h.1, plnL_good ds h.2⟩
end
mutual
theorem pln_eqv : ∀ (d e : DV) (p q : PyData), d.pln = true → e.pln = true → d.py = some p → e.py = some q → (PyData.eqv p q = true ↔ d = e)
  | .v x, e, p, q, h1, h2, h3, h4 => by
    cases x <;> simp [DV.pln] at h1 <;> simp [DV.py] at h3 <;> subst h3
    all_goals
      cases e with
      | v y => cases y <;> simp [DV.pln] at h2 <;> simp [DV.py] at h4 <;> subst h4 <;> simp [PyData.eqv]
      | lst ds =>
        simp only [DV.py, Option.map_eq_some_iff] at h4
        obtain ⟨ps, _, rfl⟩ := h4
        simp [PyData.eqv]
      | tup ds =>
        simp only [DV.py, Option.map_eq_some_iff] at h4
        obtain ⟨ps, _, rfl⟩ := h4
        simp [PyData.eqv]
      | obj _ _ _ => simp [DV.pln] at h2
      | dk _ _ => simp [DV.pln] at h2
      | dl _ _ => simp [DV.pln] at h2
      | fn _ _ => simp [DV.pln] at h2
  | .lst ds, e, p, q, h1, h2, h3, h4 => by
    simp only [DV.py, Option.map_eq_some_iff] at h3
    obtain ⟨ps, h3, rfl⟩ := h3
    cases e with
    | v y => cases y <;> simp [DV.pln] at h2 <;> simp [DV.py] at h4 <;> subst h4 <;> simp [PyData.eqv]
    | lst es =>
      simp only [DV.py, Option.map_eq_some_iff] at h4
      obtain ⟨qs, h4, rfl⟩ := h4
      simp only [PyData.eqv, DV.lst.injEq]
      exact plnL_eqv ds es ps qs (by simpa [DV.pln] using h1) (by simpa [DV.pln] using h2) h3 h4
    | tup es =>
      simp only [DV.py, Option.map_eq_some_iff] at h4
      obtain ⟨qs, h4, rfl⟩ := h4
      simp [PyData.eqv]
    | obj _ _ _ => simp [DV.pln] at h2
    | dk _ _ => simp [DV.pln] at h2
    | dl _ _ => simp [DV.pln] at h2
    | fn _ _ => simp [DV.pln] at h2
  | .tup ds, e, p, q, h1, h2, h3, h4 => by
    simp only [DV.py, Option.map_eq_some_iff] at h3
    obtain ⟨ps, h3, rfl⟩ := h3
    cases e with
    | v y => cases y <;> simp [DV.pln] at h2 <;> simp [DV.py] at h4 <;> subst h4 <;> simp [PyData.eqv]
    | tup es =>
      simp only [DV.py, Option.map_eq_some_iff] at h4
      obtain ⟨qs, h4, rfl⟩ := h4
      simp only [PyData.eqv, DV.tup.injEq]
      exact plnL_eqv ds es ps qs (by simpa [DV.pln] using h1) (by simpa [DV.pln] using h2) h3 h4
    | lst es =>
      simp only [DV.py, Option.map_eq_some_iff] at h4
      obtain ⟨qs, h4, rfl⟩ := h4
      simp [PyData.eqv]
    | obj _ _ _ => simp [DV.pln] at h2
    | dk _ _ => simp [DV.pln] at h2
    | dl _ _ => simp [DV.pln] at h2
    | fn _ _ => simp [DV.pln] at h2
  | .obj _ _ _, e, p, q, h1, _, _, _ => by simp [DV.pln] at h1
  | .dk _ _, e, p, q, h1, _, _, _ => by simp [DV.pln] at h1
  | .dl _ _, e, p, q, h1, _, _, _ => by simp [DV.pln] at h1
  | .fn _ _, e, p, q, h1, _, _, _ => by simp [DV.pln] at h1
theorem plnL_eqv : ∀ (ds es : List DV) (ps qs : List PyData), plnL ds = true → plnL es = true → pyL ds = some ps → pyL es = some qs → (PyData.eqvAll ps qs = true ↔ ds = es)
  | [], [], ps, qs, h1, h2, h3, h4 => by
    simp [pyL] at h3 h4
    subst h3 h4
    simp [PyData.eqvAll]
  | [], e :: es, ps, qs, h1, h2, h3, h4 => by
    obtain ⟨q, qs', _, _, rfl⟩ := pyL_cons h4
    simp [pyL] at h3
    subst h3
    simp [PyData.eqvAll]
  | d :: ds, [], ps, qs, h1, h2, h3, h4 => by
    obtain ⟨p, ps', _, _, rfl⟩ := pyL_cons h3
    simp [pyL] at h4
    subst h4
    simp [PyData.eqvAll]
  | d :: ds, e :: es, ps, qs, h1, h2, h3, h4 => by
    obtain ⟨p, ps', g1, g2, rfl⟩ := pyL_cons h3
    obtain ⟨q, qs', g3, g4, rfl⟩ := pyL_cons h4
    simp only [plnL, Bool.and_eq_true] at h1 h2
    have a := pln_eqv d e p q h1.1 h2.1 g1 g3
    have b := plnL_eqv ds es ps' qs' h1.2 h2.2 g2 g4
    simp only [PyData.eqvAll, Bool.and_eq_true, List.cons.injEq, a, b]
end
/-- data at hand: frozen, or a list that may change -/
def Hold (M : Mu) (x d : DV) : Prop := x = d ∨ ∃ a ds, x = .r a ∧ M a = some (.lst ds) ∧ d = .lst ds
theorem Hold.py {M : Mu} {x d : DV} {p : PyData} (h : Hold M x d) (e : d.py = some p) : PyOf M x p := by
  rcases h with rfl | ⟨a, ds, rfl, hm, rfl⟩
  · exact .inl e
  · simp only [DV.py, Option.map_eq_some_iff] at e
    obtain ⟨ps, e, rfl⟩ := e
    exact .inr ⟨a, ds, ps, rfl, hm, e, rfl⟩
section
variable {Z : Zn} {M : Mu} {Q2 : DQ} {x y d e : DV} {ds es : List DV}
theorem wr_eqB (hx : Hold M x d) (hy : Hold M y e) (h1 : d.pln = true) (h2 : e.pln = true) (h3 : d.dep ≤ 64) (h4 : e.dep ≤ 64) (h : ∀ b : Bool, (b = true ↔ d = e) → Q2 (.b b) M) : WR Z (rEqA Z.W.K) x y M Q2 := by
  obtain ⟨p, p1, p2, p3⟩ := good_py d (pln_good d h1)
  obtain ⟨q, q1, q2, q3⟩ := good_py e (pln_good e h2)
  exact wr_eqP (hx.py p1) (hy.py q1) (shaped_of p2 (by omega)) (shaped_of q2 (by omega)) (h _ (pln_eqv d e p q h1 h2 p1 q1))
theorem wr_neB (hx : Hold M x d) (hy : Hold M y e) (h1 : d.pln = true) (h2 : e.pln = true) (h3 : d.dep ≤ 64) (h4 : e.dep ≤ 64) (h : ∀ b : Bool, (b = true ↔ d ≠ e) → Q2 (.b b) M) : WR Z (rNeA Z.W.K) x y M Q2 := by
  obtain ⟨p, p1, p2, p3⟩ := good_py d (pln_good d h1)
  obtain ⟨q, q1, q2, q3⟩ := good_py e (pln_good e h2)
  refine wr_neP (hx.py p1) (hy.py q1) (shaped_of p2 (by omega)) (shaped_of q2 (by omega)) (h _ ?_)
  have := pln_eqv d e p q h1 h2 p1 q1
  cases z : PyData.eqv p q <;> simp_all
theorem anyEqv : ∀ {ds : List DV} {e : DV} {ps : List PyData} {q : PyData}, plnL ds = true → e.pln = true → pyL ds = some ps → e.py = some q → ((ps.any fun z => PyData.eqv z q) = true ↔ e ∈ ds)
  | [], e, ps, q, h1, h2, h3, h4 => by
    simp [pyL] at h3
    subst h3
    simp
  | d :: ds, e, ps, q, h1, h2, h3, h4 => by
    obtain ⟨p, ps', g1, g2, rfl⟩ := pyL_cons h3
    simp only [plnL, Bool.and_eq_true] at h1
    have a := pln_eqv d e p q h1.1 h2 g1 h4
    have b := anyEqv h1.2 h2 g2 h4
    simp only [List.any_cons, Bool.or_eq_true, a, b, List.mem_cons]
    exact ⟨fun h => h.imp Eq.symm id, fun h => h.imp Eq.symm id⟩
theorem wr_inB (hx : Hold M x d) (hy : LstOf M y ds) (h1 : d.pln = true) (h2 : plnL ds = true) (h3 : d.dep ≤ 64) (h4 : depL ds ≤ 63) (h : ∀ b : Bool, (b = true ↔ d ∈ ds) → Q2 (.b b) M) : WR Z (rInA Z.W.K) x y M Q2 := by
  obtain ⟨p, p1, p2, p3⟩ := good_py d (pln_good d h1)
  obtain ⟨qs, q1, q2, q3⟩ := goodL_py ds (plnL_good ds h2)
  exact wr_inDA (hx.py p1) (pyOf_lst hy q1) (shaped_of p2 (by omega)) (shaped_of (by simpa [PyData.canLay0] using q2) (by simp [PyData.depth, q3]; omega)) (h _ (anyEqv h2 h1 q1 p1))
theorem wr_niB (hx : Hold M x d) (hy : LstOf M y ds) (h1 : d.pln = true) (h2 : plnL ds = true) (h3 : d.dep ≤ 64) (h4 : depL ds ≤ 63) (h : ∀ b : Bool, (b = true ↔ d ∉ ds) → Q2 (.b b) M) : WR Z (rNiA Z.W.K) x y M Q2 := by
  obtain ⟨p, p1, p2, p3⟩ := good_py d (pln_good d h1)
  obtain ⟨qs, q1, q2, q3⟩ := goodL_py ds (plnL_good ds h2)
  refine wr_niDA (hx.py p1) (pyOf_lst hy q1) (shaped_of p2 (by omega)) (shaped_of (by simpa [PyData.canLay0] using q2) (by simp [PyData.depth, q3]; omega)) (h _ ?_)
  have := anyEqv h2 h1 q1 p1
  cases z : (qs.any fun z => PyData.eqv z p) <;> simp_all
end
theorem plnL_strs : ∀ {zs : List Str}, (∀ z ∈ zs, PyData.strOk z = true) → plnL (zs.map DV.s) = true
  | [], _ => rfl
  | z :: zs, h => by
    have := plnL_strs (zs := zs) fun y hy => h y (List.mem_cons_of_mem _ hy)
    simp [plnL, DV.pln, h z (by simp), this]
end DL
set_option Elab.async false
set_option linter.all false
set_option maxRecDepth 100000
set_option maxHeartbeats 2000000
namespace DL
open PySem PySem.Spec PyProof.Rows L2
section
variable {W : Wd} {Z : Zn} {G G' F : Hp} {ρ : Ro} {M M' : Mu} {H : Hp} {te ta tb : TE} {ts : TS} {tx : TA} {Q2 : DQ} {D2 : Ends2} {d e x y : DV} {ds es : List DV} {wi : TI} {g : TG} {tt : TT}
theorem wg_weak {P : Ro → Mu → Prop} (l : MLe M M') (h : WG Z g d ρ M' P) : WG Z g d ρ M P := fun G σ H v Q s R E x n => h G σ H v Q s (R.weak l) E x n
theorem wi_rangeI {R2 : List DV → Mu → Prop} (h : WA Z tx ρ M fun ds M1 => ∃ j : Int, ds = [.i j] ∧ -(2 ^ 62) ≤ j ∧ j < 2 ^ 62 ∧ R2 (rangeD 0 j.toNat) M1) : WI Z (iRng1 tx) ρ M R2 := wi_range1 h
theorem enumD_get {i : Nat} (h : (enumD ds)[i]? = some d) : ∃ e, ds[i]? = some e ∧ d = .tup [.i (i : Nat), e] := by
  unfold enumD at h
  rw [List.getElem?_mapIdx] at h
  cases q : ds[i]? with
  | none => rw [q] at h; cases h
  | some y => rw [q] at h; cases h; exact ⟨y, rfl, rfl⟩
theorem enumD_len : (enumD ds).length = ds.length := by simp [enumD]
/-- a comprehension that draws: S n the store after n draws at most -/
theorem comp_S {α : Type} {k : List DV → Mu → Prop} (S : Nat → Mu) (hS : ∀ {a b : Nat}, a ≤ b → MLe (S a) (S b)) (f : α → DV) (P : Nat → α → Prop) (c : Nat) {n : Nat} {items : List DV} (hl : items.length ≤ 1000000)
    (hb : ∀ i d F, items[i]? = some d → i < items.length → WG (Z.fr F) g d ρ (S (n + c * i)) fun ρ2 M2 => WT (Z.fr F) tt ρ2 M2 fun b M3 => b = true ∧ WE (Z.fr F) te ρ2 M3 fun y M4 => ∃ x m, y = f x ∧ P i x ∧ m ≤ n + c * i + c ∧ M4 = S m)
    (hk : ∀ (xs : List α) (m : Nat), xs.length = items.length → (∀ i x, xs[i]? = some x → P i x) → m ≤ n + c * items.length → k (xs.map f) (S m)) : Comp Z g tt te ρ k items [] (S n) :=
  comp_word (fun j acc M' => ∃ (xs : List α) (m : Nat), acc = xs.map f ∧ xs.length = j ∧ (∀ i x, xs[i]? = some x → P i x) ∧ m ≤ n + c * j ∧ M' = S m) items 0 [] (S n) (by simpa using le_size hl) ⟨[], n, rfl, rfl, by simp, by omega, rfl⟩
    (fun i d acc M' F hd ⟨xs, m, e1, e2, e3, e4, e5⟩ => by
      subst e1 e5
      rw [Nat.zero_add] at e2 e4 ⊢
      have hi := (List.getElem?_eq_some_iff.mp hd).1
      refine (wg_weak (hS e4) (hb i d F hd hi)).imp fun ρ2 M2 q => q.imp fun b M3 ⟨hb, q2⟩ => ⟨hb, q2.imp fun y M4 ⟨x, m', h1, h2, h3, h4⟩ => ?_⟩
      subst h1 h4
      refine ⟨xs ++ [x], m', by simp, by simp [e2], fun j z hz => ?_, by rw [Nat.mul_add]; omega, rfl⟩
      by_cases hj : j < xs.length
      · rw [List.getElem?_append_left hj] at hz
        exact e3 j z hz
      · rw [List.getElem?_append_right (by omega)] at hz
        have : j = xs.length := by
          have := (List.getElem?_eq_some_iff.mp hz).1
          simp at this
          omega
        subst this
        simp at hz
        rw [← hz, e2]
        exact h2)
    fun acc M' ⟨xs, m, e1, e2, e3, e4, e5⟩ => by
      rw [Nat.zero_add] at e2 e4
      subst e1 e5
      exact hk xs m e2 e3 e4
/-- .. over range(j) -/
theorem comp_SR {α : Type} {k : List DV → Mu → Prop} {j : Nat} (S : Nat → Mu) (hS : ∀ {a b : Nat}, a ≤ b → MLe (S a) (S b)) (f : α → DV) (P : Nat → α → Prop) (c : Nat) {n : Nat} (hl : j ≤ 1000000)
    (hb : ∀ i F, i < j → WG (Z.fr F) g (.i (i : Nat)) ρ (S (n + c * i)) fun ρ2 M2 => WT (Z.fr F) tt ρ2 M2 fun b M3 => b = true ∧ WE (Z.fr F) te ρ2 M3 fun y M4 => ∃ x m, y = f x ∧ P i x ∧ m ≤ n + c * i + c ∧ M4 = S m)
    (hk : ∀ (xs : List α) (m : Nat), xs.length = j → (∀ i x, xs[i]? = some x → P i x) → m ≤ n + c * j → k (xs.map f) (S m)) : Comp Z g tt te ρ k (rangeD 0 j) [] (S n) :=
  comp_S S hS f P c (by rw [rangeD_len]; exact hl) (fun i d F hd hi => by
    obtain ⟨h1, rfl⟩ := rangeD_get hd
    exact hb i F h1) fun xs m h1 h2 h3 => hk xs m (by rw [h1, rangeD_len]) h2 (by rw [rangeD_len] at h3; exact h3)
/-- one well -/
theorem comp_W {α : Type} {k : List DV → Mu → Prop} {j : Nat} {p : Addr} (f : α → DV) (P : Nat → α → Prop) (c : Nat) {n : Nat} (hl : j ≤ 1000000)
    (hb : ∀ i F, i < j → WG (Z.fr F) g (.i (i : Nat)) ρ (updM M p (wl (n + c * i))) fun ρ2 M2 => WT (Z.fr F) tt ρ2 M2 fun b M3 => b = true ∧ WE (Z.fr F) te ρ2 M3 fun y M4 => ∃ x m, y = f x ∧ P i x ∧ m ≤ n + c * i + c ∧ M4 = updM M p (wl m))
    (hk : ∀ (xs : List α) (m : Nat), xs.length = j → (∀ i x, xs[i]? = some x → P i x) → m ≤ n + c * j → k (xs.map f) (updM M p (wl m))) : Comp Z g tt te ρ k (rangeD 0 j) [] (updM M p (wl n)) :=
  comp_SR (fun n => updM M p (wl n)) wl_le f P c hl hb hk
theorem wipe2_some : ∀ (is : List Nat) (i : Nat) d, (wipe2 ρ is)[i]? = some (some d) → ρ[i]? = some (some d)
  | [], i, d, h => h
  | j :: is, i, d, h => by
    unfold wipe2 at h
    by_cases q : j = i
    · subst q
      rw [List.getElem?_set] at h
      split at h
      · split at h <;> cases h
      · exact wipe2_some is _ d h
    · rw [List.getElem?_set_ne q] at h
      exact wipe2_some is i d h
theorem EnvOk.wipeL {σ : L2.St} (is : List Nat) (E : EnvOk W G ρ σ) : EnvOk W G (wipe2 ρ is) σ := E.weak (wipe2_length is) (wipe2_some is)
theorem ws_env (is : List Nat) (h : WS Z ts D2 (wipe2 ρ is) M) : WS Z ts D2 ρ M := fun G σ H D s R E e => h G σ H D s R (E.wipeL is) e
theorem wg_env {P : Ro → Mu → Prop} (is : List Nat) (h : WG Z g d (wipe2 ρ is) M P) : WG Z g d ρ M P := fun G σ H v Q s R E x n => h G σ H v Q s R (E.wipeL is) x n
/-- a for over items that draws and keeps all slots but some; b what is changed beside -/
theorem loop_S {β : Type} {tr : TS} (is : List Nat) (S : Nat → β → Mu) (I : Nat → β → Prop) (c : Nat) {n : Nat} {b0 : β} {items : List DV} (hI : I 0 b0)
    (hs : ∀ i d m b, items[i]? = some d → m ≤ n + c * i → I i b → WG Z g d (wipe2 ρ is) (S m b) fun ρ1 M1 => WS Z ts { nx := fun ρ2 M2 => wipe2 ρ2 is = wipe2 ρ is ∧ ∃ m' b', m' ≤ m + c ∧ I (i + 1) b' ∧ M2 = S m' b', rt := D2.rt, bk := fun ρ2 M2 => WS Z tr D2 ρ2 M2, ct := fun ρ2 M2 => wipe2 ρ2 is = wipe2 ρ is ∧ ∃ m' b', m' ≤ m + c ∧ I (i + 1) b' ∧ M2 = S m' b' } ρ1 M1)
    (hk : ∀ m b, m ≤ n + c * items.length → I items.length b → WS Z tr D2 (wipe2 ρ is) (S m b)) : Loop Z g ts { nx := fun ρ' M' => WS Z tr D2 ρ' M', rt := D2.rt, bk := D2.bk, ct := D2.ct } items ρ (S n b0) := by
  refine loop_word (fun j ρ2 M2 => wipe2 ρ2 is = wipe2 ρ is ∧ ∃ m b, m ≤ n + c * j ∧ I j b ∧ M2 = S m b) items 0 ρ _ ⟨rfl, n, b0, by omega, hI, rfl⟩ (fun i d ρ2 M2 hi h => ?_) fun ρ2 M2 h => ?_
  · rw [Nat.zero_add] at h ⊢
    obtain ⟨h1, m, b, h2, h3, rfl⟩ := h
    refine wg_env is ?_
    rw [h1]
    have key : ∀ ρ2 M2, (wipe2 ρ2 is = wipe2 ρ is ∧ ∃ m' b', m' ≤ m + c ∧ I (i + 1) b' ∧ M2 = S m' b') → (wipe2 ρ2 is = wipe2 ρ is ∧ ∃ m b, m ≤ n + c * (i + 1) ∧ I (i + 1) b ∧ M2 = S m b) :=
      fun ρ2 M2 ⟨g1, m', b', g2, g3, g4⟩ => ⟨g1, m', b', by rw [Nat.mul_add]; omega, g3, g4⟩
    exact (hs i d m b hi h2 h3).imp fun ρ1 M1 q => q.imp key (fun _ _ h => h) (fun _ _ h => h) key
  · rw [Nat.zero_add] at h
    obtain ⟨h1, m, b, h2, h3, rfl⟩ := h
    refine ws_env is ?_
    rw [h1]
    exact hk m b h2 h3
/-- .. that draws nothing -/
theorem loop_K {β : Type} {tr : TS} (is : List Nat) (S : β → Mu) (I : Nat → β → Prop) {b0 : β} {items : List DV} (hI : I 0 b0)
    (hs : ∀ i d b, items[i]? = some d → I i b → WG Z g d (wipe2 ρ is) (S b) fun ρ1 M1 => WS Z ts { nx := fun ρ2 M2 => wipe2 ρ2 is = wipe2 ρ is ∧ ∃ b', I (i + 1) b' ∧ M2 = S b', rt := D2.rt, bk := fun ρ2 M2 => WS Z tr D2 ρ2 M2, ct := fun ρ2 M2 => wipe2 ρ2 is = wipe2 ρ is ∧ ∃ b', I (i + 1) b' ∧ M2 = S b' } ρ1 M1)
    (hk : ∀ b, I items.length b → WS Z tr D2 (wipe2 ρ is) (S b)) : Loop Z g ts { nx := fun ρ' M' => WS Z tr D2 ρ' M', rt := D2.rt, bk := D2.bk, ct := D2.ct } items ρ (S b0) :=
  loop_S is (fun _ b => S b) I 0 (n := 0) hI (fun i d m b hi hm h => by
    have key : ∀ ρ2 M2, (wipe2 ρ2 is = wipe2 ρ is ∧ ∃ b', I (i + 1) b' ∧ M2 = S b') → (wipe2 ρ2 is = wipe2 ρ is ∧ ∃ m' b', m' ≤ m + 0 ∧ I (i + 1) b' ∧ M2 = S b') :=
      fun ρ2 M2 ⟨g1, b', g3, g4⟩ => ⟨g1, 0, b', by omega, g3, g4⟩
    exact (hs i d b hi h).imp fun ρ1 M1 q => q.imp key (fun _ _ h => h) (fun _ _ h => h) key) fun m b _ h => hk b h
end
end DL
set_option Elab.async false
set_option linter.all false
set_option maxRecDepth 100000
set_option maxHeartbeats 2000000
namespace DL
open PySem PySem.Spec PyProof.Rows L2
section
variable {Z : Zn} {ρ ρ' : Ro} {M : Mu} {te : TE} {ts : TS} {tx : TA} {tt : TT} {Q2 : DQ} {D2 : Ends2} {d : DV} {g : TG} {i : Nat} {x : Option DV} {is : List Nat} {y : Option DV} {l : Ro}
theorem ws_nrm (h : ρ.set i x = y :: l) (k : WS Z ts D2 (y :: l) M) : WS Z ts D2 (ρ.set i x) M := h ▸ k
theorem we_nrm (h : ρ.set i x = y :: l) (k : WE Z te (y :: l) M Q2) : WE Z te (ρ.set i x) M Q2 := h ▸ k
theorem wt_nrm {P : Bool → Mu → Prop} (h : ρ.set i x = y :: l) (k : WT Z tt (y :: l) M P) : WT Z tt (ρ.set i x) M P := h ▸ k
theorem wg_nrm {P : Ro → Mu → Prop} (h : ρ.set i x = y :: l) (k : WG Z g d (y :: l) M P) : WG Z g d (ρ.set i x) M P := h ▸ k
theorem wgs_nrm {gs : TGs} {ds : List DV} {P : Ro → Mu → Prop} (h : ρ.set i x = y :: l) (k : WGs Z gs ds (y :: l) M P) : WGs Z gs ds (ρ.set i x) M P := h ▸ k
theorem ws_nrmW (h : wipe2 ρ is = y :: l) (k : WS Z ts D2 (y :: l) M) : WS Z ts D2 (wipe2 ρ is) M := h ▸ k
theorem wg_nrmW {P : Ro → Mu → Prop} (h : wipe2 ρ is = y :: l) (k : WG Z g d (y :: l) M P) : WG Z g d (wipe2 ρ is) M P := h ▸ k
theorem comp_nrm {k : List DV → Mu → Prop} {items acc : List DV} (h : wipe2 ρ is = y :: l) (q : Comp Z g tt te (y :: l) k items acc M) : Comp Z g tt te (wipe2 ρ is) k items acc M := h ▸ q
theorem ws_start {N : List Str} {ds : List DV} (h : start2 N ds = ρ') (k : WS Z ts D2 ρ' M) : WS Z ts D2 (start2 N ds) M := h ▸ k
theorem wu_U {g : Int → V} {i : Int} (h : Q2 (.v (g i)) M) : WU Z (rU g) (.i i) M Q2 := fun G H vx Q s R dx r => ⟨i, dat_v.mp dx, r _ _ G M H (Same.refl G) R dat_v' h⟩
theorem wr_addLL {ds es : List DV} (h : Nat.ble (ds.length + es.length) 1000000 = true) (q : Q2 (.lst (ds ++ es)) M) : WR Z (rAddA Z.W.K) (.lst ds) (.lst es) M Q2 := wr_addL (.inl rfl) (.inl rfl) (le_size (Nat.le_of_ble_eq_true h)) q
theorem wr_addLn {ds es : List DV} (h : ds.length + es.length ≤ 1000000) (q : Q2 (.lst (ds ++ es)) M) : WR Z (rAddA Z.W.K) (.lst ds) (.lst es) M Q2 := wr_addL (.inl rfl) (.inl rfl) (le_size h) q
def Ask (p : Prop) : Prop := p
theorem ask_of {p : Prop} (h : p) : Ask p := h
def Obj (M : Mu) (d : DV) (C : Addr) (m : Str) : Prop := ∃ ns ds, ObjOf M d C ns ds ∧ (ns.zip ds).lookup m = none
theorem obj_of {C : Addr} {m : Str} {ns : List Str} {ds : List DV} {Q : Prop} (h : ObjOf M d C ns ds) (k : (ns.zip ds).lookup m = none) (q : Q) : Obj M d C m ∧ Q := ⟨⟨ns, ds, h, k⟩, q⟩
end
end DL
set_option Elab.async false
set_option linter.all false
set_option maxRecDepth 100000
set_option maxHeartbeats 2000000
namespace DL
open PySem PySem.Spec PyProof.Rows L2
section
variable {Z : Zn} {ρ ρ' : Ro} {M : Mu} {Q2 : DQ}
theorem cut_len {α : Type} (xs : List α) (n : Nat) : (cutD xs none (some (n : Int))).length ≤ n := by
  unfold cutD
  have : HT.sIx xs.length 0 none = 0 := rfl
  rw [this, List.drop_zero, List.length_take]
  have : HT.sIx xs.length xs.length (some (n : Int)) ≤ n := by
    unfold HT.sIx
    simp only
    split <;> omega
  omega
theorem cutV_map (ns : List Int) (lo hi : Option Int) : (cutV (ns.map V.int) lo hi).map DV.v = (cutD ns lo hi).map DV.i := by
  unfold cutV cutD
  rw [List.length_map, ← List.map_drop, ← List.map_take, List.map_map]
  rfl
theorem wl_scr {a : Addr} {ns : List Int} (n : Nat) (hS : SqL Z.W.K Z.G a (ns.map V.int)) (h : ∀ cs : List Int, cs.length ≤ n → Q2 (.lst (cs.map DV.i)) M) : WL Z (rSlA Z.W.K) (.r a) none (some (n : Int)) M Q2 :=
  wl_A0 hS (by rw [cutV_map]; exact h _ (cut_len ns n))
end
end DL
set_option Elab.async false
set_option linter.all false
set_option maxRecDepth 100000
set_option maxHeartbeats 2000000
namespace DL
open PySem PySem.Spec PyProof.Rows L2
structure ItOkM (W : Wd) (G : Hp) (Kp : Mu → Prop) (J : It) (items : List DV) : Prop where
  go : ∀ i G' F M H', Same G G' → Rep W G' M F H' → Kp M → i < items.length → J.go i H'
  stop : ∀ i G' F M H', Same G G' → Rep W G' M F H' → Kp M → items.length ≤ i → J.stop i H'
  yld : ∀ i d G' F M H' x H'', Same G G' → Rep W G' M F H' → Kp M → items[i]? = some d → J.yld i H' x H'' → ∃ G'', Same G' G'' ∧ Rep W G'' M F H'' ∧ Dat W G'' d x
def WIM (Z : Zn) (wi : TI) (ρ : Ro) (M : Mu) (R2 : List DV → (Mu → Prop) → Mu → Prop) : Prop :=
  ∀ G σ H R, Same Z.G G → Rep Z.W G M Z.F H → EnvOk Z.W G ρ σ → (∀ items Kp J G' M' H', Same G G' → Rep Z.W G' M' Z.F H' → ItOkM Z.W G' Kp J items → R2 items Kp M' → R J H') → wi σ H R
def LoopM (Z : Zn) (g : TG) (tb : TS) (D2 : Ends2) (Kp : Mu → Prop) : List DV → Ro → Mu → Prop
  | [], ρ, M => Kp M ∧ D2.nx ρ M
  | d :: ds, ρ, M => Kp M ∧ WG Z g d ρ M fun ρ1 M1 => WS Z tb { D2 with nx := LoopM Z g tb D2 Kp ds, ct := LoopM Z g tb D2 Kp ds, bk := D2.nx } ρ1 M1
def CompM (Z : Zn) (g : TG) (tt : TT) (te : TE) (ρ : Ro) (k : List DV → Mu → Prop) (Kp : Mu → Prop) : List DV → List DV → Mu → Prop
  | [], acc, M => Kp M ∧ k acc M
  | d :: ds, acc, M => Kp M ∧ acc.length < sizeLine ∧ ∀ F, WG (Z.fr F) g d ρ M fun ρ2 M2 => WT (Z.fr F) tt ρ2 M2 fun b M3 =>
      if b = true then WE (Z.fr F) te ρ2 M3 fun y M4 => CompM Z g tt te ρ k Kp ds (acc ++ [y]) M4 else CompM Z g tt te ρ k Kp ds acc M3
section
variable {W : Wd} {Z : Zn} {G G' F : Hp} {ρ : Ro} {σ : L2.St} {M : Mu} {H : Hp} {te ta tb tc : TE} {tt tu : TT} {ts tr : TS} {tx : TA} {Q2 Q2' : DQ} {D2 : Ends2} {d e x y : DV} {ds es : List DV} {v : V} {wi : TI} {g : TG} {Kp : Mu → Prop}
theorem LstOf.at (R : Rep W G M F H) {a : Addr} {xs0 : List V} {G0 : Hp} (s : Same G0 G) (h0 : Dat W G0 d (.ref a)) (l : LstOf M d ds) : ∃ xs, H a = some (.lst xs) ∧ DatL W G ds xs := by
  obtain ⟨b, xs, e1, e2, e3⟩ := lst_at R (h0.mono s) l
  cases e1
  exact ⟨xs, e2, e3⟩
theorem itl_okM {a : Addr} (h : Dat W G d (.ref a)) : ItOkM W G (fun M => LstOf M d ds) (Itl W.K a) ds where
  go := fun i G' F M H' s R l hi => by
    obtain ⟨xs, e2, e3⟩ := LstOf.at R (xs0 := []) s h l
    have hl := e3.length
    exact ⟨xs, xs[i], SqL.of e2, by simp [hl, hi]⟩
  stop := fun i G' F M H' s R l hi => by
    obtain ⟨xs, e2, e3⟩ := LstOf.at R (xs0 := []) s h l
    exact ⟨xs, SqL.of e2, by rw [e3.length]; exact hi⟩
  yld := fun i d' G' F M H' x H'' s R l e ⟨e1, y⟩ => by
    subst e1
    obtain ⟨xs, e2, e3⟩ := LstOf.at R (xs0 := []) s h l
    obtain ⟨z, h1, h2⟩ := e3.get e
    have q := y xs (SqL.of e2)
    rw [h1] at q
    cases q
    exact ⟨G', Same.refl G', R, h2⟩
theorem ite_okM {a : Addr} (h : Dat W G d (.ref a)) : ItOkM W G (fun M => LstOf M d ds) (Ite W.K a) (enumD ds) where
  go := fun i G' F M H' s R l hi => by
    obtain ⟨xs, e2, e3⟩ := LstOf.at R (xs0 := []) s h l
    have hl := e3.length
    have hi' : i < ds.length := by simpa [enumD] using hi
    exact ⟨xs, xs[i], SqL.of e2, by simp [hl, hi']⟩
  stop := fun i G' F M H' s R l hi => by
    obtain ⟨xs, e2, e3⟩ := LstOf.at R (xs0 := []) s h l
    have hi' : ds.length ≤ i := by simpa [enumD] using hi
    exact ⟨xs, SqL.of e2, by rw [e3.length]; exact hi'⟩
  yld := fun i d' G' F M H' x H'' s R l e ⟨T, z, e1, hT, e2, y⟩ => by
    subst e1 e2
    obtain ⟨d0, q, rfl⟩ := enumD_get e
    obtain ⟨xs, f2, f3⟩ := LstOf.at R (xs0 := []) s h l
    obtain ⟨z', h1, h2⟩ := f3.get q
    have q2 := y xs (SqL.of f2)
    rw [h1] at q2
    injection q2 with q2
    subst q2
    have sn := same_new (o := .tup [.int (i : Nat), z']) (R.gnone hT)
    exact ⟨_, sn, R.new hT, dat_tup.mpr ⟨T, _, rfl, SqT.of upd_same, datL_cons' dat_v' (datL_cons' (h2.mono sn) datL_nil')⟩⟩
def iListM (K : PySem.W.Frag) (te : TE) : TI := iList K te
def iEnumM (K : PySem.W.Frag) (tx : TA) : TI := iEnum K tx
theorem wim_list {R2 : List DV → (Mu → Prop) → Mu → Prop} (h : WE Z te ρ M fun d M1 => ∃ ds, LstOf M1 d ds ∧ R2 ds (fun M => LstOf M d ds) M1) : WIM Z (iListM Z.W.K te) ρ M R2 := fun G σ H R s Rp E r =>
  h G σ H _ s Rp E fun d v G1 M1 H1 s1 R1 x q => by
    obtain ⟨ds, l, q⟩ := q
    obtain ⟨a, xs, e1, e2, e3⟩ := lst_at R1 x l
    subst e1
    exact ⟨a, rfl, ⟨xs, SqL.of e2⟩, r ds _ _ G1 M1 H1 s1 R1 (itl_okM x) q⟩
theorem wim_enum {R2 : List DV → (Mu → Prop) → Mu → Prop} (h : WA Z tx ρ M fun ds M1 => ∃ d es, ds = [d] ∧ LstOf M1 d es ∧ R2 (enumD es) (fun M => LstOf M d es) M1) : WIM Z (iEnumM Z.W.K tx) ρ M R2 := fun G σ H R s Rp E r =>
  h G σ H _ s Rp E fun ds vs G1 M1 H1 s1 R1 x q => by
    obtain ⟨d, es, rfl, l, q⟩ := q
    obtain ⟨y, e1, h3⟩ := one_of x
    obtain ⟨a, xs, e2, e3, e4⟩ := lst_at R1 h3 l
    subst e1 e2
    exact ⟨a, xs, rfl, SqL.of e3, r _ _ _ G1 M1 H1 s1 R1 (ite_okM h3) q⟩
theorem ws_forM (h : WIM Z wi ρ M fun items Kp M1 => LoopM Z g ts D2 Kp items ρ M1) : WS Z (tFor wi g ts) D2 ρ M := fun G σ H D s R E e => by
  refine h G σ H _ s R E fun items Kp J G1 M1 H1 s1 R1 it q => ?_
  refine ⟨fun i m σ' H' => ∃ G' ρ' M', Same G1 G' ∧ Rep Z.W G' M' Z.F H' ∧ EnvOk Z.W G' ρ' σ' ∧ i ≤ items.length ∧ m = items.length - i ∧ LoopM Z g ts D2 Kp (items.drop i) ρ' M', ⟨items.length, G1, ρ, M1, Same.refl G1, R1, E.mono s1, Nat.zero_le _, rfl, q⟩, ?_⟩
  rintro i m σ' H' ⟨G', ρ', M', sg, R', E', hi, rfl, lp⟩
  by_cases hlt : i < items.length
  · rw [drop_cons hlt] at lp
    obtain ⟨kp, lp⟩ := lp
    refine .inr ⟨it.go i G' Z.F M' H' sg R' kp hlt, fun σ2 H2 => ∃ G2 ρ2 M2, Same G1 G2 ∧ Rep Z.W G2 M2 Z.F H2 ∧ EnvOk Z.W G2 ρ2 σ2 ∧ LoopM Z g ts D2 Kp (items.drop (i + 1)) ρ2 M2, ?_, fun x H2 y => ?_⟩
    · rintro σ2 H2 ⟨G2, ρ2, M2, a1, a2, a3, a4⟩
      exact ⟨items.length - (i + 1), by omega, G2, ρ2, M2, a1, a2, a3, hlt, rfl, a4⟩
    · obtain ⟨G2, s2, R2, dx⟩ := it.yld i _ G' Z.F M' H' x H2 sg R' kp (List.getElem?_eq_getElem hlt) y
      refine lp G2 σ' H2 x _ ((s.trans s1).trans (sg.trans s2)) R2 (E'.mono s2) dx fun ρ3 σ3 G3 M3 H3 s3 R3 E3 q3 => ?_
      have s13 : Same G1 G3 := (sg.trans s2).trans s3
      refine q3 G3 σ3 H3 _ ((s.trans s1).trans s13) R3 E3 ⟨fun ρ4 σ4 G4 M4 H4 s4 R4 E4 q4 => ⟨G4, ρ4, M4, s13.trans s4, R4, E4, q4⟩, e.rt.mono (s1.trans s13), e.nx.mono (s1.trans s13), fun ρ4 σ4 G4 M4 H4 s4 R4 E4 q4 => ⟨G4, ρ4, M4, s13.trans s4, R4, E4, q4⟩⟩
  · have ei : i = items.length := by omega
    subst ei
    rw [List.drop_length] at lp
    exact .inl ⟨it.stop _ G' Z.F M' H' sg R' lp.1 (Nat.le_refl _), e.nx ρ' σ' G' M' H' (s1.trans sg) R' E' lp.2⟩
theorem we_lcM {is : List Nat} (hg : GOk g is) (h : WIM Z wi ρ M fun items Kp M1 => CompM Z g tt te (wipe2 ρ is) (fun acc M2 => Q2 (.lst acc) M2) Kp items [] M1) : WE Z (tLc wi g tt te is) ρ M Q2 := fun G σ H Q s R E r => by
  refine h G σ H _ s R E fun items Kp J G1 M1 H1 s1 R1 it q => ?_
  intro D hD
  have fD : Z.F D = none := R1.fnone hD
  refine ⟨fun i m H' => ∃ G' M' acc accV, Same G1 G' ∧ Rep Z.W G' M' (upd Z.F D (.lst accV)) H' ∧ DatL Z.W G' acc accV ∧ i ≤ items.length ∧ m = items.length - i ∧ CompM Z g tt te (wipe2 ρ is) (fun acc M2 => Q2 (.lst acc) M2) Kp (items.drop i) acc M',
    ⟨items.length, G1, M1, [], [], Same.refl G1, R1.toFr hD, datL_nil', Nat.zero_le _, rfl, q⟩, ?_⟩
  rintro i m H' ⟨G', M', acc, accV, sg, R', hacc, hi, rfl, lp⟩
  by_cases hlt : i < items.length
  · rw [drop_cons hlt] at lp
    obtain ⟨kp, hz, lp⟩ := lp
    refine .inr ⟨it.go i G' _ M' H' sg R' kp hlt, fun H2 => ∃ G2 M2 acc2 acc2V, Same G1 G2 ∧ Rep Z.W G2 M2 (upd Z.F D (.lst acc2V)) H2 ∧ DatL Z.W G2 acc2 acc2V ∧ CompM Z g tt te (wipe2 ρ is) (fun acc M2 => Q2 (.lst acc) M2) Kp (items.drop (i + 1)) acc2 M2, ?_, fun x H2 y => ?_⟩
    · rintro H2 ⟨G2, M2, acc2, acc2V, a1, a2, a3, a4⟩
      exact ⟨items.length - (i + 1), by omega, G2, M2, acc2, acc2V, a1, a2, a3, hlt, rfl, a4⟩
    · obtain ⟨G2, s2, R2, dx⟩ := it.yld i _ G' _ M' H' x H2 sg R' kp (List.getElem?_eq_getElem hlt) y
      have E2 : EnvOk Z.W G2 (wipe2 ρ is) (L2.wipe σ is) := ((E.mono s1).mono (sg.trans s2)).wipe is
      refine hg x σ (L2.wipe σ is) H2 _ (wipe_idem σ is) ?_
      refine lp (upd Z.F D (.lst accV)) G2 (L2.wipe σ is) H2 x _ ((s.trans s1).trans (sg.trans s2)) R2 E2 dx fun ρ3 σ3 G3 M3 H3 s3 R3 E3 q3 => ?_
      have s13 : Same G1 G3 := (sg.trans s2).trans s3
      refine q3 G3 σ3 H3 _ ((s.trans s1).trans s13) R3 E3 fun b G4 M4 H4 s4 R4 q4 => ?_
      cases b with
      | false => exact ⟨G4, M4, acc, accV, s13.trans s4, R4, hacc.mono ((s2.trans s3).trans s4), q4⟩
      | true =>
        refine q4 G4 σ3 H4 _ ((s.trans s1).trans (s13.trans s4)) R4 (E3.mono s4) fun yd yv G5 M5 H5 s5 R5 dy q5 => ?_
        have s25 : Same G' G5 := ((s2.trans s3).trans s4).trans s5
        refine ⟨accV, R5.fr D _ upd_same, by rw [hacc.length]; exact hz, ?_⟩
        exact ⟨G5, M5, acc ++ [yd], accV ++ [yv], sg.trans s25, R5.frSet, (hacc.mono s25).append (datL_cons' dy datL_nil'), q5⟩
  · have ei : i = items.length := by omega
    subst ei
    rw [List.drop_length] at lp
    refine .inl ⟨it.stop _ G' _ M' H' sg R' lp.1 (Nat.le_refl _), ?_⟩
    have gD := (R'.fd D _ upd_same).1
    exact r _ _ (upd G' D (.lst accV)) M' H' ((s1.trans sg).trans (same_new gD)) (R'.ofFr fD) (dat_lst.mpr ⟨D, accV, rfl, upd_same, hacc.mono (same_new gD)⟩) lp.2
theorem loop_wordM (I : Nat → Ro → Mu → Prop) (hkp : ∀ j ρ M, I j ρ M → Kp M) : ∀ (items : List DV) (j : Nat) (ρ : Ro) (M : Mu), I j ρ M →
    (∀ i d ρ M, items[i]? = some d → I (j + i) ρ M → WG Z g d ρ M fun ρ1 M1 => WS Z ts { D2 with nx := I (j + i + 1), ct := I (j + i + 1), bk := D2.nx } ρ1 M1) →
    (∀ ρ M, I (j + items.length) ρ M → D2.nx ρ M) → LoopM Z g ts D2 Kp items ρ M
  | [], j, ρ, M, h0, hs, hk => ⟨hkp _ _ _ h0, hk ρ M h0⟩
  | d :: ds, j, ρ, M, h0, hs, hk => by
    refine ⟨hkp _ _ _ h0, (hs 0 d ρ M rfl h0).imp fun ρ1 M1 q => ?_⟩
    have key : ∀ ρ M, I (j + 1) ρ M → LoopM Z g ts D2 Kp ds ρ M := fun ρ' M' h => loop_wordM I hkp ds (j + 1) ρ' M' h (fun i d' ρ2 M2 hi hI => by
      have := hs (i + 1) d' ρ2 M2 hi (by rw [show j + (i + 1) = j + 1 + i by omega]; exact hI)
      rw [show j + (i + 1) = j + 1 + i by omega] at this
      exact this) fun ρ2 M2 hI => hk ρ2 M2 (by rw [List.length_cons, show j + (ds.length + 1) = j + 1 + ds.length by omega]; exact hI)
    exact q.imp key (fun _ _ h => h) (fun _ _ h => h) key
end
end DL
set_option Elab.async false
set_option linter.all false
set_option maxRecDepth 100000
set_option maxHeartbeats 2000000
namespace DL
open PySem PySem.Spec PyProof.Rows L2
theorem k_enumM {X : Cx} {K : PySem.W.Frag} {e : Expr} {ta : TA} {p pos tpos : Pos} {elts : List Expr} {kk : Nat} (eK : X.K = K) (hg : Gl X "enumerate") (hm : X.mg "enumerate" = none) (ha : PA X [e] ta) (hs : starEach [e] X.env = [(false, eval e X.env)] := by rfl) :
    PI X (.Tuple elts kk tpos) (.Call (.Name "enumerate" p) [e] [] pos) (iEnumM K ta) := k_enum eK hg hm ha hs
section
variable {K : PySem.W.Frag} {Z : Zn} {ρ : Ro} {M : Mu} {Q2 : DQ} {d e : DV} {ds es : List DV} {te : TE} {tx : TA} {ts : TS} {tt : TT} {g : TG} {D2 : Ends2}
theorem fld_of {P : DV → Prop} {C : Addr} {ns : List Str} {f : Str} (h1 : ObjOf M d C ns ds) (h2 : Cls K C) (h3 : NoAttr K C f) (h4 : (ns.zip ds).lookup f = some e) (q : P e) : ∃ C ns ds e, ObjOf M d C ns ds ∧ Cls K C ∧ NoAttr K C f ∧ (ns.zip ds).lookup f = some e ∧ P e := ⟨C, ns, ds, e, h1, h2, h3, h4, q⟩
theorem sfld_of {P : Mu → Prop} {a C : Addr} {ns : List Str} {f : Str} (h1 : M a = some (.ins C ns ds)) (h2 : Cls K C) (h3 : NoAttr K C f) (h4 : Nat.ble ns.length 100 = true) (q : P (updM M a (.ins C (putN f ns) (putD f e ns ds)))) :
    ∃ a' C ns ds, DV.r a = .r a' ∧ M a' = some (.ins C ns ds) ∧ Cls K C ∧ NoAttr K C f ∧ ns.length < 1000 ∧ P (updM M a' (.ins C (putN f ns) (putD f e ns ds))) := ⟨a, C, ns, ds, rfl, h1, h2, h3, by have := Nat.le_of_ble_eq_true h4; omega, q⟩
theorem ws_forML (h : WE Z te ρ M fun d M1 => ∃ ds, LstOf M1 d ds ∧ LoopM Z g ts D2 (fun M => LstOf M d ds) ds ρ M1) : WS Z (tFor (iListM Z.W.K te) g ts) D2 ρ M := ws_forM (wim_list h)
theorem ws_forME (h : WA Z tx ρ M fun ds M1 => ∃ d es, ds = [d] ∧ LstOf M1 d es ∧ LoopM Z g ts D2 (fun M => LstOf M d es) (enumD es) ρ M1) : WS Z (tFor (iEnumM Z.W.K tx) g ts) D2 ρ M := ws_forM (wim_enum h)
theorem we_lcML {tf : TE} {is : List Nat} (hg : GOk g is) (h : WE Z te ρ M fun d M1 => ∃ ds, LstOf M1 d ds ∧ CompM Z g tt tf (wipe2 ρ is) (fun acc M2 => Q2 (.lst acc) M2) (fun M => LstOf M d ds) ds [] M1) : WE Z (tLc (iListM Z.W.K te) g tt tf is) ρ M Q2 := we_lcM hg (wim_list h)
theorem compM_nrm {tf : TE} {is : List Nat} {k : List DV → Mu → Prop} {Kp : Mu → Prop} {items acc : List DV} {y : Option DV} {l : Ro} (h : wipe2 ρ is = y :: l) (q : CompM Z g tt tf (y :: l) k Kp items acc M) : CompM Z g tt tf (wipe2 ρ is) k Kp items acc M := h ▸ q
end
def lstM (M : Mu) : DV → Option (List DV)
  | .lst ds => some ds
  | .v (.ref a) => match M a with
    | some (.lst ds) => some ds
    | _ => none
  | _ => none
theorem lstM_of {M : Mu} {d : DV} {ds : List DV} : lstM M d = some ds ↔ LstOf M d ds := by
  constructor
  · intro h
    unfold lstM at h
    split at h
    · cases h; exact .inl rfl
    · split at h
      · cases h; exact .inr ⟨_, rfl, by assumption⟩
      · cases h
    · cases h
  · rintro (rfl | ⟨a, rfl, h⟩)
    · rfl
    · simp [lstM, h]
/-- a thing whose kind is known; texts and tuples not too large -/
def Kn (M : Mu) (d : DV) : Prop := (∃ k, kdM M d = some k) ∧ (∀ z, d = .s z → z.length ≤ 1000)
theorem Kn.i {M : Mu} {i : Int} : Kn M (.i i) := ⟨⟨.int, rfl⟩, fun z h => by cases h⟩
theorem Kn.n {M : Mu} : Kn M .n := ⟨⟨.none, rfl⟩, fun z h => by cases h⟩
theorem Kn.b {M : Mu} {b : Bool} : Kn M (.b b) := ⟨⟨.bool, rfl⟩, fun z h => by cases h⟩
theorem Kn.tup {M : Mu} {ds : List DV} : Kn M (.tup ds) := ⟨⟨.tuple, rfl⟩, fun z h => by cases h⟩
theorem Kn.lst {M : Mu} {ds : List DV} : Kn M (.lst ds) := ⟨⟨.list, rfl⟩, fun z h => by cases h⟩
theorem Kn.s {M : Mu} {z : Str} (h : z.length ≤ 1000) : Kn M (.s z) := ⟨⟨.str, rfl⟩, fun z' e => by cases e; exact h⟩
theorem Kn.dk {M : Mu} {ks : List Key} {ds : List DV} : Kn M (.dk ks ds) := ⟨⟨.dict, rfl⟩, fun z h => by cases h⟩
theorem Kn.r {M : Mu} {a : Addr} {ds : List DV} (h : M a = some (.lst ds)) : Kn M (.r a) := ⟨⟨.list, kd_r h⟩, fun z h => by cases h⟩
def isIntD : DV → Bool
  | .v (.int _) => true
  | _ => false
def isNameD : DV → Bool
  | .v (.str z) => nameB z
  | _ => false
def isRowD (d : DV) (m : Int) : Bool := match d with
  | .tup es => decide (((es.length : Nat) : Int) = m) && es.all isIntD
  | _ => false
def strsD : List DV → List Str
  | [] => []
  | .v (.str z) :: ds => z :: strsD ds
  | _ :: ds => strsD ds
def intsD : List DV → List Int
  | [] => []
  | .v (.int z) :: ds => z :: intsD ds
  | _ :: ds => intsD ds
theorem strsD_map : ∀ zs : List Str, strsD (zs.map DV.s) = zs
  | [] => rfl
  | z :: zs => by simp [strsD, strsD_map zs]
theorem intsD_map : ∀ zs : List Int, intsD (zs.map DV.i) = zs
  | [] => rfl
  | z :: zs => by simp [intsD, intsD_map zs]
theorem isNameD_s {d : DV} (h : isNameD d = true) : ∃ z, d = .s z ∧ nameB z = true := by
  unfold isNameD at h
  split at h
  · exact ⟨_, rfl, h⟩
  · cases h
theorem isIntD_i {d : DV} (h : isIntD d = true) : ∃ i, d = .i i := by
  unfold isIntD at h
  split at h
  · exact ⟨_, rfl⟩
  · cases h
theorem ints_map : ∀ {ds : List DV}, ds.all isIntD = true → ds = (intsD ds).map DV.i
  | [], _ => rfl
  | d :: ds, h => by
    simp only [List.all_cons, Bool.and_eq_true] at h
    obtain ⟨z, rfl⟩ := isIntD_i h.1
    rw [intsD, List.map_cons, ← ints_map h.2]
theorem isRowD_of {d : DV} {m : Int} (h : isRowD d m = true) : ∃ r : List Int, d = rowD r ∧ ((r.length : Nat) : Int) = m := by
  unfold isRowD at h
  split at h
  · rename_i es
    simp only [Bool.and_eq_true, decide_eq_true_eq] at h
    refine ⟨intsD es, by rw [rowD, ← ints_map h.2], ?_⟩
    rw [← h.1]
    conv => rhs; rw [ints_map h.2]
    rw [List.length_map]
  · cases h
theorem isRowD_row {r : List Int} : isRowD (rowD r) ((r.length : Nat) : Int) = true := by
  have : (r.map DV.i).all isIntD = true := by simp [isIntD]
  simp [isRowD, this]
theorem name_len {z : Str} (h : nameB z = true) : z.length ≤ 8 := by
  unfold nameB at h
  simp only [Bool.and_eq_true, decide_eq_true_eq] at h
  omega
def rowsD : List DV → List (List Int)
  | [] => []
  | .tup es :: ds => intsD es :: rowsD ds
  | _ :: ds => rowsD ds
end DL
set_option Elab.async false
set_option linter.all false
set_option maxRecDepth 100000
set_option maxHeartbeats 2000000
namespace DL
open PySem PySem.Spec PyProof.Rows L2
theorem k_sfld {X : Cx} {K : PySem.W.Frag} {o value : Expr} {ta tv : TE} {f : Str} {pos pos' : Pos} (eK : X.K = K) (ha : PE X o ta) (hv : PE X value tv) (hs : swapsWith value (some (.Attribute o f pos')) pos.line X.env = pure false) : PS X (.Assign [.Attribute o f pos'] value pos) (sFld K ta tv f) := by subst eK; exact ps_fld ha hv hs
section
variable {Z : Zn} {ρ : Ro} {M : Mu} {ts : TS} {D2 : Ends2} {d : DV} {ds : List DV} {g : TG} {Kp : Mu → Prop}
/-- .. over a frozen list -/
theorem loop_KF {tr : TS} (is : List Nat) (I : Nat → Prop) {items : List DV} (h0 : I 0)
    (hs : ∀ (i : Nat) d, items[i]? = some d → I i → WG Z g d (wipe2 ρ is) M fun ρ1 M1 => WS Z ts { nx := fun ρ2 M2 => wipe2 ρ2 is = wipe2 ρ is ∧ M2 = M ∧ I (i + 1), rt := D2.rt, bk := fun ρ2 M2 => WS Z tr D2 ρ2 M2, ct := fun ρ2 M2 => wipe2 ρ2 is = wipe2 ρ is ∧ M2 = M ∧ I (i + 1) } ρ1 M1)
    (hk : I items.length → WS Z tr D2 (wipe2 ρ is) M) : Loop Z g ts { nx := fun ρ' M' => WS Z tr D2 ρ' M', rt := D2.rt, bk := D2.bk, ct := D2.ct } items ρ M := by
  refine loop_word (fun j ρ2 M2 => wipe2 ρ2 is = wipe2 ρ is ∧ M2 = M ∧ I j) items 0 ρ M ⟨rfl, rfl, h0⟩ (fun i d ρ2 M2 hi h => ?_) fun ρ2 M2 h => ?_
  · rw [Nat.zero_add] at h ⊢
    obtain ⟨h1, rfl, h2⟩ := h
    refine wg_env is ?_
    rw [h1]
    exact hs i d hi h2
  · rw [Nat.zero_add] at h
    obtain ⟨h1, rfl, h2⟩ := h
    refine ws_env is ?_
    rw [h1]
    exact hk h2
theorem ws_cut (I : Ro → Mu → Prop) (h1 : WS Z ts { D2 with nx := I } ρ M) (h2 : ∀ ρ' M', I ρ' M' → D2.nx ρ' M') : WS Z ts D2 ρ M := h1.imp h2 (fun _ _ h => h) (fun _ _ h => h) (fun _ _ h => h)
theorem we_callX {sp2 : Sp2} {E : XK} {E2 : XK2} {tx : TA} {Q2 : DQ} (hx : XcOk Z E2 E) (h : WA Z tx ρ M fun ds M1 => Ask (sp2 ds M1 Q2 E2)) : WE Z (tCall (lift Z.W sp2) [] E tx) ρ M Q2 := we_call0 hx h
theorem we_callXD {sp2 : Sp2} {E : XK} {E2 : XK2} {dvs : List V} {tx : TA} {Q2 : DQ} (hx : XcOk Z E2 E) (h : WA Z tx ρ M fun ds M1 => Ask (sp2 (ds ++ dvs.map DV.v) M1 Q2 E2)) : WE Z (tCall (lift Z.W sp2) dvs E tx) ρ M Q2 := we_call hx h
theorem we_methX {sp2 : Sp2} {E : XK} {E2 : XK2} {C : Addr} {m : Str} {ta : TE} {tx : TA} {Q2 : DQ} (hx : XcOk Z E2 E) (h : WE Z ta ρ M fun d M1 => Obj M1 d C m ∧ WA Z tx ρ M1 fun es M2 => Ask (sp2 (d :: es) M2 Q2 E2)) : WE Z (tMeth C m (lift Z.W sp2) [] E ta tx) ρ M Q2 := we_meth0 hx h
theorem we_methXD {sp2 : Sp2} {E : XK} {E2 : XK2} {C : Addr} {m : Str} {dvs : List V} {ta : TE} {tx : TA} {Q2 : DQ} (hx : XcOk Z E2 E) (h : WE Z ta ρ M fun d M1 => Obj M1 d C m ∧ WA Z tx ρ M1 fun es M2 => Ask (sp2 (d :: (es ++ dvs.map DV.v)) M2 Q2 E2)) : WE Z (tMeth C m (lift Z.W sp2) dvs E ta tx) ρ M Q2 := we_meth hx h
theorem we_callY {sp2 : Sp2} {W2 : WX2} {Wx : WX} {tx : TA} {Q2 : DQ} (hw : WxOk Z W2 Wx) (h : WA Z tx ρ M fun ds M1 => Ask (sp2 ds M1 Q2 (fun C ns es M' => W2 C ns es ρ M'))) : WE Z (tCallS (lift Z.W sp2) (L2.WE Wx) tx) ρ M Q2 := we_callS hw h
theorem XcOk.weak {E2 : XK2} {E : XK} (hx : XcOk Z E2 E) : XcOk Z (fun C ns ds M => ∃ M', MLe M M' ∧ E2 C ns ds M') E := fun C ns ds d G' M' H' s R x ⟨M2, l, q⟩ => hx C ns ds d G' M2 H' s (R.weak l) x q
theorem MLe.dropN {x : Addr} {o : MO} (h : M x = none) : MLe (updM M x o) M := fun b => by
  by_cases e : b = x
  · subst e; rw [h]; exact .drop
  · rw [updM_ne e]; exact .rf
theorem LstOf.updN {x : Addr} {o' : MO} (h : M x = none) (l : LstOf M d ds) : LstOf (updM M x o') d ds := by
  rcases l with rfl | ⟨a, rfl, hm⟩
  · exact .inl rfl
  · refine .inr ⟨a, rfl, ?_⟩
    rw [updM_ne (fun e => by rw [e, h] at hm; cases hm)]
    exact hm
end
theorem lstM_new {M : Mu} {x : Addr} {o : MO} (h : M x = none) (ho : ∀ ds, o ≠ .lst ds) (d : DV) : lstM (updM M x o) d = lstM M d := by
  cases e : lstM M d with
  | some ds => exact lstM_of.mpr ((lstM_of.mp e).updN h)
  | none =>
    cases e2 : lstM (updM M x o) d with
    | none => rfl
    | some ds =>
      rcases lstM_of.mp e2 with rfl | ⟨a, rfl, hm⟩
      · cases e
      · by_cases q : a = x
        · subst q
          rw [updM_same] at hm
          cases hm
          exact absurd rfl (ho _)
        · rw [updM_ne q] at hm
          have := lstM_of.mpr (show LstOf M (.r a) ds from .inr ⟨a, rfl, hm⟩)
          rw [this] at e
          cases e
theorem Kn.new {M : Mu} {x : Addr} {o : MO} (h : M x = none) {d : DV} (k : Kn M d) : Kn (updM M x o) d := by
  obtain ⟨⟨k, hk⟩, hz⟩ := k
  refine ⟨⟨k, ?_⟩, hz⟩
  rw [← hk]
  cases d with
  | v y =>
    cases y with
    | ref a =>
      by_cases e : a = x
      · subst e
        simp [kdM, h] at hk
      · simp only [kdM, updM_ne e]
    | _ => rfl
  | _ => rfl
end DL
set_option Elab.async false
set_option linter.all false
set_option maxRecDepth 100000
set_option maxHeartbeats 2000000
namespace DL
open PySem PySem.Spec PyProof.Rows L2
section
variable {Z : Zn} {ρ : Ro} {M : Mu} {g : TG} {tt : TT} {te : TE} {Q2 : DQ} {d : DV} {Kp : Mu → Prop} {k : List DV → Mu → Prop}
theorem comp_mapT {α : Type} (e f : α → DV) : ∀ (xs : List α) (acc : List DV), acc.length + xs.length ≤ sizeLine →
    (∀ x ∈ xs, ∀ F k2, k2 (f x) M → WG (Z.fr F) g (e x) ρ M fun ρ2 M2 => WT (Z.fr F) tt ρ2 M2 fun b M3 => b = true ∧ WE (Z.fr F) te ρ2 M3 k2) → k (acc ++ xs.map f) M → Comp Z g tt te ρ k (xs.map e) acc M
  | [], acc, hz, h, q => by
    show k acc M
    simpa using q
  | x :: xs, acc, hz, h, q => by
    simp only [List.length_cons] at hz
    refine ⟨by omega, fun F => ?_⟩
    have := h x List.mem_cons_self F (fun y M4 => Comp Z g tt te ρ k (xs.map e) (acc ++ [y]) M4) (comp_mapT e f xs (acc ++ [f x]) (by simp; omega) (fun d' hd => h d' (List.mem_cons_of_mem _ hd)) (by simpa using q))
    intro G σ H v P s R E x n
    refine this G σ H v P s R E x fun ρ1 σ1 G1 M1 H1 s1 R1 E1 q1 => n ρ1 σ1 G1 M1 H1 s1 R1 E1 ?_
    exact q1.imp fun b M' ⟨hb, q⟩ => by rw [if_pos hb]; exact q
/-- with a test: p, a truth of the item -/
theorem comp_filT {α : Type} (e f : α → DV) (p : α → Bool) : ∀ (xs : List α) (acc : List DV), acc.length + xs.length ≤ sizeLine →
    (∀ x ∈ xs, ∀ F k2, (p x = true → k2 (f x) M) → WG (Z.fr F) g (e x) ρ M fun ρ2 M2 => WT (Z.fr F) tt ρ2 M2 fun b M3 => b = p x ∧ M3 = M ∧ (p x = true → WE (Z.fr F) te ρ2 M k2)) → k (acc ++ (xs.filter p).map f) M → Comp Z g tt te ρ k (xs.map e) acc M
  | [], acc, hz, h, q => by
    show k acc M
    simpa using q
  | x :: xs, acc, hz, h, q => by
    simp only [List.length_cons] at hz
    refine ⟨by omega, fun F => ?_⟩
    have := h x List.mem_cons_self F (fun y M4 => Comp Z g tt te ρ k (xs.map e) (acc ++ [y]) M4) (fun hp => comp_filT e f p xs (acc ++ [f x]) (by simp; omega) (fun d' hd => h d' (List.mem_cons_of_mem _ hd)) (by simpa [List.filter_cons, hp] using q))
    intro G σ H v P s R E y n
    refine this G σ H v P s R E y fun ρ1 σ1 G1 M1 H1 s1 R1 E1 q1 => n ρ1 σ1 G1 M1 H1 s1 R1 E1 ?_
    refine q1.imp fun b M' ⟨hb, hM, q2⟩ => ?_
    rw [hM]
    cases hp : p x with
    | true => rw [hb, hp]; exact q2 hp
    | false =>
      rw [hb, hp]
      exact comp_filT e f p xs acc (by omega) (fun d' hd => h d' (List.mem_cons_of_mem _ hd)) (by simpa [List.filter_cons, hp] using q)
theorem strs_vs (zs : List Str) : zs.map DV.s = (zs.map V.str).map DV.v := by simp [Function.comp_def]
theorem flat_strs (zs : List Str) : (zs.map V.str).all flatV = true := by simp [flatV]
theorem eqV_str (x y : Str) : eqV (.str x) (.str y) = decide (x = y) := by
  show (x == y) = decide (x = y)
  by_cases h : x = y
  · subst h; simp
  · rw [decide_eq_false h]; simpa using h
theorem inV_str {z : Str} {zs : List Str} : inV (.str z) (zs.map V.str) = decide (z ∈ zs) := by
  unfold inV
  induction zs with
  | nil => rfl
  | cons x xs ih =>
    rw [List.map_cons, List.any_cons, ih, eqV_str]
    by_cases h : x = z
    · subst h; simp
    · have h' : z ≠ x := fun e => h e.symm
      simp [h, h']
theorem wr_inS {z : Str} {zs : List Str} (l : LstOf M d (zs.map DV.s)) (h : Q2 (.b (decide (z ∈ zs))) M) : WR Z (rInA Z.W.K) (.s z) d M Q2 :=
  wr_inF (p := .str z) (xs := zs.map V.str) (.inl (by rw [← strs_vs]; exact l)) rfl (flat_strs zs) (by rw [inV_str]; exact h)
theorem wr_niS {z : Str} {zs : List Str} (l : LstOf M d (zs.map DV.s)) (h : Q2 (.b (!decide (z ∈ zs))) M) : WR Z (rNiA Z.W.K) (.s z) d M Q2 :=
  wr_niF (p := .str z) (xs := zs.map V.str) (.inl (by rw [← strs_vs]; exact l)) rfl (flat_strs zs) (by rw [inV_str]; exact h)
theorem wr_inSL {z : Str} {zs : List Str} (h : Q2 (.b (decide (z ∈ zs))) M) : WR Z (rInA Z.W.K) (.s z) (.lst (zs.map DV.s)) M Q2 := wr_inS (.inl rfl) h
theorem wr_niSL {z : Str} {zs : List Str} (h : Q2 (.b (!decide (z ∈ zs))) M) : WR Z (rNiA Z.W.K) (.s z) (.lst (zs.map DV.s)) M Q2 := wr_niS (.inl rfl) h
/-- the place of a name -/
def posS (z : Str) : List Str → Nat
  | [] => 0
  | x :: xs => if x = z then 0 else posS z xs + 1
theorem posS_get {z : Str} : ∀ {zs : List Str}, z ∈ zs → zs[posS z zs]? = some z
  | [], h => by simp at h
  | x :: xs, h => by
    unfold posS
    by_cases e : x = z
    · rw [if_pos e]; simp [e]
    · rw [if_neg e]
      have : z ∈ xs := by
        rcases List.mem_cons.mp h with h | h
        · exact absurd h.symm e
        · exact h
      simpa using posS_get this
theorem posS_lt {z : Str} {zs : List Str} (h : z ∈ zs) : posS z zs < zs.length := (List.getElem?_eq_some_iff.mp (posS_get h)).1
theorem posS_eq {z : Str} {zs : List Str} {j : Nat} (hn : zs.Nodup) (h : zs[j]? = some z) : posS z zs = j := by
  have hz := List.mem_of_getElem? h
  exact (List.getElem?_inj (posS_lt hz) hn).mp ((posS_get hz).trans h.symm)
end
end DL
set_option Elab.async false
set_option linter.all false
set_option maxRecDepth 100000
set_option maxHeartbeats 2000000
namespace DL
open PySem PySem.Spec PyProof.Rows L2
section
variable {X : Cx} {CX : CXT} {k : Nat} {f C : Addr} {fd : FuncData} {ps : List Str} {sp : Sp} {dvs : List V} {vls : List Value} {EE : L2.St → XK} {x m : Str} {p pos apos : Pos} {e o : Expr} {es : List Expr} {ta : TE} {t : TA}
def tMethY (C : Addr) (m : Str) (sp : Sp) (dvs : List V) (EE : L2.St → XK) (ta : TE) (t : TA) : TE := fun σ H Q => ta σ H fun y H1 => ∃ b dx fs, y = .ref b ∧ H1 b = some (.ins C dx fs) ∧ fs.lookup m = none ∧ t σ H1 fun vs H2 => sp (.ref b :: (vs ++ dvs)) H2 Q (EE σ)
theorem pe_methY {pl : Sem Bool} (he : PE X o ta) (c : Cls X.K C) (hm : Meth X.K C m f) (F : FnOk X.prog X.w X.K X.mg X.base CX k f fd ps sp) (hr : Room k X.A) (hb : Binds X.K fd ps vls) (hd : Vals dvs vls) (hx : ∀ σ, PassesAt CX X σ (EE σ)) (ha : PA X (e :: es) t)
    (h1 : starEach (e :: es) X.env = (false, eval e X.env) :: starEach es X.env := by rfl) (h2 : (backTo pos (starEach es X.env)).any (·.1) = false := by rfl)
    (ht : eval (.Call (.Attribute o m apos) (e :: es) [] pos) X.env = (do let ov ← eval o X.env; standAt apos.atName; let (f, first) ← holding [ov] (getMethod ov m pl); callWith pos f first (backTo pos (starEach (e :: es) X.env)) (backToKw pos (keywordEach [] X.env))) := by rfl) :
    PE X (.Call (.Attribute o m apos) (e :: es) [] pos) (tMethY C m sp dvs EE ta t) := ⟨fun pins s σ H Q I h => by
  refine PySem.W.methodCall_KW (pl := pl) (thn (he.run pins s σ H _ I h) fun u s1 ⟨y, H1, I1, ry, b, dx, fs, ey, eb, l, q⟩ => ?_) ht
  subst ey
  obtain rfl : u = Value.ref b := ry
  refine getmeth_ok I1 eb c hm l (PySem.W.callWith_K (first := [.ref b]) (h₀ := X.base) I.ok.mod.kin hm.kp (thn (ha.run pos pins s1 σ H1 _ I1 q) fun us s2 ⟨vs, H2, I2, r, q2⟩ => ⟨I2.kIn, ?_⟩) h1 h2)
  exact run_fnSD (us := .ref b :: us) (vs := .ref b :: vs) F hr hb hd (hx σ) I2 (.cons rfl r) q2⟩
end
section
variable {Z : Zn} {ρ : Ro} {M : Mu} {tx : TA} {ta : TE} {Q2 : DQ} {sp2 : Sp2} {dvs : List V} {W2 : WX2} {Wx : WX}
theorem we_methY {C : Addr} {m : Str} (hw : WxOk Z W2 Wx) (h : WE Z ta ρ M fun d M1 => Obj M1 d C m ∧ WA Z tx ρ M1 fun es M2 => Ask (sp2 (d :: (es ++ dvs.map DV.v)) M2 Q2 (fun C ns es M' => W2 C ns es ρ M'))) :
    WE Z (tMethY C m (lift Z.W sp2) dvs (L2.WE Wx) ta tx) ρ M Q2 := fun G σ H Q s R E r =>
  h G σ H _ s R E fun d v G1 M1 H1 s1 R1 x ⟨⟨ns, ds, o, k⟩, q⟩ => by
    obtain ⟨b, dx, xs, e1, e2, e3, e4⟩ := obj_at R1 x o
    subst e1
    refine ⟨b, dx, _, rfl, e2, zip_none e4 k, q G1 σ H1 _ (s.trans s1) R1 (E.mono s1) fun es vs G2 M2 H2 s2 R2 xs q2 => ?_⟩
    refine ⟨G2, Z.F, _, M2, Q2, _, R2, datL_cons' (x.mono s2) (xs.append (datL_v dvs)), q2, r.mono (s1.trans s2), fun C ns es d' G' M' H' s' R' x' q' => ?_⟩
    exact hw C ns es d' ρ σ G' M' H' (((s.trans s1).trans s2).trans s') R' (E.mono ((s1.trans s2).trans s')) x' q'
theorem we_methY0 {C : Addr} {m : Str} (hw : WxOk Z W2 Wx) (h : WE Z ta ρ M fun d M1 => Obj M1 d C m ∧ WA Z tx ρ M1 fun es M2 => Ask (sp2 (d :: es) M2 Q2 (fun C ns es M' => W2 C ns es ρ M'))) :
    WE Z (tMethY C m (lift Z.W sp2) [] (L2.WE Wx) ta tx) ρ M Q2 := we_methY hw (h.imp fun d M1 q => ⟨q.1, q.2.imp fun es M2 q => by rw [List.map_nil, List.append_nil]; exact q⟩)
end
end DL
set_option Elab.async false
set_option linter.all false
set_option maxRecDepth 100000
set_option maxHeartbeats 2000000
namespace DL
open PySem PySem.Spec PyProof.Rows L2
/-- a statement at which a walk stands still -/
def tStop (t : TS) : TS := t
theorem ps_stop {X : Cx} {s : Stmt} {t : TS} (h : PS X s t) : PS X s (tStop t) := h
theorem ws_stopC {Z : Zn} {ρ : Ro} {M : Mu} {t : TS} {D2 : Ends2} (I : Ro → Mu → Prop) (h1 : WS Z t { D2 with nx := I } ρ M) (h2 : ∀ ρ' M', I ρ' M' → D2.nx ρ' M') : WS Z (tStop t) D2 ρ M := ws_cut I h1 h2
theorem sIx_none0 {n : Nat} : HT.sIx n 0 none = 0 := rfl
theorem sIx_noneN {n : Nat} : HT.sIx n n none = n := rfl
theorem sIx_nat {n d k : Nat} : HT.sIx n d (some (k : Int)) = min k n := by
  unfold HT.sIx
  simp only
  split <;> omega
theorem sIx_neg {n d k : Nat} (h : 0 < k) : HT.sIx n d (some (-(k : Int))) = n - k := by
  unfold HT.sIx
  simp only
  split <;> omega
theorem cut_map {α β : Type} (f : α → β) (xs : List α) (lo hi : Option Int) : cutD (xs.map f) lo hi = (cutD xs lo hi).map f := by
  unfold cutD
  rw [List.length_map, ← List.map_drop, ← List.map_take]
theorem cut_toN {α : Type} (xs : List α) (k : Nat) : cutD xs none (some (k : Int)) = xs.take k := by
  unfold cutD
  rw [sIx_none0, sIx_nat, List.drop_zero, Nat.sub_zero]
  by_cases h : k ≤ xs.length
  · rw [Nat.min_eq_left h]
  · rw [Nat.min_eq_right (by omega), List.take_of_length_le (Nat.le_refl _), List.take_of_length_le (by omega)]
theorem cut_fromN {α : Type} (xs : List α) (k : Nat) : cutD xs (some (k : Int)) none = xs.drop k := by
  unfold cutD
  rw [sIx_nat, sIx_noneN]
  by_cases h : k ≤ xs.length
  · rw [Nat.min_eq_left h, List.take_of_length_le (by simp)]
  · rw [Nat.min_eq_right (by omega), List.drop_of_length_le (Nat.le_refl _), List.drop_of_length_le (by omega), List.take_nil]
theorem cut_midN {α : Type} (xs : List α) (j k : Nat) : cutD xs (some (j : Int)) (some (k : Int)) = (xs.take k).drop j := by
  unfold cutD
  rw [sIx_nat, sIx_nat]
  apply List.ext_getElem?
  intro i
  rw [List.getElem?_take, List.getElem?_drop, List.getElem?_drop, List.getElem?_take]
  by_cases h1 : i < min k xs.length - min j xs.length
  · rw [if_pos h1, if_pos (by omega), Nat.min_eq_left (by omega)]
  · rw [if_neg h1]
    split
    · rw [List.getElem?_eq_none (by omega)]
    · rfl
theorem cut_lastN {α : Type} (xs : List α) (k : Nat) (h : 0 < k) : cutD xs (some (-(k : Int))) none = xs.drop (xs.length - k) := by
  unfold cutD
  rw [sIx_neg h, sIx_noneN, List.take_of_length_le (by simp)]
section
variable {Z : Zn} {M : Mu} {Q2 : DQ} {α : Type} {f : α → DV} {xs ys : List α} {x y : α}
theorem wc_lenLM (h : Q2 (.i (xs.length : Nat)) M) : WC Z (orC (rLenQ Z.W.K) rLenT) [.lst (xs.map f)] M Q2 := wc_lenL (by rw [List.length_map]; exact h)
theorem wc_lenUM (h : Q2 (.i (xs.length : Nat)) M) : WC Z (orC (rLenQ Z.W.K) rLenT) [.tup (xs.map f)] M Q2 := wc_lenU (by rw [List.length_map]; exact h)
theorem wc_lenRM {q : Addr} (h : Q2 (.i (xs.length : Nat)) (updM M q (.lst (xs.map f)))) : WC Z (orC (rLenQ Z.W.K) rLenT) [.r q] (updM M q (.lst (xs.map f))) Q2 := wc_lenR (by rw [List.length_map]; exact h)
theorem wl_toN {k : Nat} (h : Q2 (.lst ((xs.take k).map f)) M) : WL Z (rSlA Z.W.K) (.lst (xs.map f)) none (some (k : Int)) M Q2 := wl_A (.inl rfl) (by rw [cut_map, cut_toN]; exact h)
theorem wl_toI {k : Int} (h0 : 0 ≤ k) (h : Q2 (.lst ((xs.take k.toNat).map f)) M) : WL Z (rSlA Z.W.K) (.lst (xs.map f)) none (some k) M Q2 := by
  obtain ⟨n, rfl⟩ := nat_of h0
  rw [Int.toNat_natCast] at h
  exact wl_toN h
theorem wl_fromN {k : Nat} (h : Q2 (.lst ((xs.drop k).map f)) M) : WL Z (rSlA Z.W.K) (.lst (xs.map f)) (some (k : Int)) none M Q2 := wl_A (.inl rfl) (by rw [cut_map, cut_fromN]; exact h)
theorem wl_fromI {k : Int} (h0 : 0 ≤ k) (h : Q2 (.lst ((xs.drop k.toNat).map f)) M) : WL Z (rSlA Z.W.K) (.lst (xs.map f)) (some k) none M Q2 := by
  obtain ⟨n, rfl⟩ := nat_of h0
  rw [Int.toNat_natCast] at h
  exact wl_fromN h
theorem wl_lastI {k : Int} (h0 : k < 0) (h : Q2 (.lst ((xs.drop (xs.length - (-k).toNat)).map f)) M) : WL Z (rSlA Z.W.K) (.lst (xs.map f)) (some k) none M Q2 := by
  obtain ⟨n, hn⟩ := nat_of (show 0 ≤ -k by omega)
  have e : k = -(n : Int) := by omega
  rw [hn, Int.toNat_natCast] at h
  rw [e]
  exact wl_A (.inl rfl) (by rw [cut_map, cut_lastN _ _ (by omega)]; exact h)
theorem wl_midI {j k : Int} (h0 : 0 ≤ j) (h1 : 0 ≤ k) (h : Q2 (.lst (((xs.take k.toNat).drop j.toNat).map f)) M) : WL Z (rSlA Z.W.K) (.lst (xs.map f)) (some j) (some k) M Q2 := by
  obtain ⟨n, rfl⟩ := nat_of h0
  obtain ⟨m, rfl⟩ := nat_of h1
  rw [Int.toNat_natCast, Int.toNat_natCast] at h
  exact wl_A (.inl rfl) (by rw [cut_map, cut_midN]; exact h)
theorem wr_addLM (hz : xs.length + ys.length ≤ 1000000) (h : Q2 (.lst ((xs ++ ys).map f)) M) : WR Z (rAddA Z.W.K) (.lst (xs.map f)) (.lst (ys.map f)) M Q2 := wr_addLn (by simpa using hz) (by rw [← List.map_append]; exact h)
theorem wr_addM1 (hz : xs.length + 1 ≤ 1000000) (h : Q2 (.lst ((xs ++ [x]).map f)) M) : WR Z (rAddA Z.W.K) (.lst (xs.map f)) (.lst [f x]) M Q2 := wr_addLn (by simpa using hz) (by rw [List.map_append] at h; exact h)
theorem wr_addM2 (hz : xs.length + 2 ≤ 1000000) (h : Q2 (.lst ((xs ++ [x, y]).map f)) M) : WR Z (rAddA Z.W.K) (.lst (xs.map f)) (.lst [f x, f y]) M Q2 := wr_addLn (by simpa using hz) (by rw [List.map_append] at h; exact h)
end
end DL
set_option Elab.async false
set_option linter.all false
set_option maxRecDepth 100000
set_option maxHeartbeats 2000000
namespace DL
open PySem PySem.Spec PyProof.Rows L2
section
variable {Z : Zn} {ρ : Ro} {M : Mu} {tk : TA} {ta : TE} {Q2 : DQ} {sp2 : Sp2} {E : XK} {E2 : XK2}
theorem wr_neRows {rows : List (List Int)} (h : Q2 (.b false) M) : WR Z (rNeA Z.W.K) (.lst (rows.map rowD)) (.lst (rows.map rowD)) M Q2 := wr_neLL (.inl rfl) (.inl rfl) goodL_rows (Nat.le_trans depL_rows (by decide)) h
theorem wr_eqRows {rows : List (List Int)} (h : Q2 (.b true) M) : WR Z (rEqA Z.W.K) (.lst (rows.map rowD)) (.lst (rows.map rowD)) M Q2 := wr_eqLL (.inl rfl) (.inl rfl) goodL_rows (Nat.le_trans depL_rows (by decide)) h
theorem wr_neStrs {zs : List Str} (hz : ∀ z ∈ zs, PyData.strOk z = true) (h : Q2 (.b false) M) : WR Z (rNeA Z.W.K) (.lst (zs.map DV.s)) (.lst (zs.map DV.s)) M Q2 := wr_neLL (.inl rfl) (.inl rfl) (goodL_strs hz) (by rw [depL_strs]; decide) h
theorem wr_eqStrs {zs : List Str} (hz : ∀ z ∈ zs, PyData.strOk z = true) (h : Q2 (.b true) M) : WR Z (rEqA Z.W.K) (.lst (zs.map DV.s)) (.lst (zs.map DV.s)) M Q2 := wr_eqLL (.inl rfl) (.inl rfl) (goodL_strs hz) (by rw [depL_strs]; decide) h
theorem wr_neStrR {q : Addr} {zs : List Str} (hz : ∀ z ∈ zs, PyData.strOk z = true) (h : Q2 (.b false) (updM M q (.lst (zs.map DV.s)))) : WR Z (rNeA Z.W.K) (.r q) (.lst (zs.map DV.s)) (updM M q (.lst (zs.map DV.s))) Q2 := wr_neLL ls_l1 (.inl rfl) (goodL_strs hz) (by rw [depL_strs]; decide) h
theorem ws_frzL {ts : TS} {D2 : Ends2} {ds : List DV} (i : Nat) {b : Addr} (hi : ρ[i]? = some (some (.r b))) (hm : M b = some (.lst ds)) (h : WS Z ts D2 (ρ.set i (some (.lst ds))) (delM M b)) : WS Z ts D2 ρ M := ws_frz i hi hm trivial h
end
end DL
set_option Elab.async false
set_option linter.all false
set_option maxRecDepth 100000
set_option maxHeartbeats 2000000
namespace DL
open PySem PySem.Spec PyProof.Rows L2
def lV : Leaf → V
  | .none => .non
  | .num i => .int i
  | .text z => .str z
theorem lV_is {P : Program} {w : World} {k : Leaf} {u : Value} (r : RelV (lV k) u) : (leafKind P w).is k u = true := by
  cases k with
  | none => cases (show u = Value.none from r); rfl
  | num i => obtain ⟨t, rfl⟩ := r; show (i == i) = true; simp
  | text z => obtain ⟨t, rfl⟩ := r; show (z == z) = true; simp
section
variable {X : Cx} {pins : List (Addr × PySem.Obj)} {σ : L2.St} {H : Hp} {s : Shared} {a : Addr} {kvs : List (Leaf × V)}
theorem lf_of {W : Wd} (hP : W.P = X.prog) (hw : W.w = X.w) (I : Inv X pins σ H s) (e : H a = some (leafO W a kvs)) : kvs.length ≤ sizeLine ∧ (a == sysModules) = false ∧ ∃ us, KV kvs us ∧ s.heap.DictOf (leafKind X.prog X.w) a us := by
  have h := (I.hok a _ e).1
  rw [hP, hw] at h
  exact h
theorem lf_new {W : Wd} (hP : W.P = X.prog) (hw : W.w = X.w) {H' : Hp} {h' : Heap} {us : List (Leaf × Value)} (z : kvs.length ≤ sizeLine) (hd : (a == sysModules) = false) (rel : KV kvs us) (dd : h'.DictOf (leafKind X.prog X.w) a us) :
    ObjOk X.prog X.w H' h' a (leafO W a kvs) := by
  refine ⟨?_, let ⟨q, _, _, hq, _⟩ := dd; ⟨q, hq⟩, fun h1 h2 ⟨g1, g2, vs, g3, g4⟩ k => ⟨g1, g2, vs, g3, g4.at k⟩⟩
  show kvs.length ≤ sizeLine ∧ (a == sysModules) = false ∧ ∃ us, KV kvs us ∧ h'.DictOf (leafKind W.P W.w) a us
  rw [hP, hw]
  exact ⟨z, hd, us, rel, dd⟩
end
def rIxF (W : Wd) : R2 := fun x y H Q => ∃ a kvs k v, x = .ref a ∧ H a = some (leafO W a kvs) ∧ y = lV k ∧ valV kvs k = some v ∧ Q v H
theorem ix_leaf {X : Cx} {W : Wd} (hP : W.P = X.prog) (hw : W.w = X.w) : IxR X (rIxF W) := by
  intro value slice pins s σ H x y v u Q I rx ry h hs
  obtain ⟨a, kvs, k, z, rfl, e, rfl, l, q⟩ := h
  cases rx
  obtain ⟨_, hd, us, rel, dd⟩ := lf_of hP hw I e
  obtain ⟨w', hw', rw'⟩ := RelO.some_of (v := z) (o := valueAt us k) (by rw [← l]; exact rel.val k)
  exact tail_any dd.typeIs PySem.F.slot_dict_getitem.lookup (wpAny_getItem_of (lV_is ry) dd.mapOf hw' ⟨z, H, I.tok _, rw', q⟩) hs
def rInF (W : Wd) (neg : Bool) : R2 := fun x y H Q => ∃ a kvs k, y = .ref a ∧ H a = some (leafO W a kvs) ∧ x = lV k ∧ Q (.bl (if neg then !(valV kvs k).isSome else (valV kvs k).isSome)) H
theorem op_in_leaf {X : Cx} {W : Wd} (hP : W.P = X.prog) (hw : W.w = X.w) : OpR X (compareOp .In) (rInF W false) := by
  intro pins s σ H x y v u Q I rx ry h
  obtain ⟨a, kvs, k, rfl, e, rfl, q⟩ := h
  cases ry
  obtain ⟨_, hd, us, rel, dd⟩ := lf_of hP hw I e
  refine wpAny_in_of (lV_is rx) hd dd.mapOf ?_
  rw [← (rel.val k).isSome_eq]
  exact ⟨.bl _, H, I.tok _, rfl, q⟩
theorem op_ni_leaf {X : Cx} {W : Wd} (hP : W.P = X.prog) (hw : W.w = X.w) : OpR X (compareOp .NotIn) (rInF W true) := by
  intro pins s σ H x y v u Q I rx ry h
  obtain ⟨a, kvs, k, rfl, e, rfl, q⟩ := h
  cases ry
  obtain ⟨_, hd, us, rel, dd⟩ := lf_of hP hw I e
  refine wpAny_notIn_of (lV_is rx) hd dd.mapOf ?_
  rw [← (rel.val k).isSome_eq]
  exact ⟨.bl _, H, I.tok _, rfl, q⟩
def rSetF (W : Wd) : TSet := fun o i v H Q => ∃ a kvs k, o = .ref a ∧ H a = some (leafO W a kvs) ∧ i = lV k ∧ kvs.length < sizeLine ∧ Q (upd H a (leafO W a (putK kvs k v)))
theorem set_leaf {X : Cx} {W : Wd} (hP : W.P = X.prog) (hw : W.w = X.w) : PSet X (rSetF W) := by
  intro pins s σ H o i v ov iv u Q I ro ri rv h
  obtain ⟨a, kvs, k, rfl, e, rfl, l, q⟩ := h
  cases ro
  obtain ⟨z, hd, us, rel, dd⟩ := lf_of hP hw I e
  have hz : us.length ≤ sizeLine := by rw [← rel.length]; exact z
  have hl : (putK kvs k v).length ≤ sizeLine := by have := length_putK kvs k v; omega
  refine wpAny_setItem_pairs (hsz := hz) (lV_is ri) dd fun h' dd' hs => ⟨_, ?_, q⟩
  have he : ∃ q, h'.get? a = some q := let ⟨q, _, _, hq, _⟩ := dd'; ⟨q, hq⟩
  exact d_write I (by rw [e]; exact True.intro) hs he (lf_new hP hw hl hd (rel.put k rv) dd')
/-- {}, to be such a dict -/
def tDNewF (W : Wd) : TE := fun _ H Q => ∀ p, H p = none → Q (.ref p) (upd H p (leafO W p []))
theorem pe_dnewF {X : Cx} {W : Wd} {pos : Pos} (hP : W.P = X.prog) (hw : W.w = X.w) : PE X (.Dict [] [] pos) (tDNewF W) := ⟨fun pins s σ H Q I h =>
  wpAny_Dict_empty ⟨.ref s.heap.objs.size, _, I.laid (a := s.heap.objs.size) (o := leafO W s.heap.objs.size []) (t' := s.toks) (fun _ _ q => Heap.get?_push_of_some _ q) (Nat.le_refl _)
    (lf_new hP hw (Nat.zero_le _) (beq_eq_false_iff_ne.mpr (Ne.symm (Nat.ne_of_lt I.big))) .nil (Heap.DictOf.new s.heap)), rfl, h _ (I.hok.fresh (Nat.le_refl _))⟩⟩
end DL
set_option Elab.async false
set_option linter.all false
set_option maxRecDepth 100000
set_option maxHeartbeats 2000000
namespace DL
open PySem PySem.Spec PyProof.Rows L2
abbrev KVs := List (Leaf × DV)
abbrev dlD (kvs : KVs) : DV := .dl (kvs.map (·.1)) (kvs.map (·.2))
abbrev dlM (kvs : KVs) : MO := .dl (kvs.map (·.1)) (kvs.map (·.2))
def lD : Leaf → DV
  | .none => .n
  | .num i => .i i
  | .text z => .s z
theorem lD_v (k : Leaf) : lD k = .v (lV k) := by cases k <;> rfl
/-- what stands at a key; put at a key -/
def valL (kvs : KVs) (k : Leaf) : Option DV := (kvs.find? fun kv => decide (kv.1 = k)).map (·.2)
def putL (kvs : KVs) (k : Leaf) (d : DV) : KVs := if (kvs.any fun kv => decide (kv.1 = k)) = true then kvs.map (fun kv => if kv.1 = k then (kv.1, d) else kv) else kvs ++ [(k, d)]
theorem valL_pos {p : Leaf × DV} {r : KVs} {k : Leaf} (e : p.1 = k) : valL (p :: r) k = some p.2 := by simp [valL, List.find?_cons, e]
theorem valL_neg {p : Leaf × DV} {r : KVs} {k : Leaf} (e : ¬ p.1 = k) : valL (p :: r) k = valL r k := by simp [valL, List.find?_cons, e]
theorem valL_any (k : Leaf) : ∀ kvs : KVs, (kvs.any fun kv => decide (kv.1 = k)) = (valL kvs k).isSome
  | [] => rfl
  | p :: r => by
    rw [List.any_cons, valL_any k r]
    by_cases e : p.1 = k
    · rw [valL_pos e]; simp [e]
    · rw [valL_neg e]; simp [e]
theorem putL_new {kvs : KVs} {k : Leaf} (d : DV) (h : valL kvs k = none) : putL kvs k d = kvs ++ [(k, d)] := by
  unfold putL
  rw [valL_any, h]
  rfl
section
variable {W : Wd} {G G' F : Hp}
inductive KD (W : Wd) (G : Hp) : KVs → List (Leaf × V) → Prop
  | nil : KD W G [] []
  | cons {k : Leaf} {d : DV} {v : V} {ps : KVs} {qs : List (Leaf × V)} (h : Dat W G d v) (t : KD W G ps qs) : KD W G ((k, d) :: ps) ((k, v) :: qs)
theorem KD.of : ∀ {kvs : KVs} {xs : List V}, DatL W G (kvs.map (·.2)) xs → KD W G kvs ((kvs.map (·.1)).zip xs)
  | [], xs, h => by rw [datL_nil.mp h]; exact .nil
  | (k, d) :: kvs, xs, h => by
    obtain ⟨y, r, rfl, h1, h2⟩ := datL_cons.mp h
    exact .cons h1 (KD.of h2)
theorem KD.back : ∀ {kvs : KVs} {qs : List (Leaf × V)}, KD W G kvs qs → ∃ xs, qs = (kvs.map (·.1)).zip xs ∧ DatL W G (kvs.map (·.2)) xs
  | _, _, .nil => ⟨[], rfl, datL_nil'⟩
  | _, _, .cons (v := v) h t => by
    obtain ⟨xs, e, q⟩ := KD.back t
    exact ⟨v :: xs, by rw [e]; rfl, datL_cons' h q⟩
theorem KD.length : ∀ {kvs : KVs} {qs : List (Leaf × V)}, KD W G kvs qs → qs.length = kvs.length
  | _, _, .nil => rfl
  | _, _, .cons h t => by rw [List.length_cons, List.length_cons, KD.length t]
theorem KD.val {k : Leaf} : ∀ {kvs : KVs} {qs : List (Leaf × V)}, KD W G kvs qs → (∀ d, valL kvs k = some d → ∃ v, valV qs k = some v ∧ Dat W G d v) ∧ (valV qs k).isSome = (valL kvs k).isSome
  | _, _, .nil => ⟨fun d h => (by cases h), rfl⟩
  | _, _, .cons (k := k') (d := d') (v := v') (ps := ps) (qs := qs) h t => by
    obtain ⟨h1, h2⟩ := KD.val (k := k) t
    by_cases e : k' = k
    · rw [valL_pos (p := (k', d')) e, valV_pos (p := (k', v')) e]
      exact ⟨fun d hd => by cases hd; exact ⟨v', rfl, h⟩, rfl⟩
    · rw [valL_neg (p := (k', d')) e, valV_neg (p := (k', v')) e]
      exact ⟨h1, h2⟩
theorem KD.repl {k : Leaf} {d : DV} {v : V} (hd : Dat W G d v) : ∀ {kvs : KVs} {qs : List (Leaf × V)}, KD W G kvs qs → KD W G (kvs.map fun kv => if kv.1 = k then (kv.1, d) else kv) (qs.map fun kv => if kv.1 = k then (kv.1, v) else kv)
  | _, _, .nil => .nil
  | _, _, .cons (k := k') h t => by
    rw [List.map_cons, List.map_cons]
    by_cases e : k' = k
    · simp only [e, if_true]
      exact .cons hd (KD.repl hd t)
    · simp only [e, if_false]
      exact .cons h (KD.repl hd t)
theorem KD.snoc {k : Leaf} {d : DV} {v : V} (hd : Dat W G d v) : ∀ {kvs : KVs} {qs : List (Leaf × V)}, KD W G kvs qs → KD W G (kvs ++ [(k, d)]) (qs ++ [(k, v)])
  | _, _, .nil => .cons hd .nil
  | _, _, .cons h t => .cons h (KD.snoc hd t)
theorem KD.put {k : Leaf} {d : DV} {v : V} {kvs : KVs} {qs : List (Leaf × V)} (r : KD W G kvs qs) (hd : Dat W G d v) : KD W G (putL kvs k d) (putK qs k v) := by
  have h := (r.val (k := k)).2
  rw [← valL_any, ← valV_any] at h
  unfold putL putK
  rw [h]
  split
  · exact r.repl hd
  · exact r.snoc hd
theorem KD.mono (e : Same G G') : ∀ {kvs : KVs} {qs : List (Leaf × V)}, KD W G kvs qs → KD W G' kvs qs
  | _, _, .nil => .nil
  | _, _, .cons h t => .cons (h.mono e) (KD.mono e t)
end
/-- a dict at hand -/
def DlOf (M : Mu) (d : DV) (kvs : KVs) : Prop := d = dlD kvs ∨ ∃ a, d = .r a ∧ M a = some (dlM kvs)
section
variable {W : Wd} {Z : Zn} {G G' F : Hp} {ρ : Ro} {M : Mu} {H : Hp} {Q2 : DQ} {d e x y : DV} {v : V} {kvs : KVs}
theorem dl_at (R : Rep W G M F H) (h : Dat W G d v) (l : DlOf M d kvs) : ∃ a qs, v = .ref a ∧ H a = some (leafO W a qs) ∧ KD W G kvs qs := by
  rcases l with rfl | ⟨a, rfl, hm⟩
  · obtain ⟨a, xs, h1, h2, h3, h4⟩ := dat_dl.mp h
    exact ⟨a, _, h1, R.ex _ _ h2, KD.of h4⟩
  · obtain ⟨xs, h1, h2, h3⟩ := (R.mu a _ hm).2
    exact ⟨a, _, dat_v.mp h, h1, KD.of h3⟩
theorem wr_ixF {k : Leaf} (l : DlOf M x kvs) (hv : valL kvs k = some e) (h : Q2 e M) : WR Z (rIxF Z.W) x (lD k) M Q2 := fun G H vx vy Q s R dx dy r => by
  obtain ⟨a, qs, e1, e2, e3⟩ := dl_at R dx l
  obtain ⟨v, h1, h2⟩ := (e3.val (k := k)).1 e hv
  rw [lD_v] at dy
  exact ⟨a, qs, k, v, e1, e2, dat_v.mp dy, h1, r _ _ G M H (Same.refl G) R h2 h⟩
theorem wr_inF' {k : Leaf} {neg : Bool} (l : DlOf M y kvs) (h : Q2 (.b (if neg then !(valL kvs k).isSome else (valL kvs k).isSome)) M) : WR Z (rInF Z.W neg) (lD k) y M Q2 := fun G H vx vy Q s R dx dy r => by
  obtain ⟨a, qs, e1, e2, e3⟩ := dl_at R dy l
  rw [lD_v] at dx
  refine ⟨a, qs, k, e1, e2, dat_v.mp dx, ?_⟩
  rw [(e3.val (k := k)).2]
  exact r _ _ G M H (Same.refl G) R dat_v' h
theorem wset_leaf {a : Addr} {k : Leaf} {P2 : Mu → Prop} (hm : M a = some (dlM kvs)) (hz : kvs.length < 1000000) (h : P2 (updM M a (dlM (putL kvs k d)))) : WSet Z (rSetF Z.W) (.r a) (lD k) d M P2 := fun G H vo vi vv P s R xo xi xv n => by
  obtain ⟨xs, h1, h2, h3⟩ := (R.mu a _ hm).2
  have kd := KD.of h3
  rw [lD_v] at xi
  obtain ⟨zs, e1, e2⟩ := (kd.put (k := k) xv).back
  refine ⟨a, _, k, dat_v.mp xo, h1, dat_v.mp xi, by rw [kd.length]; exact Nat.lt_of_lt_of_le hz (by decide), ?_⟩
  rw [e1]
  exact n G _ _ (Same.refl G) (R.write (mo' := dlM (putL kvs k d)) hm ⟨zs, upd_same, by simp, e2⟩) h
theorem we_dnewF {Q2 : DQ} (h : ∀ p, M p = none → Q2 (.r p) (updM M p (dlM []))) : WE Z (tDNewF Z.W) ρ M Q2 := fun G σ H Q s R E r p hp =>
  r _ _ G _ _ (Same.refl G) (R.newM (mo := dlM []) hp ⟨[], upd_same, rfl, datL_nil'⟩) dat_v' (h p (R.mnone hp))
end
end DL
set_option Elab.async false
set_option linter.all false
set_option maxRecDepth 100000
set_option maxHeartbeats 2000000
namespace DL
open PySem PySem.Spec PyProof.Rows L2
def mergeF (kvs more : List (Leaf × V)) : List (Leaf × V) := more.foldl (fun acc kv => putK acc kv.1 kv.2) kvs
theorem KV.mergeF : ∀ {more : List (Leaf × V)} {rs : List (Leaf × Value)} {kvs : List (Leaf × V)} {us : List (Leaf × Value)}, KV more rs → KV kvs us → KV (DL.mergeF kvs more) (merged us rs)
  | [], _, kvs, us, r, r0 => by cases r; exact r0
  | p :: ps, _, kvs, us, r, r0 => by
    cases r with
    | @cons _ q _ qs h t =>
      have e : KV (putK kvs p.1 p.2) (stored us q.1 q.2) := by
        have := r0.put p.1 h.2
        rw [← h.1]; exact this
      exact KV.mergeF (more := ps) (rs := qs) (kvs := putK kvs p.1 p.2) (us := stored us q.1 q.2) t e
theorem len_mergeF : ∀ (more kvs : List (Leaf × V)), (mergeF kvs more).length ≤ kvs.length + more.length
  | [], kvs => Nat.le_refl _
  | p :: r, kvs => by
    have h1 := len_mergeF r (putK kvs p.1 p.2)
    have h2 := length_putK kvs p.1 p.2
    show (mergeF (putK kvs p.1 p.2) r).length ≤ _
    simp only [List.length_cons]
    omega
theorem carriesF {P : Program} {w : World} : ∀ {kvs : List (Leaf × V)} {ws : List (Value × Value)}, VV (kvs.map fun kv => (lV kv.1, kv.2)) ws → ∃ rs, Carries (leafKind P w) ws rs ∧ KV kvs rs
  | [], _, r => by rw [List.map_nil] at r; cases r; exact ⟨[], True.intro, .nil⟩
  | p :: kvs, _, r => by
    rw [List.map_cons] at r
    cases r with
    | @cons _ b _ bs h t =>
      obtain ⟨rs, c, q⟩ := carriesF (P := P) (w := w) t
      obtain ⟨b1, b2⟩ := b
      exact ⟨(p.1, b2) :: rs, ⟨lV_is h.1, rfl, c⟩, .cons ⟨rfl, h.2⟩ q⟩
def tDispF (W : Wd) (trs : List (TE × TE)) : TE := fun σ H Q => ∀ p, H p = none → tPairs trs σ (upd H p (leafO W p [])) fun ps H2 => H2 p = some (leafO W p []) ∧ ∃ kvs : List (Leaf × V), ps = kvs.map (fun kv => (lV kv.1, kv.2)) ∧ kvs.length ≤ 15 ∧ Q (.ref p) (upd H2 p (leafO W p (mergeF [] kvs)))
theorem pe_dispF {X : Cx} {W : Wd} {pos : Pos} {keys : List (Option Expr)} {values : List Expr} {trs : List (TE × TE)} (hP : W.P = X.prog) (hw : W.w = X.w) (h : PPs X pos keys values trs) (hall : keys.all (·.isSome) = true) (hl : keys.length = values.length) (h0 : keys ≠ [])
    (h15 : keys.length ≤ 15) : PE X (.Dict keys values pos) (tDispF W trs) := ⟨fun pins s σ H Q I q => by
  have hn := I.hok.fresh (Nat.le_refl s.heap.objs.size)
  have hm : (s.heap.objs.size == sysModules) = false := beq_eq_false_iff_ne.mpr (Ne.symm (Nat.ne_of_lt I.big))
  have I1 := I.laid (a := s.heap.objs.size) (o := leafO W s.heap.objs.size []) (h' := s.heap.push { cls := .type "dict", data := .dict #[] }) (t' := s.toks) (fun _ _ q => Heap.get?_push_of_some _ q) (Nat.le_refl _) (lf_new hP hw (Nat.zero_le _) hm .nil (Heap.DictOf.new s.heap))
  refine wpAny_Dict_walk (knd := leafKind X.prog X.w) hall hl h0 h15 (thn (h.run pins _ σ _ _ I1 (q _ hn)) fun ws s2 ⟨ps, H2, I2, rel, e, kvs, ep, lk, q2⟩ => ?_)
  subst ep
  obtain ⟨rs, c, rk⟩ := carriesF (P := X.prog) (w := X.w) rel
  obtain ⟨z, hd, vs0, r0, dd⟩ := lf_of hP hw I2 e
  cases r0
  refine ⟨rs, c, dd, fun h' dd' hs => ⟨.ref s.heap.objs.size, _, ?_, rfl, q2⟩⟩
  have hz : (mergeF [] kvs).length ≤ sizeLine := by
    have h1 := len_mergeF kvs []
    simp only [List.length_nil] at h1
    exact le_size (by omega)
  have he : ∃ q, h'.get? s.heap.objs.size = some q := let ⟨q, _, _, hq, _⟩ := dd'; ⟨q, hq⟩
  exact d_write I2 (by rw [e]; exact True.intro) hs he (lf_new hP hw hz hd (KV.mergeF rk .nil) dd')⟩
end DL
set_option Elab.async false
set_option linter.all false
set_option maxRecDepth 100000
set_option maxHeartbeats 2000000
namespace DL
open PySem PySem.Spec PyProof.Rows L2
inductive DatP (W : Wd) (G : Hp) : List (DV × DV) → List (V × V) → Prop
  | nil : DatP W G [] []
  | cons {d e : DV} {v u : V} {ps : List (DV × DV)} {qs : List (V × V)} (h1 : Dat W G d v) (h2 : Dat W G e u) (t : DatP W G ps qs) : DatP W G ((d, e) :: ps) ((v, u) :: qs)
theorem DatP.mono {W : Wd} {G G' : Hp} (s : Same G G') : ∀ {ps : List (DV × DV)} {qs : List (V × V)}, DatP W G ps qs → DatP W G' ps qs
  | _, _, .nil => .nil
  | _, _, .cons h1 h2 t => .cons (h1.mono s) (h2.mono s) (DatP.mono s t)
def WPs (Z : Zn) (trs : List (TE × TE)) (ρ : Ro) (M : Mu) (P2 : List (DV × DV) → Mu → Prop) : Prop :=
  ∀ G σ H Q, Same Z.G G → Rep Z.W G M Z.F H → EnvOk Z.W G ρ σ → (∀ ps qs G' M' H', Same G G' → Rep Z.W G' M' Z.F H' → DatP Z.W G' ps qs → P2 ps M' → Q qs H') → tPairs trs σ H Q
def mergeL (kvs more : KVs) : KVs := more.foldl (fun acc kv => putL acc kv.1 kv.2) kvs
section
variable {W : Wd} {Z : Zn} {G G' F : Hp} {ρ : Ro} {M : Mu} {H : Hp} {Q2 : DQ} {tk tv : TE} {trs : List (TE × TE)} {P2 : List (DV × DV) → Mu → Prop}
theorem wps_nil (h : P2 [] M) : WPs Z [] ρ M P2 := fun G σ H Q s R E r => r [] [] G M H (Same.refl G) R .nil h
theorem wps_cons (h : WE Z tk ρ M fun d M1 => WE Z tv ρ M1 fun e M2 => WPs Z trs ρ M2 fun ps M3 => P2 ((d, e) :: ps) M3) : WPs Z ((tk, tv) :: trs) ρ M P2 := fun G σ H Q s R E r =>
  h G σ H _ s R E fun d v G1 M1 H1 s1 R1 x1 q1 => q1 G1 σ H1 _ (s.trans s1) R1 (E.mono s1) fun e u G2 M2 H2 s2 R2 x2 q2 => q2 G2 σ H2 _ ((s.trans s1).trans s2) R2 ((E.mono s1).mono s2) fun ps qs G3 M3 H3 s3 R3 x3 q3 =>
    r _ _ G3 M3 H3 ((s1.trans s2).trans s3) R3 (.cons ((x1.mono s2).mono s3) (x2.mono s3) x3) q3
theorem KD.merge : ∀ {more : KVs} {rs : List (Leaf × V)} {kvs : KVs} {us : List (Leaf × V)}, KD W G more rs → KD W G kvs us → KD W G (mergeL kvs more) (mergeF us rs)
  | _, _, kvs, us, .nil, r0 => r0
  | _, _, kvs, us, .cons (ps := ps) (qs := qs) h t, r0 => KD.merge (more := ps) (rs := qs) t (r0.put h)
theorem datP_kd : ∀ {kvs : KVs} {qs : List (V × V)}, DatP W G (kvs.map fun kv => (lD kv.1, kv.2)) qs → ∃ us : List (Leaf × V), qs = us.map (fun kv => (lV kv.1, kv.2)) ∧ KD W G kvs us
  | [], _, h => by
    rw [List.map_nil] at h
    cases h
    exact ⟨[], rfl, .nil⟩
  | (k, d) :: kvs, _, h => by
    rw [List.map_cons] at h
    cases h with
    | cons h1 h2 t =>
      obtain ⟨us, e1, e2⟩ := datP_kd t
      rw [lD_v] at h1
      exact ⟨(k, _) :: us, by rw [e1, dat_v.mp h1]; rfl, .cons h2 e2⟩
theorem we_dispF (h : ∀ p, M p = none → WPs Z trs ρ (updM M p (dlM [])) fun ps M2 => M2 p = some (dlM []) ∧ ∃ kvs : KVs, ps = kvs.map (fun kv => (lD kv.1, kv.2)) ∧ kvs.length ≤ 15 ∧ Q2 (.r p) (updM M2 p (dlM (mergeL [] kvs)))) :
    WE Z (tDispF Z.W trs) ρ M Q2 := fun G σ H Q s R E r p hp => by
  have R1 := R.newM (mo := dlM []) (o := leafO Z.W p []) hp ⟨[], upd_same, rfl, datL_nil'⟩
  refine h p (R.mnone hp) G σ _ _ s R1 E fun ps qs G2 M2 H2 s2 R2 x ⟨hm, kvs, ep, h15, q⟩ => ?_
  subst ep
  obtain ⟨us, e1, kd⟩ := datP_kd x
  obtain ⟨xs, h1, _, h3⟩ := (R2.mu p _ hm).2
  refine ⟨h1, us, e1, by rw [kd.length]; exact h15, ?_⟩
  obtain ⟨zs, f1, f2⟩ := (KD.merge kd (.nil (W := Z.W) (G := G2))).back
  rw [f1]
  exact r _ _ G2 _ _ s2 (R2.write (mo' := dlM (mergeL [] kvs)) hm ⟨zs, upd_same, by simp, f2⟩) dat_v' q
end
end DL
set_option Elab.async false
set_option linter.all false
set_option maxRecDepth 100000
set_option maxHeartbeats 2000000
namespace DL
open PySem PySem.Spec PyProof.Rows L2
end DL
set_option Elab.async false
set_option linter.all false
set_option maxRecDepth 100000
set_option maxHeartbeats 2000000
namespace DL
open PySem PySem.Spec PyProof.Rows L2
end DL
set_option Elab.async false
set_option linter.all false
set_option maxRecDepth 100000
set_option maxHeartbeats 2000000
namespace DL
open PySem PySem.Spec PyProof.Rows L2
def hitB (ls : List (Leaf × V)) (p : Leaf × V) : Bool := match valV ls p.1 with
  | some v => eqV p.2 v
  | none => false
def eqF (ks ls : List (Leaf × V)) : Bool := (ks.length == ls.length) && ks.all (hitB ls)
def flatF (ks : List (Leaf × V)) : Prop := ∀ p ∈ ks, flatV p.2 = true
theorem valV_mem {ls : List (Leaf × V)} {k : Leaf} {v : V} (h : valV ls k = some v) : ∃ p ∈ ls, p.2 = v := by
  unfold valV at h
  obtain ⟨p, h1, h2⟩ := Option.map_eq_some_iff.mp h
  exact ⟨p, List.mem_of_find?_eq_some h1, h2⟩
theorem hitsF {A : Around} {s : Shared} {ls : List (Leaf × V)} {vb : List (Leaf × Value)} (rb : KV ls vb) (fl : flatF ls) : ∀ {ks : List (Leaf × V)} {va : List (Leaf × Value)}, KV ks va → flatF ks → PySem.W.KeqHits A s vb va (ks.all (hitB ls))
  | [], _, ra, _ => by cases ra; exact .nil
  | p :: ps, _, ra, fk => by
    cases ra with
    | @cons _ q _ qs h t =>
      obtain ⟨k, v⟩ := q
      obtain ⟨h1, h2⟩ := h
      have h1' : p.1 = k := h1
      have ih := hitsF (A := A) (s := s) rb fl (ks := ps) (va := qs) t fun p' hp => fk p' (List.mem_cons_of_mem _ hp)
      have rr := rb.val p.1
      rw [List.all_cons]
      unfold hitB
      cases e : valV ls p.1 with
      | none =>
        rw [e, h1'] at rr
        have hn : valueAt vb k = none := by
          cases z : valueAt vb k with
          | none => rfl
          | some _ => rw [z] at rr; exact rr.elim
        simp only [Bool.false_and]
        exact .miss hn
      | some y =>
        rw [e, h1'] at rr
        obtain ⟨y', hy, ry⟩ := rr.some_of
        obtain ⟨q', hq', e'⟩ := valV_mem e
        exact .hit hy (eqAt_V h2 ry (fk p List.mem_cons_self) (e' ▸ fl q' hq')) ih
def rEqF (W : Wd) (neg : Bool) : R2 := fun x y H Q => ∃ a b ks ls, x = .ref a ∧ y = .ref b ∧ H a = some (leafO W a ks) ∧ H b = some (leafO W b ls) ∧ flatF ks ∧ flatF ls ∧ Q (.bl (if neg then !eqF ks ls else eqF ks ls)) H
theorem op_eqF {X : Cx} {W : Wd} (hP : W.P = X.prog) (hw : W.w = X.w) (hu : X.A.units < cLine) : OpR X (compareOp .Eq) (rEqF W false) := by
  intro pins s σ H x y v u Q I rx ry h
  obtain ⟨a, b, ks, ls, rfl, rfl, ea, eb, fk, fl, q⟩ := h
  cases rx
  cases ry
  obtain ⟨_, ya, va, ra, da⟩ := lf_of hP hw I ea
  obtain ⟨_, yb, vb, rb, db⟩ := lf_of hP hw I eb
  exact PySem.W.keq_eq (knd := leafKind X.prog X.w) (r := ks.all (hitB ls)) ya yb da db hu (fun _ => hitsF rb fl ra fk) (fin_bl I q (by rw [← ra.length, ← rb.length]; rfl))
section
variable {W : Wd} {Z : Zn} {G : Hp} {M : Mu} {Q2 : DQ} {x y : DV}
def vKV (ks : List (Leaf × V)) : KVs := ks.map fun p => (p.1, .v p.2)
theorem KD.flat : ∀ {ks : List (Leaf × V)} {qs : List (Leaf × V)}, KD W G (vKV ks) qs → qs = ks
  | [], _, h => by cases h; rfl
  | (k, v) :: ks, _, h => by
    cases h with
    | cons h1 t => rw [KD.flat t, dat_v.mp h1]
theorem wr_eqF {ks ls : List (Leaf × V)} {neg : Bool} (l1 : DlOf M x (vKV ks)) (l2 : DlOf M y (vKV ls)) (f1 : flatF ks) (f2 : flatF ls) (h : Q2 (.b (if neg then !eqF ks ls else eqF ks ls)) M) : WR Z (rEqF Z.W neg) x y M Q2 := fun G H vx vy Q s R dx dy r => by
  obtain ⟨a, qs, e1, e2, e3⟩ := dl_at R dx l1
  obtain ⟨b, rs, g1, g2, g3⟩ := dl_at R dy l2
  rw [e3.flat] at e2
  rw [g3.flat] at g2
  exact ⟨a, b, ks, ls, e1, g1, e2, g2, f1, f2, r _ _ G M H (Same.refl G) R dat_v' h⟩
end
end DL
set_option Elab.async false
set_option linter.all false
set_option maxRecDepth 100000
set_option maxHeartbeats 2000000
namespace DL
open PySem PySem.Spec PyProof.Rows L2
theorem MLe.of {M M' : Mu} (h : ∀ q, M' q = none ∨ M q = M' q) : MLe M M' := fun q => by
  rcases h q with e | e
  · rw [e]; exact .drop
  · rw [e]; exact .rf
structure Kid where
  key : Leaf
  at_ : Addr
  ds : List DV
def kidsR (b : List Kid) : KVs := b.map fun e => (e.key, .r e.at_)
def kidsF (b : List Kid) : KVs := b.map fun e => (e.key, .lst e.ds)
structure TCells (M M0 : Mu) (x o k C : Addr) (ns : List Str) (ovs : KVs) (b : List Kid) : Prop where
  hx : M x = some (.ins C ns [.r o, .r k])
  ho : M o = some (dlM ovs)
  hk : M k = some (dlM (kidsR b))
  hb : ∀ e ∈ b, M e.at_ = some (.lst e.ds)
  out : ∀ q, q ≠ x → q ≠ o → q ≠ k → (∀ e ∈ b, q ≠ e.at_) → M q = M0 q
  fo : M0 o = none
  fk : M0 k = none
  fb : ∀ e ∈ b, M0 e.at_ = none
  ox : o ≠ x
  kx : k ≠ x
  ok : o ≠ k
  bx : ∀ e ∈ b, e.at_ ≠ x ∧ e.at_ ≠ o ∧ e.at_ ≠ k
  dis : b.Pairwise fun e f => e.at_ ≠ f.at_
section
variable {W : Wd} {Z : Zn} {G F H : Hp} {ρ : Ro} {M M0 : Mu} {x o k C : Addr} {ns : List Str} {ovs : KVs} {b : List Kid}
def inB (o k : Addr) (b : List Kid) (q : Addr) : Bool := decide (q = o) || (decide (q = k) || b.any fun e => decide (q = e.at_))
theorem inB_o : inB o k b o = true := by simp [inB]
theorem inB_k : inB o k b k = true := by simp [inB]
theorem inB_b {e : Kid} (h : e ∈ b) : inB o k b e.at_ = true := by
  simp only [inB, Bool.or_eq_true, decide_eq_true_eq, List.any_eq_true]
  exact .inr (.inr ⟨e, h, rfl⟩)
theorem inB_of {q : Addr} (h : inB o k b q = true) : q = o ∨ q = k ∨ ∃ e ∈ b, q = e.at_ := by
  simpa [inB] using h
theorem inB_no {q : Addr} (h : inB o k b q = false) : q ≠ o ∧ q ≠ k ∧ ∀ e ∈ b, q ≠ e.at_ := by
  refine ⟨fun e => ?_, fun e => ?_, fun e he e' => ?_⟩
  · rw [e, inB_o] at h; cases h
  · rw [e, inB_k] at h; cases h
  · rw [e', inB_b he] at h; cases h
theorem TCells.inM (c : TCells M M0 x o k C ns ovs b) {q : Addr} (h : inB o k b q = true) : (∃ mo, M q = some mo) ∧ M0 q = none ∧ q ≠ x := by
  rcases inB_of h with rfl | rfl | ⟨e, he, rfl⟩
  · exact ⟨⟨_, c.ho⟩, c.fo, c.ox⟩
  · exact ⟨⟨_, c.hk⟩, c.fk, c.kx⟩
  · exact ⟨⟨_, c.hb e he⟩, c.fb e he, (c.bx e he).1⟩
theorem datL_refs {α : Type} {f : α → Addr} : ∀ {l : List α} {xs : List V}, DatL W G (l.map fun e => DV.r (f e)) xs → xs = l.map fun e => V.ref (f e)
  | [], xs, h => datL_nil.mp h
  | e :: l, xs, h => by
    obtain ⟨y, r, rfl, h1, h2⟩ := datL_cons.mp h
    rw [dat_v.mp h1, datL_refs h2]
    rfl
theorem TCells.freeze (c : TCells M M0 x o k C ns ovs b) (hn : ns.length = 2) (R : Rep W G M F H) : ∃ G', Same G G' ∧ Rep W G' (updM M0 x (.ins C ns [dlD ovs, dlD (kidsF b)])) F H := by
  refine ⟨fun q => if inB o k b q = true then H q else G q, ?_, ?_⟩
  · have hs : Same G (fun q => if inB o k b q = true then H q else G q) := fun q u hq => by
      show (if inB o k b q = true then H q else G q) = some u
      by_cases e : inB o k b q = true
      · obtain ⟨⟨mo, hm⟩, _⟩ := c.inM e
        rw [(R.mu q mo hm).1] at hq
        cases hq
      · rw [if_neg e]; exact hq
    exact hs
  · have hs : Same G (fun q => if inB o k b q = true then H q else G q) := fun q u hq => by
      show (if inB o k b q = true then H q else G q) = some u
      by_cases e : inB o k b q = true
      · obtain ⟨⟨mo, hm⟩, _⟩ := c.inM e
        rw [(R.mu q mo hm).1] at hq
        cases hq
      · rw [if_neg e]; exact hq
    refine ⟨fun q u hq => ?_, R.fr, fun q u hq => ?_, fun q mo hq => ?_⟩
    · replace hq : (if inB o k b q = true then H q else G q) = some u := hq
      by_cases e : inB o k b q = true
      · rw [if_pos e] at hq; exact hq
      · rw [if_neg e] at hq; exact R.ex q u hq
    · obtain ⟨h1, h2⟩ := R.fd q u hq
      have hn' : inB o k b q = false := by
        cases e : inB o k b q with
        | false => rfl
        | true =>
          obtain ⟨⟨mo, hm⟩, _⟩ := c.inM e
          rw [hm] at h2
          cases h2
      have hqx : q ≠ x := fun e => by rw [e, c.hx] at h2; cases h2
      obtain ⟨a1, a2, a3⟩ := inB_no hn'
      refine ⟨?_, ?_⟩
      · show (if inB o k b q = true then H q else G q) = none
        rw [hn', if_neg Bool.false_ne_true]; exact h1
      · rw [updM_ne hqx, ← c.out q hqx a1 a2 a3]; exact h2
    · by_cases e : q = x
      · subst e
        rw [updM_same] at hq
        cases hq
        obtain ⟨g0, dx, xs, hH, hl, hd⟩ := R.mu _ _ c.hx
        have hxn : inB o k b q = false := by
          cases e : inB o k b q with
          | false => rfl
          | true => exact absurd rfl (c.inM e).2.2
        refine ⟨?_, dx, xs, hH, hn, ?_⟩
        · show (if inB o k b q = true then H q else G q) = none
          rw [hxn, if_neg Bool.false_ne_true]; exact g0
        · obtain ⟨y1, r1, rfl, d1, hd⟩ := datL_cons.mp hd
          obtain ⟨y2, r2, rfl, d2, hd⟩ := datL_cons.mp hd
          rw [datL_nil.mp hd]
          refine datL_cons' ?_ (datL_cons' ?_ datL_nil')
          · obtain ⟨_, zs, hz, hzl, hzd⟩ := R.mu _ _ c.ho
            refine dat_dl.mpr ⟨o, zs, dat_v.mp d1, ?_, hzl, hzd.mono hs⟩
            show (if inB o k b o = true then H o else G o) = _
            rw [inB_o, if_pos rfl]; exact hz
          · obtain ⟨_, zs, hz, hzl, hzd⟩ := R.mu _ _ c.hk
            have ez : zs = b.map fun e => V.ref e.at_ := datL_refs (f := Kid.at_) (by rw [show (b.map fun e => DV.r e.at_) = (kidsR b).map (·.2) by simp [kidsR, Function.comp_def]]; exact hzd)
            refine dat_dl.mpr ⟨k, zs, dat_v.mp d2, ?_, by simp [kidsF], ?_⟩
            · show (if inB o k b k = true then H k else G k) = _
              rw [inB_k, if_pos rfl, hz]
              have : (kidsR b).map (·.1) = (kidsF b).map (·.1) := by simp [kidsR, kidsF, Function.comp_def]
              rw [this]
            · rw [ez]
              have key : ∀ l : List Kid, (∀ e ∈ l, e ∈ b) → DatL W (fun q => if inB o k b q = true then H q else G q) ((kidsF l).map (·.2)) (l.map fun e => V.ref e.at_) := by
                intro l
                induction l with
                | nil => intro _; exact datL_nil'
                | cons e l ih =>
                  intro hm
                  refine datL_cons' ?_ (ih fun f hf => hm f (List.mem_cons_of_mem _ hf))
                  have he := hm e List.mem_cons_self
                  obtain ⟨_, ys, hy, hyd⟩ := R.mu _ _ (c.hb e he)
                  refine dat_lst.mpr ⟨e.at_, ys, rfl, ?_, hyd.mono hs⟩
                  show (if inB o k b e.at_ = true then H e.at_ else G e.at_) = _
                  rw [inB_b he, if_pos rfl]; exact hy
              exact key b fun _ h => h
      · rw [updM_ne e] at hq
        have hn' : inB o k b q = false := by
          cases e' : inB o k b q with
          | false => rfl
          | true => rw [(c.inM e').2.1] at hq; cases hq
        obtain ⟨a1, a2, a3⟩ := inB_no hn'
        rw [← c.out q e a1 a2 a3] at hq
        obtain ⟨g0, hm⟩ := R.mu q mo hq
        refine ⟨?_, hm.mono hs⟩
        show (if inB o k b q = true then H q else G q) = none
        rw [hn', if_neg Bool.false_ne_true]; exact g0
theorem ws_frzT {ts : TS} {D2 : Ends2} (c : TCells M M0 x o k C ns ovs b) (hn : ns.length = 2) (h : WS Z ts D2 ρ (updM M0 x (.ins C ns [dlD ovs, dlD (kidsF b)]))) : WS Z ts D2 ρ M := fun G σ H D s R E e => by
  obtain ⟨G', s', R'⟩ := c.freeze hn R
  exact h G' σ H D (s.trans s') R' (E.mono s') (e.mono s')
end
section
variable {W : Wd} {Z : Zn} {ρ : Ro} {M : Mu} {Q2 : DQ} {te : TE}
def tRevD (K : PySem.W.Frag) (te : TE) : TE := tRevL K te
theorem k_rev {X : Cx} {K : PySem.W.Frag} {e : Expr} {te : TE} {k : Nat} {p1 p2 p3 pos : Pos} (eK : X.K = K) (he : PE X e te) : PE X (.Subscript e (.Slice none none (some (.UnaryOp .USub (.Constant (.int 1) k p1) p2)) p3) pos) (tRevD K te) := eK ▸ pe_revL he
theorem we_rev (h : WE Z te ρ M fun d M1 => ∃ ds, LstOf M1 d ds ∧ Q2 (.lst ds.reverse) M1) : WE Z (tRevD Z.W.K te) ρ M Q2 := fun G σ H Q s R E r =>
  h G σ H _ s R E fun d v G' M' H' s' R' x ⟨ds, l, q⟩ => by
    obtain ⟨a, xs, rfl, h1, h2⟩ := lst_at R' x l
    refine ⟨a, xs, rfl, SqL.of h1, fun p hp => ?_⟩
    exact r _ _ (upd G' p (.lst xs.reverse)) M' _ (s'.trans (same_new (R'.gnone hp))) (R'.new hp) (dat_lst.mpr ⟨p, xs.reverse, rfl, by simp [upd], (h2.mono (same_new (R'.gnone hp))).reverse⟩) q
end
end DL
set_option Elab.async false
set_option linter.all false
set_option maxRecDepth 100000
set_option maxHeartbeats 2000000
namespace DL
open PySem PySem.Spec PyProof.Rows L2
abbrev Prs := List (Str × Option Str)
def kidsOf (ps : Prs) (o : Option Str) : List Str := (ps.filter fun p => decide (p.2 = o)).map (·.1)
def namesOf (ps : Prs) : List Str := ps.map (·.1)
structure okPair (told : List Str) (p : Str × Option Str) : Prop where
  nm : nameB p.1 = true
  new : p.1 ∉ told
  ov : ∀ c, p.2 = some c → c ∈ told
def TrF : List Str → Prs → Prop
  | _, [] => True
  | told, p :: r => okPair told p ∧ TrF (told ++ [p.1]) r
structure Tr (ps : Prs) : Prop where
  len : ps.length ≤ 8
  ok : TrF [] ps
theorem TrF.get : ∀ {ps : Prs} {told : List Str} {i : Nat} {p : Str × Option Str}, TrF told ps → ps[i]? = some p → okPair (told ++ namesOf (ps.take i)) p
  | [], told, i, p, h, e => by simp at e
  | q :: ps, told, 0, p, h, e => by
    simp at e
    subst e
    simpa [namesOf] using h.1
  | q :: ps, told, i + 1, p, h, e => by
    have := TrF.get h.2 (i := i) (by simpa using e)
    simpa [namesOf] using this
theorem TrF.of : ∀ {ps : Prs} {told : List Str}, (∀ (i : Nat) p, ps[i]? = some p → okPair (told ++ namesOf (ps.take i)) p) → TrF told ps
  | [], told, h => trivial
  | q :: ps, told, h => ⟨by simpa [namesOf] using h 0 q rfl, TrF.of fun i p e => by simpa [namesOf] using h (i + 1) p (by simpa using e)⟩
theorem TrF.nodup : ∀ {ps : Prs} {told : List Str}, TrF told ps → told.Nodup → (told ++ namesOf ps).Nodup
  | [], told, h, hn => by simpa [namesOf] using hn
  | q :: ps, told, h, hn => by
    have := TrF.nodup h.2 (by
      rw [List.nodup_append]
      refine ⟨hn, by simp, ?_⟩
      intro a ha b hb e
      simp at hb
      subst hb e
      exact h.1.new ha)
    simpa [namesOf] using this
section
variable {ps : Prs}
theorem Tr.nodup (t : Tr ps) : (namesOf ps).Nodup := by simpa using t.ok.nodup List.nodup_nil
theorem Tr.pair (t : Tr ps) {i : Nat} {p : Str × Option Str} (h : ps[i]? = some p) : okPair (namesOf (ps.take i)) p := by simpa using t.ok.get h
theorem Tr.name (t : Tr ps) {c : Str} (h : c ∈ namesOf ps) : nameB c = true := by
  obtain ⟨p, hp, rfl⟩ := List.mem_map.mp h
  obtain ⟨i, hi⟩ := List.getElem?_of_mem hp
  exact (t.pair hi).nm
theorem Tr.take (t : Tr ps) (n : Nat) : Tr (ps.take n) := ⟨by rw [List.length_take]; have := t.len; omega, TrF.of fun i p e => by
  have hi : i < n := by
    have := (List.getElem?_eq_some_iff.mp e).1
    rw [List.length_take] at this
    omega
  rw [List.getElem?_take_of_lt hi] at e
  have := t.pair e
  rw [List.take_take, Nat.min_eq_left (by omega)]
  simpa using this⟩
theorem names_len : (namesOf ps).length = ps.length := by simp [namesOf]
theorem names_get {i : Nat} {p : Str × Option Str} (h : ps[i]? = some p) : (namesOf ps)[i]? = some p.1 := by simp [namesOf, h]
theorem mem_kids {o : Option Str} {c : Str} : c ∈ kidsOf ps o ↔ (c, o) ∈ ps := by
  simp only [kidsOf, List.mem_map, List.mem_filter, decide_eq_true_eq]
  constructor
  · rintro ⟨⟨c', o'⟩, ⟨h1, rfl⟩, rfl⟩; exact h1
  · intro h; exact ⟨(c, o), ⟨h, rfl⟩, rfl⟩
theorem kids_names {o : Option Str} {c : Str} (h : c ∈ kidsOf ps o) : c ∈ namesOf ps := List.mem_map.mpr ⟨_, mem_kids.mp h, rfl⟩
/-- how far a column stands from the end -/
def rk (ps : Prs) : Option Str → Nat
  | none => ps.length
  | some c => ps.length - 1 - posS c (namesOf ps)
theorem rk_kid (t : Tr ps) {o : Option Str} {c : Str} (h : c ∈ kidsOf ps o) : rk ps (some c) < rk ps o := by
  have hc := kids_names h
  obtain ⟨i, hi⟩ := List.getElem?_of_mem (mem_kids.mp h)
  have ei : posS c (namesOf ps) = i := posS_eq t.nodup (names_get hi)
  have li : i < ps.length := (List.getElem?_eq_some_iff.mp hi).1
  cases o with
  | none =>
    show ps.length - 1 - posS c (namesOf ps) < ps.length
    omega
  | some d =>
    have hd := (t.pair hi).ov d rfl
    obtain ⟨j, hj⟩ := List.getElem?_of_mem hd
    have hj' : (namesOf (ps.take i))[j]? = some d := hj
    have lj : j < i := by
      have := (List.getElem?_eq_some_iff.mp hj').1
      rw [names_len, List.length_take] at this
      omega
    have hj2 : (namesOf ps)[j]? = some d := by
      rw [show namesOf (ps.take i) = (namesOf ps).take i by simp [namesOf], List.getElem?_take_of_lt lj] at hj'
      exact hj'
    have ej : posS d (namesOf ps) = j := posS_eq t.nodup hj2
    show ps.length - 1 - posS c (namesOf ps) < ps.length - 1 - posS d (namesOf ps)
    omega
def ordF (ps : Prs) : Nat → Option Str → List Str
  | 0, _ => []
  | n + 1, o => (kidsOf ps o).flatMap fun c => c :: ordF ps n (some c)
theorem flatMap_congr' {α β : Type} {f g : α → List β} : ∀ {l : List α}, (∀ x ∈ l, f x = g x) → l.flatMap f = l.flatMap g
  | [], h => rfl
  | x :: l, h => by
    rw [List.flatMap_cons, List.flatMap_cons, h x List.mem_cons_self, flatMap_congr' fun y hy => h y (List.mem_cons_of_mem _ hy)]
theorem ordF_stab (t : Tr ps) : ∀ (n : Nat) (o : Option Str), rk ps o ≤ n → ordF ps n o = ordF ps (n + 1) o
  | 0, o, h => by
    have : kidsOf ps o = [] := by
      cases e : kidsOf ps o with
      | nil => rfl
      | cons c l =>
        have := rk_kid t (o := o) (c := c) (by rw [e]; exact List.mem_cons_self)
        omega
    show [] = (kidsOf ps o).flatMap fun c => c :: ordF ps 0 (some c)
    rw [this]
    rfl
  | n + 1, o, h => by
    show ((kidsOf ps o).flatMap fun c => c :: ordF ps n (some c)) = (kidsOf ps o).flatMap fun c => c :: ordF ps (n + 1) (some c)
    refine flatMap_congr' fun c hc => ?_
    rw [ordF_stab t n (some c) (by have := rk_kid t hc; omega)]
theorem ordF_more (t : Tr ps) {n m : Nat} {o : Option Str} (h : rk ps o ≤ n) (hm : n ≤ m) : ordF ps m o = ordF ps n o := by
  obtain ⟨k, rfl⟩ := Nat.le.dest hm
  clear hm
  induction k with
  | zero => rfl
  | succ k ih => rw [← ih, ← Nat.add_assoc]; exact (ordF_stab t (n + k) o (by omega)).symm
def ord (ps : Prs) (o : Option Str) : List Str := ordF ps ps.length o
theorem rk_le (o : Option Str) : rk ps o ≤ ps.length := by
  cases o with
  | none => exact Nat.le_refl _
  | some c => show ps.length - 1 - posS c (namesOf ps) ≤ ps.length; omega
theorem ord_eq (t : Tr ps) (o : Option Str) : ord ps o = (kidsOf ps o).flatMap fun c => c :: ord ps (some c) := by
  unfold ord
  rw [← ordF_more t (rk_le o) (Nat.le_succ _)]
  rfl
end
end DL
set_option Elab.async false
set_option linter.all false
set_option maxRecDepth 100000
set_option maxHeartbeats 2000000
namespace DL
open PySem PySem.Spec PyProof.Rows L2
theorem huF {A : Around} {k : Nat} (hr : Room k A) : A.units < cLine := by have := hr.un; omega
def optD : Option Str → DV
  | none => .n
  | some c => .s c
def optL : Option Str → Leaf
  | none => .none
  | some c => .text c
theorem optD_lD (o : Option Str) : optD o = lD (optL o) := by cases o <;> rfl
theorem optL_inj {o o' : Option Str} (h : optL o = optL o') : o = o' := by
  cases o <;> cases o' <;> first | rfl | (cases h; rfl) | cases h
abbrev namesD (zs : List Str) : DV := .lst (zs.map DV.s)
def ovsOf (ps : Prs) : KVs := ps.map fun p => (.text p.1, optD p.2)
def kdsOf (ps : Prs) : KVs := (.none, namesD (kidsOf ps none)) :: ps.map fun p => (.text p.1, namesD (kidsOf ps (some p.1)))
def treeD (C : Addr) (ps : Prs) : DV := .obj C ["overs", "kids", "order"] [dlD (ovsOf ps), dlD (kdsOf ps), namesD (ord ps none)]
section
variable {ps : Prs}
theorem valL_map {α : Type} {f : α → Leaf} {g : α → DV} {x : α} (hi : ∀ y z : α, f y = f z → g y = g z) : ∀ {l : List α}, x ∈ l → valL (l.map fun y => (f y, g y)) (f x) = some (g x)
  | [], h => by cases h
  | y :: l, h => by
    rw [List.map_cons]
    by_cases e : f y = f x
    · rw [valL_pos (p := (f y, g y)) e, hi y x e]
    · rw [valL_neg (p := (f y, g y)) e]
      rcases List.mem_cons.mp h with h | h
      · rw [h] at e; exact absurd rfl e
      · exact valL_map hi h
theorem valL_none {k : Leaf} : ∀ {kvs : KVs}, (∀ kv ∈ kvs, kv.1 ≠ k) → valL kvs k = none
  | [], h => rfl
  | p :: r, h => by rw [valL_neg (h p List.mem_cons_self)]; exact valL_none fun kv hk => h kv (List.mem_cons_of_mem _ hk)
def overOf (ps : Prs) (c : Str) : Option Str := ((ps.find? fun p => decide (p.1 = c)).map (·.2)).getD none
theorem overOf_cons_pos {p : Str × Option Str} {r : Prs} {c : Str} (e : p.1 = c) : overOf (p :: r) c = p.2 := by simp [overOf, List.find?_cons, e]
theorem overOf_cons_neg {p : Str × Option Str} {r : Prs} {c : Str} (e : ¬ p.1 = c) : overOf (p :: r) c = overOf r c := by simp [overOf, List.find?_cons, e]
theorem overOf_mem : ∀ {ps : Prs} {c : Str} {o : Option Str}, (namesOf ps).Nodup → (c, o) ∈ ps → overOf ps c = o
  | [], c, o, hn, h => by cases h
  | p :: r, c, o, hn, h => by
    rw [namesOf, List.map_cons, List.nodup_cons] at hn
    by_cases e : p.1 = c
    · rw [overOf_cons_pos e]
      rcases List.mem_cons.mp h with h | h
      · rw [← h]
      · exact absurd (List.mem_map.mpr ⟨_, h, rfl⟩) (by rw [← e]; exact hn.1)
    · rw [overOf_cons_neg e]
      rcases List.mem_cons.mp h with h | h
      · rw [← h] at e; exact absurd rfl e
      · exact overOf_mem hn.2 h
theorem overOf_in : ∀ {ps : Prs} {c : Str}, c ∈ namesOf ps → (c, overOf ps c) ∈ ps
  | [], c, h => by cases h
  | p :: r, c, h => by
    by_cases e : p.1 = c
    · rw [overOf_cons_pos e, ← e]; exact List.mem_cons_self
    · rw [overOf_cons_neg e]
      refine List.mem_cons_of_mem _ (overOf_in ?_)
      rcases List.mem_cons.mp h with h | h
      · exact absurd h.symm e
      · exact h
theorem ovs_val : ∀ {ps : Prs} {c : Str}, c ∈ namesOf ps → valL (ovsOf ps) (.text c) = some (optD (overOf ps c))
  | [], c, h => by cases h
  | p :: r, c, h => by
    by_cases e : p.1 = c
    · rw [overOf_cons_pos e]
      exact valL_pos (p := (Leaf.text p.1, optD p.2)) (by rw [e])
    · rw [overOf_cons_neg e]
      refine (valL_neg (p := (Leaf.text p.1, optD p.2)) (fun h => e (by injection h))).trans (ovs_val ?_)
      rcases List.mem_cons.mp h with h | h
      · exact absurd h.symm e
      · exact h
theorem ovs_no {c : Str} (h : c ∉ namesOf ps) : valL (ovsOf ps) (.text c) = none := valL_none fun kv hk => by
  obtain ⟨p, hp, rfl⟩ := List.mem_map.mp hk
  intro e
  injection e with e
  exact h (List.mem_map.mpr ⟨p, hp, e⟩)
theorem ovs_is (c : Str) : (valL (ovsOf ps) (.text c)).isSome = decide (c ∈ namesOf ps) := by
  by_cases h : c ∈ namesOf ps
  · rw [ovs_val h, decide_eq_true h]; rfl
  · rw [ovs_no h, decide_eq_false h]; rfl
theorem kds_none : valL (kdsOf ps) .none = some (namesD (kidsOf ps none)) := valL_pos rfl
theorem kds_val {c : Str} (h : c ∈ namesOf ps) : valL (kdsOf ps) (.text c) = some (namesD (kidsOf ps (some c))) := by
  unfold kdsOf
  rw [valL_neg (by intro e; cases e)]
  obtain ⟨p, hp, rfl⟩ := List.mem_map.mp h
  exact valL_map (f := fun p : Str × Option Str => Leaf.text p.1) (g := fun p => namesD (kidsOf ps (some p.1))) (fun y z e => by injection e with e; simp only [e]) hp
end
section
variable {Z : Zn} {ρ : Ro} {M : Mu} {Q2 : DQ} {kvs : KVs} {e : DV}
theorem wr_ixS' {c : Str} (hv : valL kvs (.text c) = some e) (h : Q2 e M) : WR Z (rIxF Z.W) (dlD kvs) (.s c) M Q2 := wr_ixF (k := .text c) (.inl rfl) hv h
theorem wr_ixN (hv : valL kvs .none = some e) (h : Q2 e M) : WR Z (rIxF Z.W) (dlD kvs) .n M Q2 := wr_ixF (k := .none) (.inl rfl) hv h
theorem wr_niSF {c : Str} (h : Q2 (.b (!(valL kvs (.text c)).isSome)) M) : WR Z (rInF Z.W true) (.s c) (dlD kvs) M Q2 := wr_inF' (k := .text c) (neg := true) (.inl rfl) h
theorem wr_niOvs {c : Str} {ps : Prs} (h : Q2 (.b (!decide (c ∈ namesOf ps))) M) : WR Z (rInF Z.W true) (.s c) (dlD (ovsOf ps)) M Q2 := wr_niSF (by rw [ovs_is]; exact h)
end
end DL
set_option Elab.async false
set_option linter.all false
set_option maxRecDepth 100000
set_option maxHeartbeats 2000000
namespace DL
open PySem PySem.Spec PyProof.Rows L2
theorem len_sub {α : Type} [DecidableEq α] : ∀ {l m : List α}, l.Nodup → (∀ x ∈ l, x ∈ m) → l.length ≤ m.length
  | [], m, h, hs => Nat.zero_le _
  | x :: l, m, h, hs => by
    have hx := hs x List.mem_cons_self
    rw [List.nodup_cons] at h
    have := len_sub (l := l) (m := m.erase x) h.2 (fun y hy => (List.mem_erase_of_ne (show y ≠ x from fun e => h.1 (e ▸ hy))).mpr (hs y (List.mem_cons_of_mem _ hy)))
    rw [List.length_erase_of_mem hx] at this
    have h0 : 0 < m.length := List.length_pos_of_mem hx
    rw [List.length_cons]
    omega
theorem perm_nodup {α : Type} [DecidableEq α] : ∀ {l m : List α}, l.Nodup → m.Nodup → (∀ x, x ∈ l ↔ x ∈ m) → l.Perm m
  | [], m, h1, h2, h => by
    cases m with
    | nil => exact .refl _
    | cons y m => exact absurd ((h y).mpr List.mem_cons_self) (by simp)
  | x :: l, m, h1, h2, h => by
    have hx := (h x).mp List.mem_cons_self
    rw [List.nodup_cons] at h1
    have h3 : l.Perm (m.erase x) := perm_nodup h1.2 (h2.erase x) fun y => by
      rw [h2.mem_erase_iff]
      constructor
      · intro hy; exact ⟨fun e => h1.1 (e ▸ hy), (h y).mp (List.mem_cons_of_mem _ hy)⟩
      · rintro ⟨n, hy⟩
        rcases List.mem_cons.mp ((h y).mpr hy) with e | e
        · exact absurd e n
        · exact e
    exact (h3.cons x).trans (List.perm_cons_erase hx).symm
def up (ps : Prs) : Option Str → Option Str
  | none => none
  | some c => overOf ps c
def upN (ps : Prs) : Nat → Option Str → Option Str
  | 0, o => o
  | n + 1, o => upN ps n (up ps o)
section
variable {ps : Prs}
theorem upN_add : ∀ (i j : Nat) (o : Option Str), upN ps (i + j) o = upN ps j (upN ps i o)
  | 0, j, o => by rw [Nat.zero_add]; rfl
  | i + 1, j, o => by rw [Nat.succ_add]; exact upN_add i j (up ps o)
theorem upN_succ (i : Nat) (o : Option Str) : upN ps (i + 1) o = up ps (upN ps i o) := upN_add i 1 o
theorem overOf_no : ∀ {ps : Prs} {c : Str}, c ∉ namesOf ps → overOf ps c = none
  | [], c, h => rfl
  | p :: r, c, h => by
    have h1 : ¬ p.1 = c := fun e => h (List.mem_map.mpr ⟨p, List.mem_cons_self, e⟩)
    rw [overOf_cons_neg h1]
    exact overOf_no fun e => h (List.mem_cons_of_mem _ e)
theorem over_kid {c : Str} (h : c ∈ namesOf ps) : c ∈ kidsOf ps (overOf ps c) := mem_kids.mpr (overOf_in h)
theorem kid_over (t : Tr ps) {o : Option Str} {c : Str} (h : c ∈ kidsOf ps o) : overOf ps c = o := overOf_mem t.nodup (mem_kids.mp h)
theorem rk_up (t : Tr ps) (o : Option Str) : rk ps o ≤ rk ps (up ps o) := by
  cases o with
  | none => exact Nat.le_refl _
  | some c =>
    by_cases h : c ∈ namesOf ps
    · exact Nat.le_of_lt (rk_kid t (over_kid h))
    · show rk ps (some c) ≤ rk ps (overOf ps c)
      rw [overOf_no h]
      exact rk_le _
theorem rk_upN (t : Tr ps) : ∀ (n : Nat) (o : Option Str), rk ps o ≤ rk ps (upN ps n o)
  | 0, o => Nat.le_refl _
  | n + 1, o => Nat.le_trans (rk_up t o) (rk_upN t n (up ps o))
theorem ord_up (t : Tr ps) : ∀ {n : Nat} {o : Option Str} {x : Str}, x ∈ ordF ps n o → ∃ k c, c ∈ kidsOf ps o ∧ upN ps k (some x) = some c
  | 0, o, x, h => by cases h
  | n + 1, o, x, h => by
    obtain ⟨c, hc, hx⟩ := List.mem_flatMap.mp h
    rcases List.mem_cons.mp hx with rfl | hx
    · exact ⟨0, x, hc, rfl⟩
    · obtain ⟨k, d, hd, hk⟩ := ord_up t hx
      refine ⟨k + 1, c, hc, ?_⟩
      rw [upN_succ, hk]
      exact kid_over t hd
theorem kids_nodup (t : Tr ps) (o : Option Str) : (kidsOf ps o).Nodup := by
  have h : (kidsOf ps o).Sublist (namesOf ps) := List.Sublist.map _ List.filter_sublist
  exact h.nodup t.nodup
theorem same_kid (t : Tr ps) {o : Option Str} {c d x : Str} (hc : c ∈ kidsOf ps o) (hd : d ∈ kidsOf ps o) {i j : Nat} (hi : upN ps i (some x) = some c) (hj : upN ps j (some x) = some d) : c = d := by
  have key : ∀ {c d : Str} {i j : Nat}, c ∈ kidsOf ps o → d ∈ kidsOf ps o → upN ps i (some x) = some c → upN ps j (some x) = some d → i ≤ j → c = d := by
    intro c d i j hc hd hi hj hij
    obtain ⟨m, rfl⟩ := Nat.le.dest hij
    rw [upN_add, hi] at hj
    cases m with
    | zero => injection hj
    | succ m =>
      have h1 : upN ps m (up ps (some c)) = some d := hj
      rw [show up ps (some c) = o from kid_over t hc] at h1
      have h2 := rk_upN t m o
      rw [h1] at h2
      have h3 := rk_kid t hd
      omega
  rcases Nat.le_total i j with h | h
  · exact key hc hd hi hj h
  · exact (key hd hc hj hi h).symm
theorem nodup_flatMap {α β : Type} {f : α → List β} : ∀ {l : List α}, l.Nodup → (∀ x ∈ l, (f x).Nodup) → (∀ x ∈ l, ∀ y ∈ l, x ≠ y → ∀ z, z ∈ f x → z ∈ f y → False) → (l.flatMap f).Nodup
  | [], _, _, _ => List.nodup_nil
  | x :: l, h, h1, h2 => by
    rw [List.nodup_cons] at h
    rw [List.flatMap_cons, List.nodup_append]
    refine ⟨h1 x List.mem_cons_self, nodup_flatMap h.2 (fun y hy => h1 y (List.mem_cons_of_mem _ hy)) (fun y hy z hz => h2 y (List.mem_cons_of_mem _ hy) z (List.mem_cons_of_mem _ hz)), ?_⟩
    intro a ha b hb e
    subst e
    obtain ⟨y, hy, hb⟩ := List.mem_flatMap.mp hb
    exact h2 x List.mem_cons_self y (List.mem_cons_of_mem _ hy) (fun e => h.1 (e ▸ hy)) a ha hb
theorem ordF_nodup (t : Tr ps) : ∀ (n : Nat) (o : Option Str), (ordF ps n o).Nodup
  | 0, o => List.nodup_nil
  | n + 1, o => by
    refine nodup_flatMap (kids_nodup t o) (fun c hc => ?_) fun c hc d hd ne z h1 h2 => ne ?_
    · rw [List.nodup_cons]
      refine ⟨fun h => ?_, ordF_nodup t n (some c)⟩
      obtain ⟨k, d, hd, hk⟩ := ord_up t h
      have h1 := rk_upN t k (some c)
      rw [hk] at h1
      have h2 := rk_kid t hd
      omega
    · have e1 : ∀ c, c ∈ kidsOf ps o → z ∈ c :: ordF ps n (some c) → ∃ k, upN ps k (some z) = some c := by
        intro c hc hz
        rcases List.mem_cons.mp hz with rfl | hz
        · exact ⟨0, rfl⟩
        · obtain ⟨k, d, hd, hk⟩ := ord_up t hz
          exact ⟨k + 1, by rw [upN_succ, hk]; exact kid_over t hd⟩
      obtain ⟨i, hi⟩ := e1 c hc h1
      obtain ⟨j, hj⟩ := e1 d hd h2
      exact same_kid t hc hd hi hj
theorem ord_nodup (t : Tr ps) (o : Option Str) : (ord ps o).Nodup := ordF_nodup t _ o
theorem beneath_nodup (t : Tr ps) (c : Str) : (c :: ord ps (some c)).Nodup := by
  rw [List.nodup_cons]
  refine ⟨fun h => ?_, ord_nodup t _⟩
  obtain ⟨k, d, hd, hk⟩ := ord_up t h
  have h1 := rk_upN t k (some c)
  rw [hk] at h1
  have h2 := rk_kid t hd
  omega
theorem ordF_names : ∀ {n : Nat} {o : Option Str} {x : Str}, x ∈ ordF ps n o → x ∈ namesOf ps
  | 0, o, x, h => by cases h
  | n + 1, o, x, h => by
    obtain ⟨c, hc, hx⟩ := List.mem_flatMap.mp h
    rcases List.mem_cons.mp hx with rfl | hx
    · exact kids_names hc
    · exact ordF_names hx
theorem ord_names {o : Option Str} {x : Str} (h : x ∈ ord ps o) : x ∈ namesOf ps := ordF_names h
theorem ord_len (t : Tr ps) (o : Option Str) : (ord ps o).length ≤ ps.length := by
  rw [← names_len]
  exact len_sub (ord_nodup t o) fun x h => ord_names h
theorem beneath_len (t : Tr ps) {c : Str} (h : c ∈ namesOf ps) : (c :: ord ps (some c)).length ≤ ps.length := by
  rw [← names_len]
  refine len_sub (beneath_nodup t c) fun x hx => ?_
  rcases List.mem_cons.mp hx with rfl | hx
  · exact h
  · exact ord_names hx
theorem ord_kid (t : Tr ps) {o : Option Str} {c : Str} (h : c ∈ kidsOf ps o) : c ∈ ord ps o := by
  rw [ord_eq t]
  exact List.mem_flatMap.mpr ⟨c, h, List.mem_cons_self⟩
theorem ordF_step (t : Tr ps) : ∀ {n : Nat} {o : Option Str} {c d : Str}, d ∈ ordF ps n o → c ∈ kidsOf ps (some d) → c ∈ ordF ps (n + 1) o
  | 0, o, c, d, h, hc => by cases h
  | n + 1, o, c, d, h, hc => by
    obtain ⟨k, hk, hd⟩ := List.mem_flatMap.mp h
    refine List.mem_flatMap.mpr ⟨k, hk, List.mem_cons_of_mem _ ?_⟩
    rcases List.mem_cons.mp hd with rfl | hd
    · exact List.mem_flatMap.mpr ⟨c, hc, List.mem_cons_self⟩
    · exact ordF_step t hd hc
theorem ord_step (t : Tr ps) {o : Option Str} {c d : Str} (h : d ∈ ord ps o) (hc : c ∈ kidsOf ps (some d)) : c ∈ ord ps o := by
  have := ordF_step t h hc
  rw [ordF_more t (rk_le o) (Nat.le_succ _)] at this
  exact this
theorem ord_all (t : Tr ps) : ∀ (n : Nat) {c : Str}, c ∈ namesOf ps → ps.length ≤ rk ps (some c) + n → c ∈ ord ps none
  | 0, c, h, hn => by
    have h1 := rk_kid t (over_kid h)
    have h2 := rk_le (ps := ps) (overOf ps c)
    omega
  | n + 1, c, h, hn => by
    have hk := over_kid h
    have h1 := rk_kid t hk
    cases e : overOf ps c with
    | none => rw [e] at hk; exact ord_kid t hk
    | some d =>
      rw [e] at hk h1
      have hd : d ∈ namesOf ps := by
        obtain ⟨i, hi⟩ := List.getElem?_of_mem (mem_kids.mp hk)
        have := (t.pair hi).ov d rfl
        rw [show namesOf (ps.take i) = (namesOf ps).take i by simp [namesOf]] at this
        exact List.mem_of_mem_take this
      exact ord_step t (ord_all t n hd (by omega)) hk
theorem ord_mem (t : Tr ps) {c : Str} : c ∈ ord ps none ↔ c ∈ namesOf ps := ⟨ord_names, fun h => ord_all t ps.length h (by omega)⟩
theorem ord_perm (t : Tr ps) : (ord ps none).Perm (namesOf ps) := perm_nodup (ord_nodup t none) t.nodup fun _ => ord_mem t
end
end DL
set_option Elab.async false
set_option linter.all false
set_option maxRecDepth 100000
set_option maxHeartbeats 2000000
namespace DL
open PySem PySem.Spec PyProof.Rows L2
def addK (k : Leaf) (d : DV) (e : Kid) : Kid := if e.key = k then { e with ds := e.ds ++ [d] } else e
theorem addK_key (k : Leaf) (d : DV) (e : Kid) : (addK k d e).key = e.key := by unfold addK; split <;> rfl
theorem addK_at (k : Leaf) (d : DV) (e : Kid) : (addK k d e).at_ = e.at_ := by unfold addK; split <;> rfl
section
variable {M M0 : Mu} {x o k C : Addr} {ns : List Str} {ovs ovs' : KVs} {b : List Kid}
theorem TCells.fresh (c : TCells M M0 x o k C ns ovs b) {q : Addr} (h : M q = none) : q ≠ x ∧ q ≠ o ∧ q ≠ k ∧ (∀ e ∈ b, q ≠ e.at_) ∧ M0 q = none := by
  have h1 : q ≠ x := fun e => by rw [e, c.hx] at h; cases h
  have h2 : q ≠ o := fun e => by rw [e, c.ho] at h; cases h
  have h3 : q ≠ k := fun e => by rw [e, c.hk] at h; cases h
  have h4 : ∀ e ∈ b, q ≠ e.at_ := fun e he e' => by rw [e', c.hb e he] at h; cases h
  exact ⟨h1, h2, h3, h4, by rw [← c.out q h1 h2 h3 h4]; exact h⟩
theorem TCells.setO (c : TCells M M0 x o k C ns ovs b) : TCells (updM M o (dlM ovs')) M0 x o k C ns ovs' b where
  hx := by rw [updM_ne (Ne.symm c.ox)]; exact c.hx
  ho := updM_same
  hk := by rw [updM_ne (Ne.symm c.ok)]; exact c.hk
  hb := fun e he => by rw [updM_ne (c.bx e he).2.1]; exact c.hb e he
  out := fun q h1 h2 h3 h4 => by rw [updM_ne h2]; exact c.out q h1 h2 h3 h4
  fo := c.fo
  fk := c.fk
  fb := c.fb
  ox := c.ox
  kx := c.kx
  ok := c.ok
  bx := c.bx
  dis := c.dis
theorem TCells.newKid (c : TCells M M0 x o k C ns ovs b) {q : Addr} (h : M q = none) (key : Leaf) : TCells (updM (updM M q (.lst [])) k (dlM (kidsR b ++ [(key, .r q)]))) M0 x o k C ns ovs (b ++ [⟨key, q, []⟩]) := by
  obtain ⟨f1, f2, f3, f4, f5⟩ := c.fresh h
  exact {
    hx := by rw [updM_ne (Ne.symm c.kx), updM_ne (Ne.symm f1)]; exact c.hx
    ho := by rw [updM_ne c.ok, updM_ne (Ne.symm f2)]; exact c.ho
    hk := by rw [updM_same]; simp [kidsR]
    hb := fun e he => by
      rcases List.mem_append.mp he with he | he
      · rw [updM_ne (c.bx e he).2.2, updM_ne (Ne.symm (f4 e he))]; exact c.hb e he
      · rw [List.mem_singleton.mp he, updM_ne f3, updM_same]
    out := fun q' h1 h2 h3 h4 => by
      rw [updM_ne h3, updM_ne (h4 ⟨key, q, []⟩ (List.mem_append.mpr (.inr (List.mem_singleton.mpr rfl))))]
      exact c.out q' h1 h2 h3 fun e he => h4 e (List.mem_append.mpr (.inl he))
    fo := c.fo
    fk := c.fk
    fb := fun e he => by
      rcases List.mem_append.mp he with he | he
      · exact c.fb e he
      · rw [List.mem_singleton.mp he]; exact f5
    ox := c.ox
    kx := c.kx
    ok := c.ok
    bx := fun e he => by
      rcases List.mem_append.mp he with he | he
      · exact c.bx e he
      · rw [List.mem_singleton.mp he]; exact ⟨f1, f2, f3⟩
    dis := by
      rw [List.pairwise_append]
      refine ⟨c.dis, List.pairwise_singleton _ _, fun e he f hf => ?_⟩
      rw [List.mem_singleton.mp hf]
      exact Ne.symm (f4 e he) }
theorem pair_ne {α β : Type} {f : α → β} : ∀ {l : List α}, l.Pairwise (fun e g => f e ≠ f g) → ∀ {e g : α}, e ∈ l → g ∈ l → f e = f g → e = g
  | [], h, e, g, he, hg, q => by cases he
  | y :: l, h, e, g, he, hg, q => by
    rw [List.pairwise_cons] at h
    rcases List.mem_cons.mp he with rfl | he
    · rcases List.mem_cons.mp hg with rfl | hg
      · rfl
      · exact absurd q (h.1 g hg)
    · rename_i he'
      rcases List.mem_cons.mp hg with hg | hg
      · rw [hg] at q; exact absurd q.symm (h.1 e (by assumption))
      · exact pair_ne h.2 (by assumption) hg q
theorem valL_kid : ∀ {b : List Kid} {e : Kid}, (b.map (·.key)).Nodup → e ∈ b → valL (kidsR b) e.key = some (.r e.at_)
  | [], e, hn, he => by cases he
  | f :: b, e, hn, he => by
    rw [List.map_cons, List.nodup_cons] at hn
    rcases List.mem_cons.mp he with rfl | he
    · exact valL_pos (p := (e.key, DV.r e.at_)) rfl
    · refine (valL_neg (p := (f.key, DV.r f.at_)) (fun h => hn.1 ?_)).trans (valL_kid hn.2 he)
      exact List.mem_map.mpr ⟨e, he, h.symm⟩
theorem key_inj {b : List Kid} (hn : (b.map (·.key)).Nodup) {e f : Kid} (he : e ∈ b) (hf : f ∈ b) (h : e.key = f.key) : e = f :=
  pair_ne (f := Kid.key) (List.pairwise_map.mp hn) he hf h
theorem TCells.add (c : TCells M M0 x o k C ns ovs b) (hn : (b.map (·.key)).Nodup) {e : Kid} (he : e ∈ b) (d : DV) : TCells (updM M e.at_ (.lst (e.ds ++ [d]))) M0 x o k C ns ovs (b.map (addK e.key d)) := by
  obtain ⟨b1, b2, b3⟩ := c.bx e he
  exact {
    hx := by rw [updM_ne (Ne.symm b1)]; exact c.hx
    ho := by rw [updM_ne (Ne.symm b2)]; exact c.ho
    hk := by
      rw [updM_ne (Ne.symm b3)]
      have : kidsR (b.map (addK e.key d)) = kidsR b := by simp [kidsR, addK_key, addK_at]
      rw [this]; exact c.hk
    hb := fun f hf => by
      obtain ⟨f', hf', rfl⟩ := List.mem_map.mp hf
      rw [addK_at]
      by_cases h : f' = e
      · subst h
        rw [updM_same]
        simp [addK]
      · have h1 : f'.at_ ≠ e.at_ := fun q => h (pair_ne c.dis hf' he q)
        have h2 : f'.key ≠ e.key := fun q => h (key_inj hn hf' he q)
        rw [updM_ne h1]
        simp only [addK, if_neg h2]
        exact c.hb f' hf'
    out := fun q h1 h2 h3 h4 => by
      rw [updM_ne (by have := h4 _ (List.mem_map.mpr ⟨e, he, rfl⟩); rw [addK_at] at this; exact this)]
      exact c.out q h1 h2 h3 fun f hf => by
        have := h4 _ (List.mem_map.mpr ⟨f, hf, rfl⟩)
        rw [addK_at] at this
        exact this
    fo := c.fo
    fk := c.fk
    fb := fun f hf => by
      obtain ⟨f', hf', rfl⟩ := List.mem_map.mp hf
      rw [addK_at]; exact c.fb f' hf'
    ox := c.ox
    kx := c.kx
    ok := c.ok
    bx := fun f hf => by
      obtain ⟨f', hf', rfl⟩ := List.mem_map.mp hf
      rw [addK_at]; exact c.bx f' hf'
    dis := by
      rw [List.pairwise_map]
      exact c.dis.imp fun {u v} h => by rw [addK_at, addK_at]; exact h }
end
section
variable {acc : Prs} {p : Str × Option Str} {b : List Kid}
def appD : DV → DV → DV
  | .lst ds, d => .lst (ds ++ [d])
  | x, _ => x
def addF (k : Leaf) (d : DV) (kv : Leaf × DV) : Leaf × DV := if kv.1 = k then (kv.1, appD kv.2 d) else kv
theorem kidsF_add (k : Leaf) (d : DV) (b : List Kid) : kidsF (b.map (addK k d)) = (kidsF b).map (addF k d) := by
  simp only [kidsF, List.map_map]
  refine List.map_congr_left fun e _ => ?_
  simp only [Function.comp_def, addK, addF]
  by_cases h : e.key = k
  · simp [if_pos h, appD]
  · simp [if_neg h]
theorem kidsOf_snoc (o : Option Str) : kidsOf (acc ++ [p]) o = kidsOf acc o ++ (if p.2 = o then [p.1] else []) := by
  simp only [kidsOf, List.filter_append, List.map_append]
  congr 1
  by_cases h : p.2 = o
  · simp [h]
  · simp [h]
theorem kids_new (t : Tr acc) {c : Str} (h : c ∉ namesOf acc) : kidsOf acc (some c) = [] := by
  cases e : kidsOf acc (some c) with
  | nil => rfl
  | cons d l =>
    have hd : d ∈ kidsOf acc (some c) := by rw [e]; exact List.mem_cons_self
    obtain ⟨i, hi⟩ := List.getElem?_of_mem (mem_kids.mp hd)
    have := (t.pair hi).ov c rfl
    rw [show namesOf (acc.take i) = (namesOf acc).take i by simp [namesOf]] at this
    exact absurd (List.mem_of_mem_take this) h
theorem addF_opt (o o' : Option Str) (c : Str) (zs : List Str) : addF (optL o) (.s c) (optL o', namesD zs) = (optL o', namesD (zs ++ if o = o' then [c] else [])) := by
  unfold addF
  by_cases h : o = o'
  · subst h
    simp [appD, namesD]
  · rw [if_neg (fun e => h (optL_inj e).symm), if_neg h, List.append_nil]
theorem kds_step (t : Tr acc) (ok : okPair (namesOf acc) p) : (kdsOf acc ++ [(Leaf.text p.1, DV.lst [])]).map (addF (optL p.2) (.s p.1)) = kdsOf (acc ++ [p]) := by
  have h0 := addF_opt p.2 none p.1 (kidsOf acc none)
  have h1 : ∀ q : Str × Option Str, addF (optL p.2) (.s p.1) (Leaf.text q.1, namesD (kidsOf acc (some q.1))) = (Leaf.text q.1, namesD (kidsOf (acc ++ [p]) (some q.1))) := fun q => by
    have := addF_opt p.2 (some q.1) p.1 (kidsOf acc (some q.1))
    rw [kidsOf_snoc]
    exact this
  have h2 : addF (optL p.2) (.s p.1) (Leaf.text p.1, DV.lst []) = (Leaf.text p.1, namesD (kidsOf (acc ++ [p]) (some p.1))) := by
    rw [← h1 p, kids_new t ok.new]
    rfl
  unfold kdsOf
  rw [List.map_append, List.map_cons, List.map_cons, List.map_nil, List.map_map, h2, List.map_append, List.map_cons, List.map_nil]
  have h3 : addF (optL p.2) (.s p.1) (Leaf.none, namesD (kidsOf acc none)) = (Leaf.none, namesD (kidsOf (acc ++ [p]) none)) := by
    rw [kidsOf_snoc]; exact h0
  rw [h3]
  have h4 : List.map (addF (optL p.2) (DV.s p.1) ∘ fun p => (Leaf.text p.1, namesD (kidsOf acc (some p.1)))) acc = List.map (fun p_1 => (Leaf.text p_1.1, namesD (kidsOf (acc ++ [p]) (some p_1.1)))) acc := List.map_congr_left fun q _ => h1 q
  rw [h4]
  rfl
theorem kids_keys (h : kidsF b = kdsOf acc) : b.map (·.key) = .none :: acc.map fun p => .text p.1 := by
  have : (kidsF b).map (·.1) = (kdsOf acc).map (·.1) := by rw [h]
  simpa [kidsF, kdsOf, Function.comp_def] using this
theorem ovs_snoc (ok : okPair (namesOf acc) p) : putL (ovsOf acc) (.text p.1) (optD p.2) = ovsOf (acc ++ [p]) := by
  rw [putL_new _ (ovs_no ok.new)]
  simp [ovsOf]
theorem TrF.snoc : ∀ {acc : Prs} {told : List Str}, TrF told acc → okPair (told ++ namesOf acc) p → TrF told (acc ++ [p])
  | [], told, h, ok => ⟨by simpa [namesOf] using ok, trivial⟩
  | q :: acc, told, h, ok => ⟨h.1, TrF.snoc h.2 (by simpa [namesOf] using ok)⟩
theorem Tr.snoc (t : Tr acc) (hl : acc.length < 8) (ok : okPair (namesOf acc) p) : Tr (acc ++ [p]) := ⟨by simp; omega, t.ok.snoc (by simpa using ok)⟩
theorem Tr.nil : Tr [] := ⟨by decide, trivial⟩
end
def pairOver (told : List Str) (c : Str) : DV → Option (Str × Option Str)
  | .v .non => some (c, none)
  | .v (.str o) => if nameB o = true ∧ o ∈ told then some (c, some o) else none
  | _ => none
def pairOf (told : List Str) : DV → Option (Str × Option Str)
  | .tup [.v (.str c), e] => if nameB c = true ∧ c ∉ told then pairOver told c e else none
  | _ => none
theorem pairOf_ok {told : List Str} {d : DV} {p : Str × Option Str} (h : pairOf told d = some p) : okPair told p ∧ d = .tup [.s p.1, optD p.2] := by
  unfold pairOf at h
  split at h
  · rename_i c e
    split at h
    · rename_i hc
      unfold pairOver at h
      split at h
      · cases h
        exact ⟨⟨hc.1, hc.2, fun _ h => by cases h⟩, rfl⟩
      · split at h
        · rename_i ho
          cases h
          exact ⟨⟨hc.1, hc.2, fun _ h => by cases h; exact ho.2⟩, rfl⟩
        · cases h
      · cases h
    · cases h
  · cases h
theorem pairOf_of {told : List Str} {p : Str × Option Str} (ok : okPair told p) (hn : ∀ c ∈ told, nameB c = true) : pairOf told (.tup [.s p.1, optD p.2]) = some p := by
  obtain ⟨c, o⟩ := p
  show (if nameB c = true ∧ c ∉ told then pairOver told c (optD o) else none) = _
  rw [if_pos ⟨ok.nm, ok.new⟩]
  cases o with
  | none => rfl
  | some d =>
    show (if nameB d = true ∧ d ∈ told then _ else _) = _
    rw [if_pos ⟨hn d (ok.ov d rfl), ok.ov d rfl⟩]
def readP : Prs → List DV → Int ⊕ Prs
  | acc, [] => .inr acc
  | acc, e :: es => if acc.length = 8 then .inl (acc.length : Nat) else match pairOf (namesOf acc) e with
    | none => .inl (acc.length : Nat)
    | some p => readP (acc ++ [p]) es
def treeM (M : Mu) (d : DV) : Int ⊕ Prs := match lstM M d with
  | none => .inl (-1)
  | some es => readP [] es
abbrev pairsD (ps : Prs) : List DV := ps.map fun p => .tup [.s p.1, optD p.2]
theorem readP_of : ∀ {qs acc : Prs}, Tr (acc ++ qs) → readP acc (pairsD qs) = .inr (acc ++ qs)
  | [], acc, t => by simp [readP]
  | p :: qs, acc, t => by
    have hl := t.len
    rw [List.length_append, List.length_cons] at hl
    have hp := t.pair (i := acc.length) (p := p) (by simp)
    rw [List.take_left] at hp
    have hn : ∀ c ∈ namesOf acc, nameB c = true := fun c hc => t.name (by simp [namesOf] at hc ⊢; exact .inl hc)
    show (if acc.length = 8 then _ else match pairOf (namesOf acc) (.tup [.s p.1, optD p.2]) with | none => _ | some p => readP (acc ++ [p]) (pairsD qs)) = _
    rw [if_neg (by omega), pairOf_of hp hn]
    have := readP_of (qs := qs) (acc := acc ++ [p]) (by simpa using t)
    simpa using this
end DL
set_option Elab.async false
set_option linter.all false
set_option maxRecDepth 100000
set_option maxHeartbeats 2000000
namespace DL
open PySem PySem.Spec PyProof.Rows L2
def Frz (W : Wd) (M M' : Mu) : Prop := ∀ G F H, Rep W G M F H → ∃ G', Same G G' ∧ Rep W G' M' F H
section
variable {W : Wd} {Z : Zn} {G F H : Hp} {ρ : Ro} {M M' M2 M0 : Mu} {x o k r C : Addr} {ns : List Str} {ds l : List DV} {ovs : KVs} {b : List Kid} {Q2 : DQ}
theorem Frz.trans (h : Frz W M M') (h' : Frz W M' M2) : Frz W M M2 := fun G F H R => by
  obtain ⟨G1, s1, R1⟩ := h G F H R
  obtain ⟨G2, s2, R2⟩ := h' G1 F H R1
  exact ⟨G2, s1.trans s2, R2⟩
theorem Frz.le (h : MLe M M') : Frz W M M' := fun G F H R => ⟨G, Same.refl G, R.weak h⟩
theorem ws_frzN {ts : TS} {D2 : Ends2} (h : WS Z ts { nx := fun ρ' M' => ∃ M2, Frz Z.W M' M2 ∧ D2.nx ρ' M2, rt := D2.rt, bk := D2.bk, ct := D2.ct } ρ M) : WS Z ts D2 ρ M := fun G σ H D s R E e =>
  h G σ H D s R E ⟨fun ρ' σ' G' M' H' s' R' E' ⟨M2, f, q⟩ => by
    obtain ⟨G2, s2, R2⟩ := f G' _ H' R'
    exact e.nx ρ' σ' G2 M2 H' (s'.trans s2) R2 (E'.mono s2) q, e.rt, e.bk, e.ct⟩
theorem Rep.relab {o o' : MO} (R : Rep W G M F H) (hm : M x = some o) (h : MAt W G H x o → MAt W G H x o') : Rep W G (updM M x o') F H where
  ex := R.ex
  fr := R.fr
  fd := fun q u hq => by
    obtain ⟨h1, h2⟩ := R.fd q u hq
    exact ⟨h1, by rw [updM_ne (fun e => by rw [e, hm] at h2; cases h2)]; exact h2⟩
  mu := fun q mo hq => by
    by_cases e : q = x
    · subst e
      rw [updM_same] at hq
      cases hq
      exact ⟨(R.mu q _ hm).1, h (R.mu q _ hm).2⟩
    · rw [updM_ne e] at hq
      exact R.mu q mo hq
theorem DatL.snoc_of : ∀ {ds : List DV} {d : DV} {xs : List V}, DatL W G (ds ++ [d]) xs → ∃ ys y, xs = ys ++ [y] ∧ DatL W G ds ys ∧ Dat W G d y
  | [], d, xs, h => by
    obtain ⟨y, r, rfl, h1, h2⟩ := datL_cons.mp h
    rw [datL_nil.mp h2]
    exact ⟨[], y, rfl, datL_nil', h1⟩
  | e :: ds, d, xs, h => by
    obtain ⟨y, r, rfl, h1, h2⟩ := datL_cons.mp h
    obtain ⟨ys, z, rfl, h3, h4⟩ := DatL.snoc_of h2
    exact ⟨y :: ys, z, rfl, datL_cons' h1 h3, h4⟩
theorem frz_last (hr : M r = none) (ne : r ≠ x) : Frz W (updM (updM M x (.ins C ns (ds ++ [.r r]))) r (.lst l)) (updM M x (.ins C ns (ds ++ [.lst l]))) := fun G F H R => by
  obtain ⟨G', s, R1, d1⟩ := R.freeze (a := r) (mo := .lst l) updM_same trivial
  rw [delM_updM (by rw [updM_ne ne]; exact hr)] at R1
  have d1' : Dat W G' (.lst l) (.ref r) := d1
  refine ⟨G', s, ?_⟩
  have := R1.relab (x := x) (o := .ins C ns (ds ++ [.r r])) (o' := .ins C ns (ds ++ [.lst l])) updM_same (fun ⟨dx, xs, h1, h2, h3⟩ => by
    obtain ⟨ys, y, rfl, h4, h5⟩ := DatL.snoc_of h3
    rw [dat_v.mp h5] at h1
    refine ⟨dx, ys ++ [.ref r], h1, by simpa using h2, h4.append (datL_cons' d1' datL_nil')⟩)
  rw [updM_upd] at this
  exact this
theorem TCells.frz (c : TCells M M0 x o k C ns ovs b) (hn : ns.length = 2) : Frz W M (updM M0 x (.ins C ns [dlD ovs, dlD (kidsF b)])) := fun G F H R => c.freeze hn R
theorem TCells.lst {d : DV} {es : List DV} {C' : Addr} {ns' : List Str} {ds' : List DV} (c : TCells M M0 x o k C ns ovs b) (h0 : M0 x = some (.ins C' ns' ds')) (l : LstOf M0 d es) : LstOf M d es := by
  rcases l with l | ⟨q, e, hq⟩
  · exact .inl l
  · refine .inr ⟨q, e, ?_⟩
    rw [c.out q (fun e => by rw [e, h0] at hq; cases hq) (fun e => by rw [e, c.fo] at hq; cases hq) (fun e => by rw [e, c.fk] at hq; cases hq) (fun f hf e => by rw [e, c.fb f hf] at hq; cases hq)]
    exact hq
theorem kdM_keep {d : DV} {k : Kd} (h : ∀ q ds, M0 q = some (.lst ds) → M q = some (.lst ds)) (hk : kdM M0 d = some k) : kdM M d = some k := by
  unfold kdM at hk
  split at hk
  all_goals first | (cases hk; rfl) | (cases hk; done) | skip
  rename_i q
  split at hk
  · rename_i ds e
    cases hk
    exact kd_r (h q ds e)
  · cases hk
theorem Kn.keep {d : DV} (h : ∀ q ds, M0 q = some (.lst ds) → M q = some (.lst ds)) (k : Kn M0 d) : Kn M d := ⟨k.1.elim fun k hk => ⟨k, kdM_keep h hk⟩, k.2⟩
theorem TCells.keep {C' : Addr} {ns' : List Str} {ds' : List DV} (c : TCells M M0 x o k C ns ovs b) (h0 : M0 x = some (.ins C' ns' ds')) : ∀ q ds, M0 q = some (.lst ds) → M q = some (.lst ds) := fun q ds hq => by
  rw [c.out q (fun e => by rw [e, h0] at hq; cases hq) (fun e => by rw [e, c.fo] at hq; cases hq) (fun e => by rw [e, c.fk] at hq; cases hq) (fun f hf e => by rw [e, c.fb f hf] at hq; cases hq)]
  exact hq
theorem TCells.le (c : TCells M M0 x o k C ns ovs b) : MLe M (delM M0 x) := .of fun q => by
  by_cases e : q = x
  · subst e; exact .inl delM_same
  · rw [delM_ne e]
    cases hb : inB o k b q with
    | true => exact .inl (c.inM hb).2.1
    | false =>
      obtain ⟨a1, a2, a3⟩ := inB_no hb
      exact .inr (c.out q e a1 a2 a3)
theorem TCells.start {q : Addr} (ho : M0 o = none) (hk : M0 k = none) (hq : M0 q = none) (ox : o ≠ x) (kx : k ≠ x) (qx : q ≠ x) (ok : o ≠ k) (qo : q ≠ o) (qk : q ≠ k) (hM : ∀ y, M y = if y = x then some (.ins C ns [.r o, .r k]) else if y = k then some (dlM [(.none, .r q)]) else if y = q then some (.lst []) else if y = o then some (dlM []) else M0 y) :
    TCells M M0 x o k C ns (ovsOf []) [⟨.none, q, []⟩] where
  hx := by rw [hM]; simp
  ho := by rw [hM]; simp [ox, ok, Ne.symm qo, ovsOf]
  hk := by rw [hM]; simp [kx, kidsR]
  hb := fun e he => by rw [List.mem_singleton.mp he, hM]; simp [qx, qk]
  out := fun y h1 h2 h3 h4 => by
    have := h4 _ (List.mem_singleton.mpr rfl)
    rw [hM, if_neg h1, if_neg h3, if_neg this, if_neg h2]
  fo := ho
  fk := hk
  fb := fun e he => by rw [List.mem_singleton.mp he]; exact hq
  ox := ox
  kx := kx
  ok := ok
  bx := fun e he => by rw [List.mem_singleton.mp he]; exact ⟨qx, qo, qk⟩
  dis := List.pairwise_singleton _ _
end
end DL
set_option Elab.async false
set_option linter.all false
set_option maxRecDepth 100000
set_option maxHeartbeats 2000000
namespace DL
open PySem PySem.Spec PyProof.Rows L2
def chr (c : Nat) : Str := ⟨#[c]⟩
end DL
set_option Elab.async false
set_option linter.all false
set_option maxRecDepth 100000
set_option maxHeartbeats 2000000
namespace DL
open PySem PySem.Spec PyProof.Rows L2
def okV : V → Bool
  | .byt _ => false
  | .flt _ => false
  | _ => true
section
variable {W : Wd} {Z : Zn} {G F H : Hp} {ρ : Ro} {M : Mu} {Q2 : DQ} {d e x y : DV} {ds : List DV} {vs : List V}
def See (Z : Zn) (d d' : DV) : Prop := ∀ G v, Same Z.G G → Dat Z.W G d v → Dat Z.W G d' v
theorem See.same : See Z d d := fun _ _ _ h => h
theorem See.lst (h : DatL Z.W Z.G ds vs) : See Z (.lst (vs.map DV.v)) (.lst ds) := fun G v s x => by
  obtain ⟨a, xs, rfl, h1, h2⟩ := dat_lst.mp x
  rw [datL_vs h2] at h1
  exact dat_lst.mpr ⟨a, vs, rfl, h1, h.mono s⟩
end
end DL
set_option Elab.async false
set_option linter.all false
set_option maxRecDepth 100000
set_option maxHeartbeats 2000000
namespace DL
open PySem PySem.Spec PyProof.Rows L2
section
variable {W : Wd} {Z : Zn} {G G' F H : Hp} {ρ : Ro} {M : Mu} {Q2 : DQ} {ns : List Str} {ds : List DV} {ts : TS} {D2 : Ends2}
theorem we_dnewK (h : Q2 (.dk [] []) M) : WE Z tDNewK ρ M Q2 := fun G σ H Q s R E r p hp =>
  r _ _ (upd G p (.dK [])) M _ (same_new (R.gnone hp)) (R.new hp) (dat_dk.mpr ⟨p, [], rfl, Rd.of (by unfold upd; rw [if_pos rfl]; rfl), rfl, datL_nil'⟩) h
def SeeR (Z : Zn) (ρ ρ' : Ro) : Prop := ∀ G σ, Same Z.G G → EnvOk Z.W G ρ σ → EnvOk Z.W G ρ' σ
theorem SeeR.set {i : Nat} {d e : DV} (hi : ρ[i]? = some (some d)) (hs : See Z d e) : SeeR Z ρ (ρ.set i (some e)) := fun G σ s E => by
  refine ⟨by simpa using E.len, fun j d' hj => ?_⟩
  by_cases ej : j = i
  · subst ej
    have hlt : j < ρ.length := (List.getElem?_eq_some_iff.mp hi).1
    rw [List.getElem?_set_self hlt] at hj
    cases hj
    obtain ⟨v, hv, dv⟩ := E.get j _ hi
    exact ⟨v, hv, hs G v s dv⟩
  · rw [List.getElem?_set_ne (Ne.symm ej)] at hj
    exact E.get j d' hj
end
theorem takeWhile_lt {α : Type} {p : α → Bool} : ∀ {l : List α}, l.all p = false → (l.takeWhile p).length < l.length
  | [], h => by simp at h
  | c :: l, h => by
    rw [List.all_cons, Bool.and_eq_false_iff] at h
    rw [List.takeWhile_cons]
    cases e : p c with
    | false => simp
    | true =>
      rw [e] at h
      have := takeWhile_lt (l := l) (h.resolve_left (by simp))
      simp only [if_true, List.length_cons]
      omega
theorem drop_takeWhile {α : Type} {p : α → Bool} : ∀ {l : List α}, l.all p = false → (l.drop (l.takeWhile p).length).all p = false
  | [], h => by simp at h
  | c :: l, h => by
    rw [List.all_cons, Bool.and_eq_false_iff] at h
    rw [List.takeWhile_cons]
    cases e : p c with
    | false => simp [e]
    | true =>
      rw [e] at h
      simpa using drop_takeWhile (l := l) (h.resolve_left (by simp))
theorem strip_all {x y : Str} (h : Txt.stripChars x y = ⟨#[]⟩) : x.cps.toList.all y.cps.contains = true := by
  cases e : x.cps.toList.all y.cps.contains with
  | true => rfl
  | false =>
    exfalso
    unfold Txt.stripChars at h
    rw [PySem.W.stripBy_eq] at h
    replace h : Builtin.Str.strSub x (stripLo y.cps.contains true x) (stripHi y.cps.contains true x (stripLo y.cps.contains true x)) = ⟨#[]⟩ := h
    have h1 := takeWhile_lt e
    have h2 := takeWhile_lt (p := y.cps.contains) (l := (x.cps.toList.drop (x.cps.toList.takeWhile y.cps.contains).length).reverse) (by rw [List.all_reverse]; exact drop_takeWhile e)
    have h3 := congrArg (fun z : Str => z.cps.size) h
    simp only [stripLo, stripHi, Builtin.Str.strSub, if_true, Array.size_extract, Str.length] at h3
    rw [List.length_reverse, List.length_drop] at h2
    simp only [Array.length_toList] at h1 h2
    have h4 : (#[] : Array Nat).size = 0 := rfl
    rw [h4] at h3
    omega
theorem nameB_iff {z : Str} : nameB z = true ↔ 1 ≤ z.length ∧ z.length ≤ 8 ∧ ∀ c ∈ z.cps.toList, c ∈ letters.cps.toList := by
  unfold nameB
  rw [Bool.and_eq_true, Bool.and_eq_true, decide_eq_true_eq, decide_eq_true_eq, decide_eq_true_eq]
  constructor
  · rintro ⟨h1, h2, h3⟩
    refine ⟨by omega, by omega, fun c hc => ?_⟩
    have h3 : Txt.stripChars z letters = ⟨#[]⟩ := by injection h3
    have := List.all_eq_true.mp (strip_all h3) c hc
    rw [Array.contains_iff_mem] at this
    exact Array.mem_toList_iff.mpr this
  · rintro ⟨h1, h2, h3⟩
    refine ⟨by omega, by omega, ?_⟩
    rw [strip_letters (List.all_eq_true.mpr fun c hc => by
      rw [Array.contains_iff_mem]
      exact Array.mem_toList_iff.mp (h3 c hc))]
    rfl
section
variable {W : Wd} {Z : Zn} {G G' F H : Hp} {ρ : Ro} {M : Mu} {ts : TS} {D2 : Ends2} {g : TG}
theorem loop_V {β : Type} {tr : TS} (is : List Nat) (R : β → Ro) (S : Nat → β → Mu) (I : Nat → β → Prop) (c : Nat) {n : Nat} {b0 : β} {items : List DV} (hI : I 0 b0) (h0 : wipe2 ρ is = R b0)
    (hs : ∀ i d m b, items[i]? = some d → m ≤ n + c * i → I i b → WG Z g d (R b) (S m b) fun ρ1 M1 => WS Z ts { nx := fun ρ2 M2 => ∃ m' b', wipe2 ρ2 is = R b' ∧ m' ≤ m + c ∧ I (i + 1) b' ∧ M2 = S m' b', rt := D2.rt, bk := fun ρ2 M2 => WS Z tr D2 ρ2 M2, ct := fun ρ2 M2 => ∃ m' b', wipe2 ρ2 is = R b' ∧ m' ≤ m + c ∧ I (i + 1) b' ∧ M2 = S m' b' } ρ1 M1)
    (hk : ∀ m b, m ≤ n + c * items.length → I items.length b → WS Z tr D2 (R b) (S m b)) : Loop Z g ts { nx := fun ρ' M' => WS Z tr D2 ρ' M', rt := D2.rt, bk := D2.bk, ct := D2.ct } items ρ (S n b0) := by
  refine loop_word (fun j ρ2 M2 => ∃ m b, wipe2 ρ2 is = R b ∧ m ≤ n + c * j ∧ I j b ∧ M2 = S m b) items 0 ρ _ ⟨n, b0, h0, by omega, hI, rfl⟩ (fun i d ρ2 M2 hi h => ?_) fun ρ2 M2 h => ?_
  · rw [Nat.zero_add] at h ⊢
    obtain ⟨m, b, h1, h2, h3, rfl⟩ := h
    refine wg_env is ?_
    rw [h1]
    have key : ∀ ρ2 M2, (∃ m' b', wipe2 ρ2 is = R b' ∧ m' ≤ m + c ∧ I (i + 1) b' ∧ M2 = S m' b') → (∃ m b, wipe2 ρ2 is = R b ∧ m ≤ n + c * (i + 1) ∧ I (i + 1) b ∧ M2 = S m b) :=
      fun ρ2 M2 ⟨m', b', g1, g2, g3, g4⟩ => ⟨m', b', g1, by rw [Nat.mul_add]; omega, g3, g4⟩
    exact (hs i d m b hi h2 h3).imp fun ρ1 M1 q => q.imp key (fun _ _ h => h) (fun _ _ h => h) key
  · rw [Nat.zero_add] at h
    obtain ⟨m, b, h1, h2, h3, rfl⟩ := h
    refine ws_env is ?_
    rw [h1]
    exact hk m b h2 h3
end
end DL
set_option Elab.async false
set_option linter.all false
set_option maxRecDepth 100000
set_option maxHeartbeats 2000000
namespace DL
open PySem PySem.Spec PyProof.Rows L2
def Told (Q2 : DQ) (M : Mu) (ds : List DV) : Prop := Q2 (.lst ds) M ∨ ∀ q, M q = none → Q2 (.r q) (updM M q (.lst ds))
section
variable {W : Wd} {Z : Zn} {ρ : Ro} {M : Mu} {Q2 : DQ} {te : TE} {ds : List DV} {d : DV}
theorem told_f (h : Q2 (.lst ds) M) : Told Q2 M ds := .inl h
theorem told_m (h : ∀ q, M q = none → Q2 (.r q) (updM M q (.lst ds))) : Told Q2 M ds := .inr h
theorem wc_listT (l : SqOf M d ds) (h : Told Q2 M ds) : WC Z (rListQ Z.W.K) [d] M Q2 := by
  rcases h with h | h
  · exact wc_listQ l h
  · exact wc_listQM l h
/-- a list that was filled is told -/
theorem we_told (h : WE Z te ρ M fun d M1 => ∃ q M2 ds, d = .r q ∧ M1 = updM M2 q (.lst ds) ∧ M2 q = none ∧ Told Q2 M2 ds) : WE Z te ρ M Q2 := fun G σ H Q s R E r =>
  h G σ H Q s R E fun d v G' M' H' s' R' dx ⟨q, M2, ds, e1, e2, hq, t⟩ => by
    subst e1 e2
    rcases t with t | t
    · obtain ⟨G3, s3, R3, x3⟩ := R'.freeze (updM_same) trivial
      rw [delM_updM hq] at R3
      exact r _ _ G3 _ H' (s'.trans s3) R3 (by rw [dat_v.mp dx]; exact x3) t
    · exact r _ _ G' _ H' s' R' dx (t q hq)
end
theorem decV {i j : Int} : decide (V.int i = V.int j) = decide (i = j) := by
  by_cases h : i = j
  · subst h; rw [decide_eq_true rfl, decide_eq_true rfl]
  · rw [decide_eq_false h, decide_eq_false fun e => h (by injection e)]
section
variable {ps : Prs}
def inT (ps : Prs) (o : Option Str) : Prop := ∀ c, o = some c → c ∈ namesOf ps
theorem inT_over (t : Tr ps) (c : Str) : inT ps (overOf ps c) := fun d e => by
  by_cases h : c ∈ namesOf ps
  · have := overOf_in h
    obtain ⟨i, hi⟩ := List.getElem?_of_mem this
    have h2 := (t.pair hi).ov d e
    obtain ⟨g, hg, rfl⟩ := List.mem_map.mp h2
    exact List.mem_map.mpr ⟨g, List.mem_of_mem_take hg, rfl⟩
  · rw [overOf_no h] at e
    cases e
end
def colT (ps : Prs) : DV → Option Str
  | .v (.str c) => if c ∈ namesOf ps then some c else none
  | _ => none
theorem colT_some {ps : Prs} {d : DV} {c : Str} (h : colT ps d = some c) : d = .s c ∧ c ∈ namesOf ps := by
  unfold colT at h
  split at h
  · split at h
    · cases h
      exact ⟨rfl, by assumption⟩
    · cases h
  · cases h
theorem colT_s {ps : Prs} {c : Str} (h : c ∈ namesOf ps) : colT ps (.s c) = some c := if_pos h
theorem colT_no {ps : Prs} {c : Str} (h : c ∉ namesOf ps) : colT ps (.s c) = none := if_neg h
end DL
set_option Elab.async false
set_option linter.all false
set_option maxRecDepth 100000
set_option maxHeartbeats 2000000
namespace DL
open PySem PySem.Spec PyProof.Rows L2
def tAs (t : TE) : TE := t
theorem pe_as {X : Cx} {e : Expr} {t : TE} (h : PE X e t) : PE X e (tAs t) := h
section
variable {W : Wd} {Z : Zn} {G F H : Hp} {ρ : Ro} {M : Mu} {Q2 : DQ} {te : TE} {tx : TA} {ds : List DV} {d : DV} {wi : TI} {g : TG} {tt : TT}
theorem we_as (h : WE Z te ρ M Q2) : WE Z (tAs te) ρ M Q2 := h
theorem we_asList (h : WA Z tx ρ M fun ds M1 => ∃ d es, ds = [d] ∧ SqOf M1 d es ∧ Told Q2 M1 es) : WE Z (tAs (tCB (rListQ Z.W.K) tx)) ρ M Q2 :=
  we_cb (h.imp fun ds M1 ⟨d, es, e, l, t⟩ => by subst e; exact wc_listT l t)
theorem we_asVar (h : WE Z te ρ M fun d M1 => ∃ q M2 ds, d = .r q ∧ M1 = updM M2 q (.lst ds) ∧ M2 q = none ∧ Told Q2 M2 ds) : WE Z (tAs te) ρ M Q2 := we_told h
theorem Rep.ofFrM {p : Addr} {xs : List V} (R : Rep W G M (upd F p (.lst xs)) H) (hf : F p = none) (hd : DatL W G ds xs) : Rep W G (updM M p (.lst ds)) F H := by
  have hp := R.fd p _ upd_same
  exact {
    ex := R.ex
    fr := fun a w e => R.fr a w (by rw [upd_ne (ne_of_none e hf)]; exact e)
    fd := fun a w e => by
      have ne := ne_of_none e hf
      rw [updM_ne ne]; exact R.fd a w (by rw [upd_ne ne]; exact e)
    mu := fun a w e => by
      by_cases h : a = p
      · subst h
        rw [updM_same] at e
        cases e
        exact ⟨hp.1, xs, R.fr a _ upd_same, hd⟩
      · rw [updM_ne h] at e
        exact R.mu a w e }
theorem we_asLc {is : List Nat} (hg : GOk g is) (h : WI Z wi ρ M fun items M1 => Comp Z g tt te (wipe2 ρ is) (fun acc M2 => Told Q2 M2 acc) items [] M1) : WE Z (tAs (tLc wi g tt te is)) ρ M Q2 := fun G σ H Q s R E r => by
  refine h G σ H _ s R E fun items J G1 M1 H1 s1 R1 it q => ?_
  intro D hD
  have fD : Z.F D = none := R1.fnone hD
  refine ⟨fun i m H' => ∃ G' M' acc accV, Same G1 G' ∧ Rep Z.W G' M' (upd Z.F D (.lst accV)) H' ∧ DatL Z.W G' acc accV ∧ i ≤ items.length ∧ m = items.length - i ∧ Comp Z g tt te (wipe2 ρ is) (fun acc M2 => Told Q2 M2 acc) (items.drop i) acc M',
    ⟨items.length, G1, M1, [], [], Same.refl G1, R1.toFr hD, datL_nil', Nat.zero_le _, rfl, q⟩, ?_⟩
  rintro i m H' ⟨G', M', acc, accV, sg, R', hacc, hi, rfl, lp⟩
  by_cases hlt : i < items.length
  · rw [drop_cons hlt] at lp
    obtain ⟨hz, lp⟩ := lp
    refine .inr ⟨it.go i G' _ M' H' sg R' hlt, fun H2 => ∃ G2 M2 acc2 acc2V, Same G1 G2 ∧ Rep Z.W G2 M2 (upd Z.F D (.lst acc2V)) H2 ∧ DatL Z.W G2 acc2 acc2V ∧ Comp Z g tt te (wipe2 ρ is) (fun acc M2 => Told Q2 M2 acc) (items.drop (i + 1)) acc2 M2, ?_, fun x H2 y => ?_⟩
    · rintro H2 ⟨G2, M2, acc2, acc2V, a1, a2, a3, a4⟩
      exact ⟨items.length - (i + 1), by omega, G2, M2, acc2, acc2V, a1, a2, a3, hlt, rfl, a4⟩
    · obtain ⟨G2, s2, R2, dx⟩ := it.yld i _ G' _ M' H' x H2 sg R' (List.getElem?_eq_getElem hlt) y
      have E2 : EnvOk Z.W G2 (wipe2 ρ is) (L2.wipe σ is) := ((E.mono s1).mono (sg.trans s2)).wipe is
      refine hg x σ (L2.wipe σ is) H2 _ (wipe_idem σ is) ?_
      refine lp (upd Z.F D (.lst accV)) G2 (L2.wipe σ is) H2 x _ ((s.trans s1).trans (sg.trans s2)) R2 E2 dx fun ρ3 σ3 G3 M3 H3 s3 R3 E3 q3 => ?_
      have s13 : Same G1 G3 := (sg.trans s2).trans s3
      refine q3 G3 σ3 H3 _ ((s.trans s1).trans s13) R3 E3 fun b G4 M4 H4 s4 R4 q4 => ?_
      cases b with
      | false => exact ⟨G4, M4, acc, accV, s13.trans s4, R4, hacc.mono ((s2.trans s3).trans s4), q4⟩
      | true =>
        refine q4 G4 σ3 H4 _ ((s.trans s1).trans (s13.trans s4)) R4 (E3.mono s4) fun yd yv G5 M5 H5 s5 R5 dy q5 => ?_
        have s25 : Same G' G5 := ((s2.trans s3).trans s4).trans s5
        refine ⟨accV, R5.fr D _ upd_same, by rw [hacc.length]; exact hz, ?_⟩
        exact ⟨G5, M5, acc ++ [yd], accV ++ [yv], sg.trans s25, R5.frSet, (hacc.mono s25).append (datL_cons' dy datL_nil'), q5⟩
  · have ei : i = items.length := by omega
    subst ei
    rw [List.drop_length] at lp
    refine .inl ⟨it.stop _ G' _ M' H' sg R' (Nat.le_refl _), ?_⟩
    have hD' := R'.fd D _ upd_same
    rcases lp with lp | lp
    · exact r _ _ (upd G' D (.lst accV)) M' H' ((s1.trans sg).trans (same_new hD'.1)) (R'.ofFr fD) (dat_lst.mpr ⟨D, accV, rfl, upd_same, hacc.mono (same_new hD'.1)⟩) lp
    · exact r _ _ G' _ H' (s1.trans sg) (R'.ofFrM fD hacc) dat_v' (lp D hD'.2)
end
end DL
set_option Elab.async false
set_option linter.all false
set_option maxRecDepth 100000
set_option maxHeartbeats 2000000
namespace DL
open PySem PySem.Spec PyProof.Rows L2
def optV : Option Str → V
  | none => .non
  | some c => .str c
theorem optD_v (o : Option Str) : optD o = .v (optV o) := by cases o <;> rfl
def ovV (ps : Prs) : List (Leaf × V) := ps.map fun p => (.text p.1, optV p.2)
theorem ovs_vKV (ps : Prs) : ovsOf ps = vKV (ovV ps) := by
  unfold ovsOf vKV ovV
  rw [List.map_map]
  exact List.map_congr_left fun p _ => by simp [optD_v]
theorem ovV_flat (ps : Prs) : flatF (ovV ps) := fun p hp => by
  obtain ⟨q, _, rfl⟩ := List.mem_map.mp hp
  cases h : q.2 <;> simp [h, optV, flatV]
theorem eqV_opt (o o' : Option Str) : eqV (optV o) (optV o') = decide (o = o') := by
  cases o with
  | none => cases o' <;> rfl
  | some c =>
    cases o' with
    | none => rfl
    | some d =>
      show (c == d) = _
      by_cases h : c = d
      · subst h; simp
      · rw [decide_eq_false (fun e => h (by cases e; rfl))]
        simpa using h
theorem ovV_val : ∀ {ps : Prs} {c : Str}, c ∈ namesOf ps → valV (ovV ps) (.text c) = some (optV (overOf ps c))
  | p :: r, c, h => by
    by_cases e : p.1 = c
    · rw [overOf_cons_pos e]
      exact valV_pos (p := (Leaf.text p.1, optV p.2)) (by rw [e])
    · rw [overOf_cons_neg e]
      rw [ovV, List.map_cons, valV_neg (p := (Leaf.text p.1, optV p.2)) (fun h => e (by injection h))]
      refine ovV_val ?_
      rcases List.mem_cons.mp h with h | h
      · exact absurd h.symm e
      · exact h
def Teq (ps qs : Prs) : Prop := ord ps none = ord qs none ∧ ∀ c ∈ namesOf ps, overOf ps c = overOf qs c
instance (ps qs : Prs) : Decidable (Teq ps qs) := by unfold Teq; infer_instance
theorem eqF_teq {ps qs : Prs} (t : Tr ps) (u : Tr qs) (h : ord ps none = ord qs none) : eqF (ovV ps) (ovV qs) = decide (∀ c ∈ namesOf ps, overOf ps c = overOf qs c) := by
  have hl : ps.length = qs.length := by
    have h1 := (ord_perm t).length_eq
    have h2 := (ord_perm u).length_eq
    rw [h, names_len] at h1
    rw [names_len] at h2
    omega
  unfold eqF
  rw [show (ovV ps).length = ps.length by simp [ovV], show (ovV qs).length = qs.length by simp [ovV], hl, beq_self_eq_true, Bool.true_and, Bool.eq_iff_iff, decide_eq_true_eq, List.all_eq_true]
  have hit : ∀ p ∈ ps, hitB (ovV qs) (.text p.1, optV p.2) = decide (overOf ps p.1 = overOf qs p.1) := fun p hp => by
    have hn : p.1 ∈ namesOf ps := List.mem_map.mpr ⟨p, hp, rfl⟩
    have hq : p.1 ∈ namesOf qs := (ord_mem u).mp (by rw [← h]; exact (ord_mem t).mpr hn)
    unfold hitB
    rw [ovV_val hq]
    show eqV (optV p.2) (optV (overOf qs p.1)) = _
    rw [eqV_opt, overOf_mem t.nodup (show (p.1, p.2) ∈ ps from hp)]
  constructor
  · intro k c hc
    obtain ⟨p, hp, rfl⟩ := List.mem_map.mp hc
    have := k _ (List.mem_map.mpr ⟨p, hp, rfl⟩)
    rw [hit p hp, decide_eq_true_eq] at this
    exact this
  · intro k x hx
    obtain ⟨p, hp, rfl⟩ := List.mem_map.mp hx
    rw [hit p hp, decide_eq_true_eq]
    exact k p.1 (List.mem_map.mpr ⟨p, hp, rfl⟩)
end DL
set_option Elab.async false
set_option linter.all false
set_option maxRecDepth 100000
set_option maxHeartbeats 4000000
namespace DL
open PySem PySem.Spec PyProof.Rows L2
def rTupAdd (K : PySem.W.Frag) : R2 := fun x y H Q => ∃ a b xs ys, x = .ref a ∧ y = .ref b ∧ SqT K H a xs ∧ SqT K H b ys ∧ xs.length + ys.length ≤ sizeLine ∧
  (xs = [] → Q (.ref b) H) ∧ (xs ≠ [] → ys = [] → Q (.ref a) H) ∧ (xs ≠ [] → ys ≠ [] → ∀ p, H p = none → Q (.ref p) (upd H p (.tup (xs ++ ys))))
section
variable {X : Cx} {K : PySem.W.Frag}
theorem cat_tup0 {prog : Program} {w : World} {A : Around} {E : Value → Shared → Prop} {s : Shared} {t b : Addr} {vs ws : List Value} {Q : Value → Shared → Prop} (ht : IsTup s.heap t vs.toArray) (hb : IsTup s.heap b ws.toArray) (hv : vs = [])
    (h : Q (.ref b) s) : wpAny (model prog w) A (binaryOp .Add (.ref t) (.ref b)) Q E s := by
  obtain ⟨⟨cls, dd, data, sl⟩, ho, hc, n, hd⟩ := id ht
  obtain ⟨⟨cls2, dd2, data2, sl2⟩, ho2, hc2, n2, hd2⟩ := id hb
  simp only at hc hd hc2 hd2
  subst hc hd hc2 hd2
  exact concat_meets ⟨_, ho, rfl⟩ ⟨_, ho2, rfl⟩ noFill_tuple_add seq_tuple_add PySem.F.slot_tuple_add PySem.F.entry_tuple_add (PySem.F.args_tuple_add_2 _ _)
      (tuple_addW0 t b vs.toArray ws.toArray n n2 dd dd2 sl sl2 (by simp [hv])) ⟨ho, ho2, h⟩
theorem k_addT (e : X.K = K) : OpR X (binaryOp .Add) (rTupAdd K) := by
  subst e
  intro pins s σ H x y v u Q I rx ry h
  obtain ⟨a, b, xs, ys, rfl, rfl, ha, hb, hz, q0, q1, q2⟩ := h
  cases rx
  cases ry
  obtain ⟨its, r1, p1, _⟩ := I.tuple ha
  obtain ⟨its2, r2, p2, _⟩ := I.tuple hb
  by_cases hx : xs = []
  · exact cat_tup0 p1 p2 (r1.nil_iff.mpr hx) ⟨.ref b, H, I, rfl, q0 hx⟩
  · refine HT.cat_tup p1 p2 (fun z => hx (r1.nil_iff.mp z)) (fun z => ⟨.ref a, H, I, rfl, q1 hx (r2.nil_iff.mp z)⟩) (fun z => ?_) (by rw [← r1.length, ← r2.length]; exact hz)
    refine ⟨.ref s.heap.objs.size, _, I.laid (t' := s.toks) (o := .tup (xs ++ ys)) (fun b ob q => Heap.get?_push_of_some _ q) (Nat.le_refl _) ?_, rfl, q2 hx (fun w => z (r2.nil_iff.mpr w)) _ (I.hok.fresh (Nat.le_refl _))⟩
    exact ⟨by rw [List.length_append]; exact hz, _, r1.append r2, IsTup.new _ _⟩
end
section
variable {W : Wd} {Z : Zn} {G F H : Hp} {M : Mu} {Q2 : DQ} {ds es : List DV} {v : V}
theorem Rep.newT {p : Addr} {xs : List V} (R : Rep W G M F H) (hp : H p = none) (hd : DatL W G ds xs) : Same G (upd G p (.tup xs)) ∧ Rep W (upd G p (.tup xs)) M F (upd H p (.tup xs)) ∧ Dat W (upd G p (.tup xs)) (.tup ds) (.ref p) :=
  ⟨same_new (R.gnone hp), R.new hp, dat_tup.mpr ⟨p, xs, rfl, .inl (Rd.of (by unfold upd; rw [if_pos rfl])), hd.mono (same_new (R.gnone hp))⟩⟩
theorem wr_tupAdd (hz : ds.length + es.length ≤ 1000000) (h : Q2 (.tup (ds ++ es)) M) : WR Z (rTupAdd Z.W.K) (.tup ds) (.tup es) M Q2 := fun G H vx vy Q s R dx dy r => by
  obtain ⟨a, xs, rfl, h1, h2⟩ := dat_tup.mp dx
  obtain ⟨b, ys, rfl, h3, h4⟩ := dat_tup.mp dy
  refine ⟨a, b, xs, ys, rfl, rfl, sqt_mono R.ex h1, sqt_mono R.ex h3, by rw [h2.length, h4.length]; exact le_size hz, fun e => ?_, fun _ e => ?_, fun _ _ p hp => ?_⟩
  · subst e
    have : ds = [] := List.length_eq_zero_iff.mp (by rw [← h2.length]; rfl)
    subst this
    exact r _ _ G M H (Same.refl G) R dy h
  · subst e
    have : es = [] := List.length_eq_zero_iff.mp (by rw [← h4.length]; rfl)
    subst this
    rw [List.append_nil] at h
    exact r _ _ G M H (Same.refl G) R dx h
  · obtain ⟨s1, R1, d1⟩ := R.newT hp (h2.append h4)
    exact r _ _ _ M _ s1 R1 d1 h
end
def rTupSl (K : PySem.W.Frag) : V → Option Int → Option Int → Hp → VK → Prop := fun x lo hi H Q => ∃ a xs, x = .ref a ∧ SqT K H a xs ∧
  ((HT.sIx xs.length 0 lo = 0 ∧ HT.sIx xs.length xs.length hi = xs.length) → Q (.ref a) H) ∧ (¬ (HT.sIx xs.length 0 lo = 0 ∧ HT.sIx xs.length xs.length hi = xs.length) → ∀ p, H p = none → Q (.ref p) (upd H p (.tup (cutV xs lo hi))))
theorem getItem_tuple_all {prog : Program} {w : World} {A : Around} {E : Value → Shared → Prop} {s : Shared} {t sl : Addr} {items : Array Value} {vl vu : Value} {lo hi : Option Int} {Q : Value → Shared → Prop} (ht : IsTup s.heap t items) (hs : s.heap.IsSliceOf sl vl vu .none) (pl : IsPart vl lo) (pu : IsPart vu hi)
    (hw : HT.sIx items.size 0 lo = 0 ∧ HT.sIx items.size items.size hi = items.size) (h : Q (.ref t) s) : wpAny (model prog w) A (getItem (.ref t) (.ref sl)) Q E s := by
  obtain ⟨os, hos, hcs, hds⟩ := id hs
  have hTs : s.TypeIs (.ref sl) "slice" := ⟨os, hos, hcs⟩
  unfold getItem
  try with_reducible refine wpAny_holding ?_
  first | refine wpAny_bind (wpAny_pure ?_) | skip
  refine wpAny_bind (wpAny_sequenceKey ht.typeIs (by decide) ?_)
  refine wpAny_bind (wpAny_callSpecial?_slot (name := Str.ofString "__getitem__") ht.typeIs PyProof.Rows.slot_tuple_getitem
    (wpAny_call_entry PyProof.Rows.slot_tuple_getitem ht.typeIs entry_tuple_getitem ?_ (args_tuple_getitem _ _)))
  show wpAny _ _ (Builtin.Tuple.tupleItemsOf (.ref t) >>= _) _ _ s
  refine wpAny_bind (tupleItemsOf_ ht ?_)
  refine wpAny_bind (wpAny_typeOf hTs ?_)
  rw [if_pos (by decide)]
  refine wpAny_bind (HT.sliceApplied_gen hs pl pu ?_)
  have hyes : ((((HT.sIx items.size 0 lo : Nat) : Int) == 0 && (1 : Int) == 1 && (HT.sIx items.size items.size hi - HT.sIx items.size 0 lo) == items.size) = true) := by
    rw [hw.1, hw.2]
    simp
  show wpAny _ _ (if (((HT.sIx items.size 0 lo : Nat) : Int) == 0 && (1 : Int) == 1 && (HT.sIx items.size items.size hi - HT.sIx items.size 0 lo) == items.size) = true then _ else _) _ _ s
  rw [if_pos hyes]
  refine wpAny_bind (m := Builtin.Tuple.tupleIsExact _) ?_
  unfold Builtin.Tuple.tupleIsExact
  refine wpAny_bind (wpAny_typeOf ht.typeIs (wpAny_pure ?_))
  rw [if_pos (by decide)]
  refine wpAny_bind (wpAny_rule ?_)
  exact wpAny_pure ⟨_, rfl, wpAny_pure h⟩
theorem k_slT {X : Cx} {K : PySem.W.Frag} (e : X.K = K) : SlR X (rTupSl K) := by
  subst e
  intro pins s σ H x v vl vu lo hi sl Q I rx hs pl pu h
  obtain ⟨a, xs, rfl, hx, q1, q2⟩ := h
  cases rx
  obtain ⟨its, r, ht, hz⟩ := I.tuple hx
  have hlen : its.toArray.size = xs.length := by rw [List.size_toArray]; exact r.length.symm
  refine ⟨"tuple", _, PyProof.Rows.slot_tuple_getitem.lookup, ht.typeIs, ?_⟩
  by_cases hw : HT.sIx xs.length 0 lo = 0 ∧ HT.sIx xs.length xs.length hi = xs.length
  · exact getItem_tuple_all ht hs pl pu (by rw [hlen]; exact hw) ⟨.ref a, H, I, rfl, q1 hw⟩
  refine HT.getItem_tuple_cut ht hs pl pu (by rw [hlen]; exact hw) ?_ (by rw [hlen]; exact hz)
  rw [hlen]
  refine ⟨.ref s.heap.objs.size, _, I.laid (t' := s.toks) (o := .tup (cutV xs lo hi)) (fun b ob q => Heap.get?_push_of_some _ q) (Nat.le_refl _) ?_, rfl, q2 hw _ (I.hok.fresh (Nat.le_refl _))⟩
  exact ⟨Nat.le_trans (cutV_length xs lo hi) hz, _, (r.drop (HT.sIx xs.length 0 lo)).take (HT.sIx xs.length xs.length hi - HT.sIx xs.length 0 lo), IsTup.new _ _⟩
section
variable {W : Wd} {Z : Zn} {G F H : Hp} {M : Mu} {Q2 : DQ} {ds es : List DV} {v : V}
theorem wl_tupT {lo hi : Option Int} (h : Q2 (.tup (DL.cutD ds lo hi)) M) : WL Z (rTupSl Z.W.K) (.tup ds) lo hi M Q2 := fun G H vx Q s R dx r => by
  obtain ⟨a, xs, rfl, h1, h2⟩ := dat_tup.mp dx
  refine ⟨a, xs, rfl, sqt_mono R.ex h1, fun e => ?_, fun _ p hp => ?_⟩
  · rw [h2.length] at e
    have : DL.cutD ds lo hi = ds := by
      unfold DL.cutD
      rw [e.1, e.2]
      simp
    rw [this] at h
    exact r _ _ G M H (Same.refl G) R dx h
  · obtain ⟨s1, R1, d1⟩ := R.newT hp (datL_cut lo hi h2)
    exact r _ _ _ M _ s1 R1 d1 h
end
def rTupMul (K : PySem.W.Frag) : R2 := fun x y H Q => ∃ l k xs, x = .ref l ∧ y = .int k ∧ SqT K H l xs ∧ xs ≠ [] ∧ 0 ≤ k ∧ k ≤ 1000 ∧ xs.length ≤ 1000 ∧ (k = 1 → Q (.ref l) H) ∧ (k ≠ 1 → ∀ p, H p = none → Q (.ref p) (upd H p (.tup (List.replicate k.toNat xs).flatten)))
theorem tuple_mulW1 (l : Addr) (items : Array Value) (n : Nat) (dd : Option Addr) (sl : Array (Option Value)) (u : Tok) :
    Meets (Builtin.«tuple.__mul__» ⟨[.ref l, .int 1 u], []⟩) (fun _ R s => s.heap.get? l = some { cls := .type "tuple", dict := dd, data := .seq items n, slots := sl } ∧ R (.ok (.ret (Value.ref l))) s) :=
  .of_wp fun prog w A R s h => by
    obtain ⟨hp, g, d, tk, os⟩ := s
    obtain ⟨hl, h⟩ := h
    have f1 := AutoSeq1.idx_int
    wp_walk using wpAny_loadPart' hl
    exact ⟨_, rfl, h⟩
theorem tuple_mulW0 (l : Addr) (items : Array Value) (n : Nat) (dd : Option Addr) (sl : Array (Option Value)) (u : Tok) (hi : items.isEmpty = false) :
    Meets (Builtin.«tuple.__mul__» ⟨[.ref l, .int 0 u], []⟩) (fun _ R s => s.heap.get? l = some { cls := .type "tuple", dict := dd, data := .seq items n, slots := sl } ∧ R (.ok (.ret (Value.ref s.heap.objs.size))) { s with heap := s.heap.push { cls := Value.type "tuple", data := Data.seq #[] }, toks := s.toks }) :=
  .of_wp fun prog w A R s h => by
    obtain ⟨hp, g, d, tk, os⟩ := s
    obtain ⟨hl, h⟩ := h
    have f1 := AutoSeq1.idx_int
    wp_walk using wpAny_loadPart' hl
    exact ⟨_, rfl, h⟩
theorem k_mulT {X : Cx} {K : PySem.W.Frag} (e : X.K = K) : OpR X (binaryOp .Mult) (rTupMul K) := by
  subst e
  intro pins s σ H x y v u Q I rx ry h
  obtain ⟨l, k, xs, rfl, rfl, hT, hne, h1, h2, hz, q1, q⟩ := h
  by_cases hk : 2 ≤ k
  · exact op_repT pins s σ H _ _ v u Q I rx ry ⟨l, k, xs, rfl, rfl, hT, hne, hk, h2, hz, q (by omega)⟩
  cases rx
  obtain ⟨t, rfl⟩ := ry
  obtain ⟨its, r, ⟨⟨cls, dd, data, sl⟩, ho, hc, n, hd⟩, hs⟩ := I.tuple hT
  simp only at hc hd
  subst hc hd
  have hle : its.length = xs.length := r.length.symm
  have hn : its ≠ [] := fun e => hne (by
    rw [e] at hle
    exact List.eq_nil_of_length_eq_zero hle.symm)
  have hi : its.toArray.isEmpty = false := by
    cases its with
    | nil => exact absurd rfl hn
    | cons a b => rfl
  by_cases hk1 : k = 1
  · subst hk1
    refine wpAny_binaryOp_repeat_ref (T := "tuple") (U := "int") (by decide) ⟨_, ho, rfl⟩ (fun s' => typeIs_int s' 1 t) noFill_tuple_mul F.fills_int_mul F.slot_int_rmul repeat_tuple F.slot_int_index.lookup
      (call_meets F.slot_int_rmul (typeIs_int s 1 t) F.entry_int_rmul (F.args_int_rmul_2 _ _) (int_rmul_tuple 1 t l its.toArray n dd sl)
        ⟨ho, rfl, ⟨_, ho, rfl⟩, call_meets F.slot_tuple_mul ⟨_, ho, rfl⟩ F.entry_tuple_mul (F.args_tuple_mul_2 _ _) (tuple_mulW1 l its.toArray n dd sl t) ⟨ho, ?_⟩⟩)
    exact ⟨.ref l, H, I, rfl, q1 rfl⟩
  · obtain rfl : k = 0 := by omega
    refine wpAny_binaryOp_repeat_ref (T := "tuple") (U := "int") (by decide) ⟨_, ho, rfl⟩ (fun s' => typeIs_int s' 0 t) noFill_tuple_mul F.fills_int_mul F.slot_int_rmul repeat_tuple F.slot_int_index.lookup
      (call_meets F.slot_int_rmul (typeIs_int s 0 t) F.entry_int_rmul (F.args_int_rmul_2 _ _) (int_rmul_tuple 0 t l its.toArray n dd sl)
        ⟨ho, rfl, ⟨_, ho, rfl⟩, call_meets F.slot_tuple_mul ⟨_, ho, rfl⟩ F.entry_tuple_mul (F.args_tuple_mul_2 _ _) (tuple_mulW0 l its.toArray n dd sl t hi) ⟨ho, ?_⟩⟩)
    refine ⟨.ref s.heap.objs.size, _, I.laid (t' := s.toks) (o := .tup (List.replicate (0 : Int).toNat xs).flatten) (fun b ob q => Heap.get?_push_of_some _ q) (Nat.le_refl _) ?_, rfl, q (by decide) _ (I.hok.fresh (Nat.le_refl _))⟩
    exact ⟨Nat.zero_le _, [], .nil, IsTup.new _ _⟩
theorem wr_tupMul {Z : Zn} {M : Mu} {Q2 : DQ} {d : DV} {k : Int} (h0 : 0 ≤ k) (h1 : k ≤ 1000) (h : Q2 (.tup (List.replicate k.toNat d)) M) : WR Z (rTupMul Z.W.K) (.tup [d]) (.i k) M Q2 := fun G H vx vy Q s R dx dy r => by
  obtain ⟨a, xs, rfl, h2, h3⟩ := dat_tup.mp dx
  obtain ⟨y, rfl, hy⟩ := one_of h3
  rw [dat_v.mp dy]
  refine ⟨a, k, [y], rfl, rfl, sqt_mono R.ex h2, by simp, h0, h1, by simp, fun e => ?_, fun e p hp => ?_⟩
  · subst e
    exact r _ _ G M H (Same.refl G) R dx h
  · have hd : DatL Z.W G (List.replicate k.toNat [d]).flatten (List.replicate k.toNat [y]).flatten := datL_flat h3 k.toNat
    have e2 : ∀ n, (List.replicate n [d]).flatten = List.replicate n d := fun n => by
      induction n with
      | zero => rfl
      | succ n ih => rw [List.replicate_succ, List.flatten_cons, ih, List.replicate_succ]; rfl
    rw [e2] at hd
    obtain ⟨s1, R1, d1⟩ := R.newT hp hd
    exact r _ _ _ M _ s1 R1 d1 h
end DL
set_option Elab.async false
set_option linter.all false
set_option maxRecDepth 100000
set_option maxHeartbeats 4000000
namespace DL
open PySem PySem.Spec PyProof.Rows L2
def setO (W : Wd) (a : Addr) (S : Str → Bool) (n : Nat) : HO := .ext fun h => h.SetOf (strKind W.P W.w) a S n
theorem SetOf.keep {P : Program} {w : World} {K : Type} [DecidableEq K] {knd : PySem.KeyKind P w K} {h h' : Heap} {a : Addr} {S : K → Bool} {n : Nat} (x : h.SetOf knd a S n) (k : ∀ o, h.get? a = some o → h'.get? a = some o) : h'.SetOf knd a S n := by
  obtain ⟨o, es, ep, t, ho, rest⟩ := x
  exact ⟨o, es, ep, t, k o ho, rest⟩
end DL
set_option Elab.async false
set_option linter.all false
set_option maxRecDepth 100000
set_option maxHeartbeats 2000000
namespace DL
open PySem PySem.Spec PyProof.Rows L2
theorem namesOf_app (xs ys : Prs) : namesOf (xs ++ ys) = namesOf xs ++ namesOf ys := by unfold namesOf; rw [List.map_append]
theorem TrF.app : ∀ {xs ys : Prs} {told : List Str}, TrF told xs → TrF (told ++ namesOf xs) ys → TrF told (xs ++ ys)
  | [], ys, told, _, h => by
    rw [show namesOf [] = [] from rfl, List.append_nil] at h
    exact h
  | x :: xs, ys, told, h, k => by
    refine ⟨h.1, TrF.app h.2 ?_⟩
    rw [show namesOf (x :: xs) = [x.1] ++ namesOf xs from rfl, ← List.append_assoc] at k
    exact k
/-- a tree's pairs, in its order -/
def oprs (ps : Prs) (l : List Str) : Prs := l.map fun c => (c, overOf ps c)
theorem names_oprs (ps : Prs) (l : List Str) : namesOf (oprs ps l) = l := by
  unfold namesOf oprs
  rw [List.map_map]
  exact List.map_id l
theorem oprs_app (ps : Prs) (l m : List Str) : oprs ps (l ++ m) = oprs ps l ++ oprs ps m := by unfold oprs; rw [List.map_append]
section
variable {ps : Prs}
theorem trF_ord (t : Tr ps) : ∀ (n : Nat) (o : Option Str) (told : List Str), (∀ c, o = some c → c ∈ told) → (told ++ ordF ps n o).Nodup → TrF told (oprs ps (ordF ps n o))
  | 0, o, told, _, _ => trivial
  | n + 1, o, told, ho, hn => by
    have key : ∀ (ks : List Str) (told : List Str), (∀ c ∈ ks, c ∈ kidsOf ps o) → (∀ c, o = some c → c ∈ told) → (told ++ ks.flatMap fun c => c :: ordF ps n (some c)).Nodup → TrF told (oprs ps (ks.flatMap fun c => c :: ordF ps n (some c))) := by
      intro ks
      induction ks with
      | nil => intro told _ _ _; exact trivial
      | cons c ks ih =>
        intro told hk ho hn
        have hc := hk c List.mem_cons_self
        rw [List.flatMap_cons] at hn ⊢
        rw [oprs_app]
        have hn1 : ((told ++ [c]) ++ ordF ps n (some c)).Nodup := by
          have : ((told ++ [c]) ++ ordF ps n (some c)).Sublist (told ++ (c :: ordF ps n (some c) ++ ks.flatMap fun c => c :: ordF ps n (some c))) := by
            rw [List.append_assoc]
            exact List.Sublist.append_left (List.sublist_append_left _ _) _
          exact hn.sublist this
        have hcn : c ∉ told := fun h => by
          have := (List.nodup_append.mp hn).2.2 c h c (by simp)
          exact this rfl
        refine TrF.app ⟨⟨t.name (kids_names hc), hcn, fun d e => ho d (by rw [← e]; exact (kid_over t hc).symm)⟩, trF_ord t n (some c) _ (fun d e => by cases e; simp) hn1⟩ ?_
        refine ih _ (fun d hd => hk d (List.mem_cons_of_mem _ hd)) (fun d e => List.mem_append.mpr (.inl (ho d e))) ?_
        rw [names_oprs]
        rw [List.append_assoc]
        exact hn
    exact key _ told (fun c h => h) ho hn
def opr (ps : Prs) : Prs := oprs ps (ord ps none)
theorem names_opr : namesOf (opr ps) = ord ps none := names_oprs _ _
theorem len_ord (t : Tr ps) : (ord ps none).length = ps.length := by
  have := (ord_perm t).length_eq
  rw [names_len] at this
  exact this
theorem Tr.opr (t : Tr ps) : Tr (DL.opr ps) := ⟨by rw [DL.opr, oprs, List.length_map, len_ord t]; exact t.len, trF_ord t _ none [] (fun c e => by cases e) (by rw [List.nil_append]; exact ord_nodup t none)⟩
theorem rk_ord (t : Tr ps) : ∀ {n : Nat} {o : Option Str} {x : Str}, x ∈ ordF ps n o → rk ps (some x) < rk ps o
  | n + 1, o, x, h => by
    obtain ⟨c, hc, h⟩ := List.mem_flatMap.mp h
    have h1 := rk_kid t hc
    rcases List.mem_cons.mp h with rfl | h
    · exact h1
    · exact Nat.lt_trans (rk_ord t h) h1
theorem filter_flat {α β : Type} (p : β → Bool) (f : α → List β) : ∀ l : List α, (l.flatMap f).filter p = l.flatMap fun x => (f x).filter p
  | [] => rfl
  | x :: l => by rw [List.flatMap_cons, List.filter_append, filter_flat p f l, List.flatMap_cons]
theorem flat_one {α β : Type} {f : α → List β} : ∀ {l : List α} {c : α}, l.Nodup → c ∈ l → (∀ x ∈ l, x ≠ c → f x = []) → l.flatMap f = f c
  | x :: l, c, hn, hc, h => by
    rw [List.flatMap_cons]
    rw [List.nodup_cons] at hn
    by_cases e : x = c
    · subst e
      have : l.flatMap f = [] := List.flatMap_eq_nil_iff.mpr fun y hy => h y (List.mem_cons_of_mem _ hy) fun e => hn.1 (e ▸ hy)
      rw [this, List.append_nil]
    · rw [h x List.mem_cons_self e, List.nil_append]
      exact flat_one hn.2 ((List.mem_cons.mp hc).resolve_left (Ne.symm e)) fun y hy => h y (List.mem_cons_of_mem _ hy)
theorem flat_self {α : Type} {f : α → List α} : ∀ {l : List α}, (∀ x ∈ l, f x = [x]) → l.flatMap f = l
  | [], _ => rfl
  | x :: l, h => by
    rw [List.flatMap_cons, h x List.mem_cons_self, flat_self fun y hy => h y (List.mem_cons_of_mem _ hy)]
    rfl
/-- the columns of a part with one over, in order -/
theorem filter_step (t : Tr ps) (o o' : Option Str) (IH : ∀ c ∈ kidsOf ps o', (ord ps (some c)).filter (fun c => decide (overOf ps c = o)) = if o = some c ∨ (∃ d ∈ ord ps (some c), o = some d) then kidsOf ps o else []) :
    (ord ps o').filter (fun c => decide (overOf ps c = o)) = if o = o' ∨ (∃ d ∈ ord ps o', o = some d) then kidsOf ps o else [] := by
    rw [ord_eq t, filter_flat]
    have hone : ∀ c ∈ kidsOf ps o', (c :: ord ps (some c)).filter (fun c => decide (overOf ps c = o)) = (if o = o' then [c] else []) ++ (if o = some c ∨ (∃ d ∈ ord ps (some c), o = some d) then kidsOf ps o else []) := fun c hc => by
      rw [List.filter_cons, kid_over t hc, IH c hc]
      by_cases e : o' = o
      · subst e; simp
      · rw [decide_eq_false e, if_neg (Ne.symm e)]; simp
    have hcg : (kidsOf ps o').flatMap (fun x => (x :: ord ps (some x)).filter fun c => decide (overOf ps c = o)) = (kidsOf ps o').flatMap fun c => (if o = o' then [c] else []) ++ (if o = some c ∨ (∃ d ∈ ord ps (some c), o = some d) then kidsOf ps o else []) := flatMap_congr' hone
    rw [hcg]
    by_cases e : o = o'
    · subst e
      rw [if_pos (.inl rfl)]
      refine flat_self fun c hc => ?_
      rw [if_pos rfl, if_neg, List.append_nil]
      rintro (rfl | ⟨d, hd, rfl⟩)
      · have := rk_kid t hc; omega
      · have h1 := rk_ord t hd
        have h2 := rk_kid t hc
        omega
    · by_cases hd : ∃ d ∈ (kidsOf ps o').flatMap (fun c => c :: ord ps (some c)), o = some d
      · rw [if_pos (.inr hd)]
        obtain ⟨d, hd, rfl⟩ := hd
        obtain ⟨c, hc, hdc⟩ := List.mem_flatMap.mp hd
        rw [flat_one (kids_nodup t o') hc fun x hx hne => ?_]
        · rw [if_neg e, if_pos, List.nil_append]
          rcases List.mem_cons.mp hdc with rfl | h
          · exact .inl rfl
          · exact .inr ⟨d, h, rfl⟩
        · rw [if_neg e, if_neg, List.nil_append]
          have up : ∀ {y : Str}, d ∈ y :: ord ps (some y) → ∃ k, upN ps k (some d) = some y := fun {y} h => by
            rcases List.mem_cons.mp h with rfl | h
            · exact ⟨0, rfl⟩
            · obtain ⟨k, c', hc', hk⟩ := ord_up t h
              exact ⟨k + 1, by rw [upN_succ, hk]; exact kid_over t hc'⟩
          obtain ⟨i, hi⟩ := up hdc
          have hx' : ¬ d ∈ x :: ord ps (some x) := fun h => by
            obtain ⟨j, hj⟩ := up h
            exact hne (same_kid t hx hc hj hi)
          rintro (h | ⟨d', h, e'⟩)
          · injection h with h
            exact hx' (by rw [h]; exact List.mem_cons_self)
          · injection e' with e'
            exact hx' (by rw [e']; exact List.mem_cons_of_mem _ h)
      · rw [if_neg (fun h => h.elim e hd)]
        refine List.flatMap_eq_nil_iff.mpr fun c hc => ?_
        rw [if_neg e, if_neg, List.nil_append]
        rintro (rfl | ⟨d, h, rfl⟩)
        · exact hd ⟨c, List.mem_flatMap.mpr ⟨c, hc, List.mem_cons_self⟩, rfl⟩
        · exact hd ⟨d, List.mem_flatMap.mpr ⟨c, hc, List.mem_cons_of_mem _ h⟩, rfl⟩
theorem filter_ord (t : Tr ps) (o : Option Str) : ∀ (n : Nat) (o' : Option Str), rk ps o' ≤ n →
    (ord ps o').filter (fun c => decide (overOf ps c = o)) = if o = o' ∨ (∃ d ∈ ord ps o', o = some d) then kidsOf ps o else []
  | 0, o', hn => filter_step t o o' fun c hc => by have := rk_kid t hc; omega
  | n + 1, o', hn => filter_step t o o' fun c hc => filter_ord t o n (some c) (by have := rk_kid t hc; omega)
theorem overOf_oprs : ∀ {l : List Str} {c : Str}, c ∈ l → overOf (oprs ps l) c = overOf ps c
  | x :: l, c, h => by
    by_cases e : x = c
    · subst e
      exact overOf_cons_pos (p := (x, overOf ps x)) rfl
    · rw [oprs, List.map_cons, overOf_cons_neg (p := (x, overOf ps x)) e]
      exact overOf_oprs ((List.mem_cons.mp h).resolve_left (Ne.symm e))
theorem kids_oprs (o : Option Str) (l : List Str) : kidsOf (oprs ps l) o = l.filter fun c => decide (overOf ps c = o) := by
  unfold kidsOf oprs
  rw [List.filter_map, List.map_map]
  exact List.map_id _
theorem kids_out (t : Tr ps) {d : Str} (h : d ∉ namesOf ps) : kidsOf ps (some d) = [] := by
  rw [List.eq_nil_iff_forall_not_mem]
  intro c hc
  have := kid_over t hc
  exact h (inT_over t c d this)
theorem kids_opr (t : Tr ps) (o : Option Str) : kidsOf (opr ps) o = kidsOf ps o := by
  rw [opr, kids_oprs, filter_ord t o ps.length none (rk_le _)]
  by_cases h : o = none ∨ ∃ d ∈ ord ps none, o = some d
  · rw [if_pos h]
  · rw [if_neg h]
    cases o with
    | none => exact absurd (.inl rfl) h
    | some d => exact (kids_out t fun hd => h (.inr ⟨d, (ord_mem t).mpr hd, rfl⟩)).symm
theorem ordF_congr {qs : Prs} (h : ∀ o, kidsOf qs o = kidsOf ps o) : ∀ (n : Nat) (o : Option Str), ordF qs n o = ordF ps n o
  | 0, _ => rfl
  | n + 1, o => by
    show (kidsOf qs o).flatMap _ = (kidsOf ps o).flatMap _
    rw [h o]
    exact flatMap_congr' fun c _ => by rw [ordF_congr h n]
theorem ord_opr (t : Tr ps) (o : Option Str) : ord (opr ps) o = ord ps o := by
  unfold ord
  rw [show (opr ps).length = ps.length by rw [opr, oprs, List.length_map, len_ord t]]
  exact ordF_congr (kids_opr t) _ _
theorem over_opr (t : Tr ps) {c : Str} (h : c ∈ namesOf ps) : overOf (opr ps) c = overOf ps c := overOf_oprs ((ord_mem t).mpr h)
end
section
variable {ps qs : Prs}
theorem kids_app (o : Option Str) : kidsOf (ps ++ qs) o = kidsOf ps o ++ kidsOf qs o := by unfold kidsOf; rw [List.filter_append, List.map_append]
end
theorem Teq.opr {ps : Prs} (t : Tr ps) : Teq (DL.opr ps) ps := ⟨ord_opr t none, fun c hc => over_opr t ((ord_mem t).mp (by rw [names_opr] at hc; exact hc))⟩
end DL
set_option Elab.async false
set_option linter.all false
set_option maxRecDepth 100000
set_option maxHeartbeats 2000000
namespace DL
open PySem PySem.Spec PyProof.Rows L2
end DL
set_option Elab.async false
set_option linter.all false
set_option maxRecDepth 100000
set_option maxHeartbeats 2000000
namespace DL
open PySem PySem.Spec PyProof.Rows L2
section
variable {ps : Prs}
/-- a top and all beneath it -/
def blk (ps : Prs) (c : Str) : List Str := c :: ord ps (some c)
def sub (ps : Prs) (c : Str) : Prs := oprs ps (blk ps c)
end
end DL
set_option Elab.async false
set_option linter.all false
set_option maxRecDepth 100000
set_option maxHeartbeats 2000000
namespace DL
open PySem PySem.Spec PyProof.Rows L2
section
variable {X : Cx} {CX : CXT} {k : Nat} {f C : Addr} {fd : FuncData} {ps : List Str} {sp : Sp} {E : XK}
theorem call_strO {fl : Addr} (hl : PySem.W.findIn X.K (.ref C) "__str__" = some (some (.ref fl))) (hf : PySem.W.isFn X.K (.ref fl) = true) (F : FnOk X.prog X.w X.K X.mg X.base CX k fl fd ps sp) (hr : Room (k + 2) X.A) (hb : Binds X.K fd ps []) (hx : Passes CX X E) :
    CallR X (.type "str") (fun xs H Q => ∃ (a dx : Addr) (fs : List (Str × V)), xs = [.ref a] ∧ H a = some (.ins C dx fs) ∧ sp [.ref a] H (fun v H' => ∃ z : Str, v = .str z ∧ Q (.str z) H') E) := by
  intro pins s σ H xs us Q I r h
  obtain ⟨a, dx, fs, rfl, ha, h⟩ := h
  obtain ⟨u, rfl, ru⟩ := vals1 r
  cases ru
  obtain ⟨mA, J, _⟩ := ins_get I.hok ha
  obtain ⟨od, J, _⟩ := J.look
  refine PySem.W.kso_call (huF (hr.in1 (k := k + 1)).in1) I.kIn J hl hf ?_
  refine thn (run_own F rfl (hr.in1 (k := k + 1)).in1 hb hx I (show Vals [V.ref a] [Value.ref a] from .cons rfl .nil) h) fun z s' hz => ?_
  obtain ⟨zv, H', I', rz, y, rfl, q⟩ := hz
  obtain ⟨t, rfl⟩ := rz
  exact ⟨.str y, H', I', ⟨_, rfl⟩, q⟩
end
section
variable {W : Wd} {Z : Zn} {G F H : Hp} {ρ : Ro} {M : Mu} {Q2 : DQ} {te : TE} {tx : TA} {x : DV} {ds : List DV} {sp2 : Sp2} {E : XK} {E2 : XK2} {ns : List Str}
theorem wc_strO {C : Addr} (hx : XcOk Z E2 E) (o : ObjOf M x C ns ds) (h : sp2 [x] M (fun v M' => ∃ z : Str, v = .s z ∧ Q2 (.s z) M') E2) :
    WC Z (fun xs H Q => ∃ (a dx : Addr) (fs : List (Str × V)), xs = [.ref a] ∧ H a = some (.ins C dx fs) ∧ lift Z.W sp2 [.ref a] H (fun v H' => ∃ z : Str, v = .str z ∧ Q (.str z) H') E) [x] M Q2 := fun G H vs Q s R xd r => by
  obtain ⟨y, rfl, dx⟩ := one_of xd
  obtain ⟨a, ddx, us, rfl, e2, e3, e4⟩ := obj_at R dx o
  refine ⟨a, ddx, _, rfl, e2, G, Z.F, [x], M, _, E2, R, datL_cons' dx datL_nil', h, ?_, hx.mono s⟩
  intro d v G' M' H' s' R' hv q
  obtain ⟨z, rfl, q⟩ := q
  exact ⟨z, dat_v.mp hv, r _ _ G' M' H' s' R' dat_v' q⟩
def tJoined (ts : List TE) : TE := fun σ H Q => tJs ts Str.empty σ H fun out H1 => Q (.str out) H1
theorem pe_joinedD {X : Cx} {v1 v2 : Expr} {rest : List Expr} {ts : List TE} {pos : Pos} (h : PJ X (v1 :: v2 :: rest) ts) : PE X (.JoinedStr (v1 :: v2 :: rest) pos) (tJoined ts) := pe_joined h
def WJs (Z : Zn) (ρ : Ro) (P : Str → Mu → Prop) : List TE → Str → Mu → Prop
  | [], acc, M => P acc M
  | t :: ts, acc, M => WE Z t ρ M fun d M1 => ∃ y, d = .s y ∧ (acc ++ y).length ≤ sizeLine ∧ WJs Z ρ P ts (acc ++ y) M1
theorem wjs_run {P : Str → Mu → Prop} {σ : L2.St} : ∀ {ts : List TE} {acc : Str} {G : Hp} {M : Mu} {H : Hp} {Q : Str → Hp → Prop}, Same Z.G G → Rep Z.W G M Z.F H → EnvOk Z.W G ρ σ → WJs Z ρ P ts acc M → (∀ out G' M' H', Same G G' → Rep Z.W G' M' Z.F H' → P out M' → Q out H') → tJs ts acc σ H Q
  | [], acc, G, M, H, Q, s, R, E, h, k => k acc G M H (Same.refl G) R h
  | t :: ts, acc, G, M, H, Q, s, R, E, h, k => h G σ H _ s R E fun d v G1 M1 H1 s1 R1 dx ⟨y, e, hz, q⟩ => by
    subst e
    exact ⟨y, dat_v.mp dx, hz, wjs_run (s.trans s1) R1 (E.mono s1) q fun out G' M' H' s' R' p => k out G' M' H' (s1.trans s') R' p⟩
theorem we_joined {ts : List TE} (h : WJs Z ρ (fun out M1 => Q2 (.s out) M1) ts Str.empty M) : WE Z (tJoined ts) ρ M Q2 := fun G σ H Q s R E r =>
  wjs_run s R E h fun out G' M' H' s' R' q => r _ _ G' M' H' s' R' dat_v' q
end
end DL
set_option Elab.async false
set_option linter.all false
set_option maxRecDepth 100000
set_option maxHeartbeats 2000000
namespace DL
open PySem PySem.Spec PyProof.Rows L2
theorem len_app (x y : Str) : (x ++ y).length = x.length + y.length := by
  show (x.cps ++ y.cps).size = _
  rw [Array.size_append]
  rfl
theorem tl_len (x : Str) : (TL.tl x).length = x.length := rfl
end DL
set_option Elab.async false
set_option linter.all false
set_option maxRecDepth 100000
set_option maxHeartbeats 2000000
namespace DL
open PySem PySem.Spec PyProof.Rows L2
end DL
set_option Elab.async false
set_option linter.all false
set_option maxRecDepth 100000
set_option maxHeartbeats 2000000
namespace DL
open PySem PySem.Spec PyProof.Rows L2
end DL
set_option Elab.async false
set_option linter.all false
set_option maxRecDepth 100000
set_option maxHeartbeats 2000000
namespace DL
open PySem PySem.Spec PyProof.Rows L2
section
variable {W : Wd} {Z : Zn} {G F H : Hp} {M : Mu} {Q2 : DQ}
/-- two trees that tell the same -/
structure Like (qs ps : Prs) : Prop where
  len : qs.length = ps.length
  kids : ∀ o, kidsOf qs o = kidsOf ps o
  over : ∀ c, overOf qs c = overOf ps c
  nam : ∀ c, c ∈ namesOf qs ↔ c ∈ namesOf ps
end
section
variable {ps qs : Prs}
theorem Like.ord (l : Like qs ps) (o : Option Str) : DL.ord qs o = DL.ord ps o := by
  unfold DL.ord
  rw [l.len]
  exact ordF_congr l.kids _ _
theorem Like.opr (l : Like qs ps) : DL.opr qs = DL.opr ps := by
  unfold DL.opr oprs
  rw [l.ord]
  exact List.map_congr_left fun c _ => by rw [l.over]
end
end DL
set_option Elab.async false
set_option linter.all false
namespace DL
open PySem PySem.Spec PyProof.Rows L2
section
variable {Z : Zn} {D2 : Ends2}
theorem wipe2_out {ρ : Ro} {i : Nat} {x : Option DV} : ∀ {is : List Nat}, i ∉ is → wipe2 (ρ.set i x) is = (wipe2 ρ is).set i x
  | [], _ => rfl
  | j :: is, h => by
    show (wipe2 (ρ.set i x) is).set j none = ((wipe2 ρ is).set j none).set i x
    rw [wipe2_out fun k => h (List.mem_cons_of_mem _ k), List.set_comm _ _ (fun (e : i = j) => h (by rw [e]; exact List.mem_cons_self))]
theorem wipe2_in {ρ : Ro} {i : Nat} {x : Option DV} : ∀ {is : List Nat}, i ∈ is → wipe2 (ρ.set i x) is = wipe2 ρ is
  | j :: is, h => by
    show (wipe2 (ρ.set i x) is).set j none = (wipe2 ρ is).set j none
    by_cases k : i ∈ is
    · rw [wipe2_in k]
    · have e : i = j := (List.mem_cons.mp h).resolve_right k
      subst e
      rw [wipe2_out k, List.set_set]
theorem wipe2_of1 {ρ ρ' : Ro} {i : Nat} {is : List Nat} (hi : i ∈ is) (h : wipe2 ρ' [i] = wipe2 ρ [i]) : wipe2 ρ' is = wipe2 ρ is := by
  have := congrArg (fun r => wipe2 r is) h
  have e : ∀ r : Ro, wipe2 (wipe2 r [i]) is = wipe2 r is := fun r => wipe2_in (ρ := r) (x := none) hi
  simp only [e] at this
  exact this
end
end DL
set_option Elab.async false
set_option linter.all false
set_option maxRecDepth 100000
namespace DL
open PySem PySem.Spec PyProof.Rows L2
/-- a tuple (true) or a list (false) -/
def SqK (t : Bool) (K : PySem.W.Frag) (H : Hp) (a : Addr) (xs : List V) : Prop := match t with
  | true => SqT K H a xs
  | false => SqL K H a xs
def AtK (t : Bool) (h : Heap) (a : Addr) (its : Array Value) : Prop := match t with
  | true => h.IsTuple a its
  | false => h.IsList a its
def GoK (t : Bool) (h : Heap) (it a : Addr) (i : Nat) : Prop := match t with
  | true => h.IsTupleIter it a i
  | false => h.IsListIter it a i
def begK (t : Bool) (a : Addr) : PySem.Obj := match t with
  | true => { cls := .type "tuple_iterator", data := .fields #[.ref a, .int 0 0] }
  | false => { cls := .type "list_iterator", data := .fields #[.ref a, .int 0 0] }
section
variable {X : Cx} {pins : List (Addr × PySem.Obj)} {σ : L2.St} {H : Hp} {s : Shared} {a it : Addr} {xs : List V} {t : Bool} {h h' : Heap} {i : Nat}
theorem inv_K (I : Inv X pins σ H s) (q : SqK t X.K H a xs) : ∃ its : List Value, Vals xs its ∧ AtK t s.heap a its.toArray ∧ a < s.heap.objs.size := by
  cases t with
  | true =>
    obtain ⟨its, r, p, _⟩ := I.tuple q
    obtain ⟨o, e, _⟩ := id p
    exact ⟨its, r, p, Heap.lt_size e⟩
  | false =>
    obtain ⟨its, r, p, _⟩ := I.list q
    exact ⟨its, r, p.isList, p.lt⟩
theorem GoK.obj (q : GoK t h it a i) : ∃ o, h.get? it = some o ∧ ∀ v, o.data ≠ .cell v := by
  cases t with
  | true => obtain ⟨o, e, _, d⟩ := q; exact ⟨o, e, fun v k => by rw [d] at k; cases k⟩
  | false => obtain ⟨o, e, _, d⟩ := q; exact ⟨o, e, fun v k => by rw [d] at k; cases k⟩
theorem GoK.keep (q : GoK t h it a i) (k : ∀ o, h.get? it = some o → h'.get? it = some o) : GoK t h' it a i := by
  cases t with
  | true => exact Heap.IsTupleIter.at q k
  | false => exact Heap.IsListIter.at q k
theorem GoK.beg (e : h.get? it = some (begK t a)) : GoK t h it a 0 := by
  cases t with
  | true => exact ⟨_, e, rfl, rfl⟩
  | false => exact ⟨_, e, rfl, rfl⟩
theorem drawsK {prog : Program} {w : World} {A : Around} (hh : A.handled = none) (ne : a ≠ it) (items : Array Value) : Draws prog w A it [it, a] items.size (fun i v => items[i]? = some v) (fun i h => GoK t h it a i ∧ AtK t h a items) := by
  cases t with
  | true => exact Draws.tuple hh it a ne items
  | false => exact Draws.list hh it a ne items
theorem beginsK (items : Array Value) : Begins (.ref a) (begK t a) fun h => AtK t h a items := by
  cases t with
  | true => exact begins_tuple a items
  | false => exact begins_list a items
end
/-- the cells of a zip of two, and of what it walks -/
structure Sep2 (z ti to i1 i2 a b : Addr) : Prop where
  nd : [z, ti, to, i1, i2].Nodup
  ha : ∀ c ∈ [z, ti, to, i1, i2], c ≠ a ∧ c ≠ b
def Itz2 (K : PySem.W.Frag) (t1 t2 : Bool) (a b : Addr) (xs ys : List V) : It :=
  ⟨fun i H => SqK t1 K H a xs ∧ SqK t2 K H b ys ∧ i < xs.length ∧ i < ys.length,
   fun i H v H' => ∃ p x y, v = .ref p ∧ H p = none ∧ H' = upd H p (.tup [x, y]) ∧ xs[i]? = some x ∧ ys[i]? = some y,
   fun i H => SqK t1 K H a xs ∧ SqK t2 K H b ys ∧ min xs.length ys.length ≤ i⟩
def Zs2 (t1 t2 : Bool) (z ti to i1 i2 a b : Addr) (n : Nat) (i : Nat) (h : Heap) : Prop := IsZip h z ti to .none ∧ IsTupOf2 h ti (.ref i1) (.ref i2) ∧ (∃ u v, IsTupOf2 h to u v) ∧ GoK t1 h i1 a i ∧ GoK t2 h i2 b i ∧ i ≤ n
theorem turn_z2 {P : Program} {w : World} {K : PySem.W.Frag} {elts : List Expr} {kk : Nat} {tpos : Pos} {t1 t2 : Bool} {z ti to i1 i2 a b : Addr} {xs ys : List V} (D : Sep2 z ti to i1 i2 a b) :
    Turn P w K (.Tuple elts kk tpos) (Itz2 K t1 t2 a b xs ys) [z, ti, to, i1, i2] z (Zs2 t1 t2 z ti to i1 i2 a b (min xs.length ys.length)) := by
  have nd := D.nd
  simp only [List.nodup_cons, List.mem_cons, List.not_mem_nil, or_false, not_or, not_false_eq_true, List.nodup_nil, and_true] at nd
  obtain ⟨⟨n1, n2, n3, n4⟩, ⟨n5, n6, n7⟩, ⟨n8, n9⟩, n10⟩ := nd
  have ha := D.ha
  simp only [List.mem_cons, List.not_mem_nil, or_false, forall_eq_or_imp, forall_eq] at ha
  obtain ⟨⟨a1, b1⟩, ⟨a2, b2⟩, ⟨a3, b3⟩, ⟨a4, b4⟩, ⟨a5, b5⟩⟩ := ha
  have S : ZipSep2 z ti to i1 i2 [i1, a] [i2, b] := ⟨Ne.symm n1, Ne.symm n2, n5, n6, by simp, by simp [n3, a1], by simp [n8, a3], n7, by simp, by simp [n4, b1], by simp [n9, b3], by simp [n10, b4], by simp [Ne.symm n10, a5]⟩
  refine ⟨by simp, fun i h st c hc => ?_, fun i h h' st k => ?_, ?_, ?_, fun A i s Q E st h => wpAny_pyIter_zip st.1 h⟩
  · obtain ⟨hz, hti, ⟨u, v, hto⟩, g1, g2, _⟩ := st
    simp only [List.mem_cons, List.not_mem_nil, or_false] at hc
    rcases hc with e | e | e | e | e
    · rw [e]; exact ⟨_, hz, fun v k => nomatch k⟩
    · rw [e]; exact ⟨_, hti, fun v k => nomatch k⟩
    · rw [e]; exact ⟨_, hto, fun v k => nomatch k⟩
    · rw [e]; exact g1.obj
    · rw [e]; exact g2.obj
  · obtain ⟨hz, hti, ⟨u, v, hto⟩, g1, g2, l⟩ := st
    exact ⟨k z (by simp) _ hz, k ti (by simp) _ hti, ⟨u, v, k to (by simp) _ hto⟩, g1.keep (k i1 (by simp)), g2.keep (k i2 (by simp)), l⟩
  · intro X hP hw hK hc i pins s σ H E I hf st hg
    subst hP hw hK
    obtain ⟨hz, hti, ⟨u0, v0, hto⟩, g1, g2, _⟩ := st
    obtain ⟨q1, q2, l1, l2⟩ := hg
    obtain ⟨its1, r1, p1, _⟩ := inv_K I q1
    obtain ⟨its2, r2, p2, _⟩ := inv_K I q2
    have hzl : z < s.heap.objs.size := Heap.lt_size hz
    have hA : X.A.in1.handled = none := I.ok.hd hc
    have D1 := drawsK (t := t1) (prog := X.prog) (w := X.w) hA (Ne.symm a4) its1.toArray
    have D2 := drawsK (t := t2) (prog := X.prog) (w := X.w) hA (Ne.symm b5) its2.toArray
    refine wpAny_pyNext_zipD2_item S D1 D2 hz hti hto ⟨g1, p1⟩ ⟨g2, p2⟩ (by have := r1.length; simp; omega) (by have := r2.length; simp; omega) fun u1 u2 h' tk hu1 hu2 z' to' ⟨g1', _⟩ ⟨g2', _⟩ hT hsz hk => ?_
    refine ⟨_, rfl, wpAny_letOwnedTupleGo_zip (s := { s with heap := h', toks := tk }) z' fun h'' z'' sb => ?_⟩
    have hu1' : its1[i]? = some u1 := by simpa using hu1
    have hu2' : its2[i]? = some u2 := by simpa using hu2
    obtain ⟨x1, hx1⟩ : ∃ x1, xs[i]? = some x1 := ⟨_, List.getElem?_eq_getElem l1⟩
    obtain ⟨x2, hx2⟩ : ∃ x2, ys[i]? = some x2 := ⟨_, List.getElem?_eq_getElem l2⟩
    have e1 : RelV x1 u1 := by obtain ⟨u, hu, ru⟩ := r1.get hx1; rw [hu] at hu1'; cases hu1'; exact ru
    have e2 : RelV x2 u2 := by obtain ⟨u, hu, ru⟩ := r2.get hx2; rw [hu] at hu2'; cases hu2'; exact ru
    have hT2 : h''.get? s.heap.objs.size = some { cls := .type "tuple", data := .seq #[u1, u2] } := (sb.2 _ (Nat.ne_of_gt hzl)).trans hT
    have new : ObjOk X.prog X.w (upd H s.heap.objs.size (.tup [x1, x2])) h'' s.heap.objs.size (.tup [x1, x2]) :=
      ⟨by show 2 ≤ sizeLine; decide, [u1, u2], .cons e1 (.cons e2 .nil), ⟨_, hT2, rfl, _, rfl⟩⟩
    have I1 : Inv X pins σ (upd H s.heap.objs.size (.tup [x1, x2])) { s with heap := h'', toks := tk } :=
      I.turnedNew (t' := tk) (ch := [z, ti, to, i1, i2]) (fun c o hb k => by
        simp only [List.mem_cons, List.not_mem_nil, or_false, not_or] at hb
        exact (sb.2 c hb.1).trans (hk c o hb.1 hb.2.2.1 hb.2.2.2.1 hb.2.2.2.2 k)) hf (Nat.le_refl _) new
    refine ⟨.ref s.heap.objs.size, _, I1, rfl, ⟨_, x1, x2, rfl, I.hok.fresh (Nat.le_refl _), rfl, hx1, hx2⟩, ⟨z'', ?_, ⟨u1, u2, ?_⟩, ?_, ?_, by omega⟩, fun c hcm => ?_⟩
    · exact (sb.2 _ (Ne.symm n1)).trans (hk _ _ (Ne.symm n1) n5 n6 n7 hti)
    · exact (sb.2 _ (Ne.symm n2)).trans to'
    · exact g1'.keep fun o k => (sb.2 _ (Ne.symm n3)).trans k
    · exact g2'.keep fun o k => (sb.2 _ (Ne.symm n4)).trans k
    · have hlt : c < s.heap.objs.size := by
        simp only [List.mem_cons, List.not_mem_nil, or_false] at hcm
        rcases hcm with e | e | e | e | e
        · rw [e]; exact hzl
        · rw [e]; exact Heap.lt_size hti
        · rw [e]; exact Heap.lt_size hto
        · rw [e]; obtain ⟨_, k, _⟩ := g1.obj; exact Heap.lt_size k
        · rw [e]; obtain ⟨_, k, _⟩ := g2.obj; exact Heap.lt_size k
      rw [upd_ne (Nat.ne_of_lt hlt)]
      exact (hf c hcm).1
  · intro X hP hw hK hc i pins s σ H E I hf st hg
    subst hP hw hK
    obtain ⟨hz, hti, ⟨u0, v0, hto⟩, g1, g2, l⟩ := st
    obtain ⟨q1, q2, l'⟩ := hg
    obtain ⟨its1, r1, p1, _⟩ := inv_K I q1
    obtain ⟨its2, r2, p2, _⟩ := inv_K I q2
    have k1 := r1.length
    have k2 := r2.length
    have hA : X.A.in1.handled = none := I.ok.hd hc
    have D1 := drawsK (t := t1) (prog := X.prog) (w := X.w) hA (Ne.symm a4) its1.toArray
    have D2 := drawsK (t := t2) (prog := X.prog) (w := X.w) hA (Ne.symm b5) its2.toArray
    refine wpAny_pyNext_zipD2_end S D1 D2 hz hti hto ⟨g1, p1⟩ ⟨g2, p2⟩ (by simp; omega) (by simp; omega) (by simp; omega) fun h' tk hk => ⟨rfl, I.turnedL (t' := tk) (ch := [z, ti, to, i1, i2]) (fun c o hb k => ?_) hf⟩
    simp only [List.mem_cons, List.not_mem_nil, or_false, not_or] at hb
    exact hk c o hb.1 hb.2.2.1 hb.2.2.2.1 hb.2.2.2.2 k
theorem five_nd (n : Nat) : [n + 4, n + 2, n + 3, n, n + 1].Nodup := by
  simp only [List.nodup_cons, List.mem_cons, List.not_mem_nil, or_false, not_or, not_false_eq_true, List.nodup_nil, and_true]
  omega
theorem five_ge (n c : Nat) (h : c ∈ [n + 4, n + 2, n + 3, n, n + 1]) : n ≤ c := by
  simp only [List.mem_cons, List.not_mem_nil, or_false] at h
  omega
/-- zip(x, y) -/
def iZip2 (K : PySem.W.Frag) (ta : TA) : TI := fun σ H R => ta σ H fun vs H1 => ∃ a b t1 t2 xs ys, vs = [.ref a, .ref b] ∧ SqK t1 K H1 a xs ∧ SqK t2 K H1 b ys ∧ R (Itz2 K t1 t2 a b xs ys) H1
theorem pi_zip2 {X : Cx} {K : PySem.W.Frag} {e e2 : Expr} {ta : TA} {p pos tpos : Pos} {elts : List Expr} {kk : Nat} (eK : X.K = K) (hg : Gl X "zip") (hm : X.mg "zip" = none) (ha : PA X [e, e2] ta)
    (hs : starEach [e, e2] X.env = (false, eval e X.env) :: starEach [e2] X.env := by rfl) (hpl : (backTo pos (starEach [e2] X.env)).any (·.1) = false := by rfl) :
    PI X (.Tuple elts kk tpos) (.Call (.Name "zip" p) [e, e2] [] pos) (iZip2 K ta) := by
  subst eK
  constructor
  intro pins s σ H R I h
  refine Call_ (ld_blt I hg hm PyProof.Rows.boot_zip (PyProof.Rows.callWith_type1 (thn (ha.run pos pins s σ H _ I h) fun us s1 hq => ?_) hs hpl))
  obtain ⟨vs, H1, I1, r1, a, b, t1, t2, xs, ys, rfl, s1', s2', q⟩ := hq
  cases r1 with | cons r rr => ?_
  cases rr with | cons r' rr => ?_
  cases rr
  cases r
  cases r'
  obtain ⟨its1, _, p1, la⟩ := inv_K I1 s1'
  obtain ⟨its2, _, p2, lb⟩ := inv_K I1 s2'
  refine zip_begins2 (beginsK (t := t1) its1.toArray) (beginsK (t := t2) its2.toArray) p1 p2 fun h' hz hti hto b1 b2 hsz hk => wpAny_pyIter_zip hz ?_
  refine ⟨s1.heap.objs.size + 4, [s1.heap.objs.size + 4, s1.heap.objs.size + 2, s1.heap.objs.size + 3, s1.heap.objs.size, s1.heap.objs.size + 1], _, _, H1, rfl, I1.kept (t' := s1.toks) hk, turn_z2 (a := a) (b := b) ⟨?_, fun c hc => ?_⟩, ⟨hz, hti, ⟨_, _, hto⟩, GoK.beg b1, GoK.beg b2, Nat.zero_le _⟩, fun c hc => ?_, q⟩
  · exact five_nd _
  · have hle := five_ge _ _ hc
    exact ⟨Ne.symm (Nat.ne_of_lt (Nat.lt_of_lt_of_le la hle)), Ne.symm (Nat.ne_of_lt (Nat.lt_of_lt_of_le lb hle))⟩
  · have hle := five_ge _ _ hc
    exact I1.fpOk hle (I1.hok.fresh hle)
end DL
set_option Elab.async false
set_option linter.all false
set_option maxRecDepth 100000
namespace DL
open PySem PySem.Spec PyProof.Rows L2
def zip2D (ds es : List DV) : List DV := List.zipWith (fun d e => .tup [d, e]) ds es
section
variable {W : Wd} {Z : Zn} {G F H : Hp} {ρ : Ro} {M : Mu} {ds es fs : List DV} {tx : TA}
theorem sqK_of {d : DV} {v : V} (hd : d = .lst ds ∨ d = .tup ds) (h : Dat W G d v) : ∃ a t xs, v = .ref a ∧ (∀ H, Same G H → SqK t W.K H a xs) ∧ DatL W G ds xs := by
  rcases hd with rfl | rfl
  · obtain ⟨a, xs, rfl, e, l⟩ := dat_lst.mp h
    exact ⟨a, false, xs, rfl, fun H s => SqL.of (s a _ e), l⟩
  · obtain ⟨a, xs, rfl, e, l⟩ := dat_tup.mp h
    exact ⟨a, true, xs, rfl, fun H s => sqt_mono s e, l⟩
theorem itz2_ok {a b : Addr} {t1 t2 : Bool} {xs ys : List V} (h1 : ∀ H, Same G H → SqK t1 W.K H a xs) (h2 : ∀ H, Same G H → SqK t2 W.K H b ys) (d1 : DatL W G ds xs) (d2 : DatL W G es ys) : ItOk W G (Itz2 W.K t1 t2 a b xs ys) (zip2D ds es) where
  go := fun i G' F M H' s R hi => by
    have l1 := d1.length
    have l2 := d2.length
    unfold zip2D at hi
    rw [List.length_zipWith] at hi
    exact ⟨h1 H' (s.trans R.ex), h2 H' (s.trans R.ex), by omega, by omega⟩
  stop := fun i G' F M H' s R hi => by
    have l1 := d1.length
    have l2 := d2.length
    unfold zip2D at hi
    rw [List.length_zipWith] at hi
    exact ⟨h1 H' (s.trans R.ex), h2 H' (s.trans R.ex), by omega⟩
  yld := fun i d G' F M H' x H'' s R hi hy => by
    obtain ⟨p, x1, y1, rfl, hp, rfl, e1, e2⟩ := hy
    obtain ⟨c1, k1, dd1⟩ := (d1.mono s).getV e1
    obtain ⟨c2, k2, dd2⟩ := (d2.mono s).getV e2
    unfold zip2D at hi
    rw [List.getElem?_zipWith, k1, k2] at hi
    cases hi
    obtain ⟨s', R', D⟩ := R.newT hp (datL_cons' dd1 (datL_cons' dd2 datL_nil'))
    exact ⟨_, s', R', D⟩
theorem wi_zip2 {R2 : List DV → Mu → Prop} (h : WA Z tx ρ M fun as M1 => ∃ d e ds es, as = [d, e] ∧ (d = .lst ds ∨ d = .tup ds) ∧ (e = .lst es ∨ e = .tup es) ∧ R2 (zip2D ds es) M1) : WI Z (iZip2 Z.W.K tx) ρ M R2 := fun G σ H R s r E k =>
  h G σ H _ s r E fun as vs G' M' H' s' r' hd ⟨d, e, ds, es, ea, h1, h2, q⟩ => by
    subst ea
    obtain ⟨y1, y2, rfl, e1, e2⟩ := two_of hd
    obtain ⟨a, t1, xs, rfl, k1, d1⟩ := sqK_of h1 e1
    obtain ⟨b, t2, ys, rfl, k2, d2⟩ := sqK_of h2 e2
    exact ⟨a, b, t1, t2, xs, ys, rfl, k1 _ r'.ex, k2 _ r'.ex, k _ _ G' M' H' s' r' (itz2_ok k1 k2 d1 d2) q⟩
end
end DL
set_option Elab.async false
set_option linter.all false
namespace DL
open PySem PySem.Spec PyProof.Rows L2
theorem seqIx_n {n k : Nat} (h : k < n) : seqIndex? (k : Int) n = some k := by
  unfold seqIndex?
  simp
  omega
end DL
set_option Elab.async false
set_option linter.all false
set_option maxRecDepth 100000
set_option maxHeartbeats 1000000
namespace DL
open PySem PySem.Spec PyProof.Rows L2
theorem Sep2.zs {zz ti to i1 i2 a b : Addr} (D : Sep2 zz ti to i1 i2 a b) : ZipSep2 zz ti to i1 i2 [i1, a] [i2, b] := by
  have nd := D.nd
  simp only [List.nodup_cons, List.mem_cons, List.not_mem_nil, or_false, not_or, not_false_eq_true, List.nodup_nil, and_true] at nd
  obtain ⟨⟨n1, n2, n3, n4⟩, ⟨n5, n6, n7⟩, ⟨n8, n9⟩, n10⟩ := nd
  have ha := D.ha
  simp only [List.mem_cons, List.not_mem_nil, or_false, forall_eq_or_imp, forall_eq] at ha
  obtain ⟨⟨a1, b1⟩, ⟨a2, b2⟩, ⟨a3, b3⟩, ⟨a4, b4⟩, ⟨a5, b5⟩⟩ := ha
  exact ⟨Ne.symm n1, Ne.symm n2, n5, n6, by simp, by simp [n3, a1], by simp [n8, a3], n7, by simp, by simp [n4, b1], by simp [n9, b3], by simp [n10, b4], by simp [Ne.symm n10, a5]⟩
section
variable {h h' : Heap} {a : Addr} {t : Bool} {its : Array Value}
theorem AtK.keep (q : AtK t h a its) (k : ∀ o, h.get? a = some o → h'.get? a = some o) : AtK t h' a its := by
  cases t with
  | true => exact Heap.IsTuple.at q k
  | false => exact Heap.IsList.at q k
theorem AtK.obj (q : AtK t h a its) : ∃ o, h.get? a = some o := by
  cases t with
  | true => obtain ⟨o, e, _⟩ := q; exact ⟨o, e⟩
  | false => obtain ⟨o, e, _⟩ := q; exact ⟨o, e⟩
end
section
variable {prog : Program} {w : World} {A : Around} {E : Value → Shared → Prop} {s : Shared} {zz ti to i1 i2 tt : Addr} {fp1 fp2 : List Addr} {n1 n2 i : Nat} {P1 P2 : Nat → Value → Prop} {St1 St2 : Nat → Heap → Prop} {f : Bool} {oT : PySem.Obj}
/-- the next pair of a zip whose last pair is still out -/
theorem zipH_go {Q : Value → Shared → Prop} (S : ZipSep2 zz ti to i1 i2 fp1 fp2) (D1 : Draws prog w A i1 fp1 n1 P1 St1) (D2 : Draws prog w A i2 fp2 n2 P2 St2) (hz : IsZipHeld s.heap zz ti to tt f) (hT : s.heap.get? tt = some oT) (hti : IsTupOf2 s.heap ti (.ref i1) (.ref i2)) (q1 : St1 i s.heap) (q2 : St2 i s.heap) (l1 : i < n1) (l2 : i < n2)
    (hQ : ∀ x1 x2 g tk, P1 i x1 → P2 i x2 → IsZipHeld g zz ti to tt true → St1 (i + 1) g → St2 (i + 1) g → IsTupOf2 g s.heap.objs.size x1 x2 → (∀ c o, c ≠ zz → c ≠ i1 → c ≠ i2 → s.heap.get? c = some o → g.get? c = some o) → Q (.ref s.heap.objs.size) { s with heap := g, toks := tk }) :
    wpAny (model prog w) A (Builtin.«zip.__next__» ⟨[.ref zz], []⟩) (fun fin s' => ∃ v, fin = .done (.ret v) ∧ Q v s') E s := by
  obtain ⟨hp, gs, dr, tk0, os⟩ := s
  show wpAny _ _ (field (.ref zz) 2 >>= _) _ _ _; refine wpAny_bind (wpAny_field hz rfl (x := .bool false) rfl ?_)
  show wpAny _ _ (field (.ref zz) 3 >>= _) _ _ _; refine wpAny_bind (wpAny_field hz rfl (x := .ref ti) rfl (wpAny_bind (wpAny_seqItems hti rfl ?_)))
  show wpAny _ _ (Builtin.SmallTypes.ownedTupleIsFree (.ref zz) >>= _) _ _ _; refine wpAny_bind (wpAny_tupleHeld_zip hz hT fun g1 z1 s1 => ?_)
  replace s1 : Heap.SameBut zz hp g1 := s1
  simp only [Bool.false_eq_true, if_false]; refine wpAny_bind ?_; rw [← Array.forIn_toList]; simp only [List.forIn_cons, List.forIn_nil]
  refine wpAny_bind (wpAny_bind (wpAny_holding ?_)); show wpAny _ _ (Builtin.SmallTypes.nextOf (.ref i1) >>= _) _ _ ⟨g1, gs, dr, tk0, os⟩
  refine wpAny_bind (D1.item i _ _ _ l1 (D1.over q1 s1 S.zf1) fun x1 g2 tk2 y1 r1 s2 => wpAny_pure (wpAny_pure ?_))
  replace s2 : Heap.SameBut i1 g1 g2 := s2
  refine wpAny_bind (wpAny_bind (wpAny_holding ?_)); show wpAny _ _ (Builtin.SmallTypes.nextOf (.ref i2) >>= _) _ _ ⟨g2, gs, dr, tk2, os⟩
  refine wpAny_bind (D2.item i _ _ _ l2 (D2.over (D2.over q2 s1 S.zf2) s2 S.sep1_2) fun x2 g3 tk3 y2 r2 s3 => wpAny_pure (wpAny_pure (wpAny_pure ?_)))
  replace s3 : Heap.SameBut i2 g2 g3 := s3
  show wpAny _ _ (newTuple [x1, x2] >>= _) _ _ ⟨g3, gs, dr, tk3, os⟩; refine wpAny_bind (wpAny_newTuple (wpAny_pure ⟨_, rfl, ?_⟩))
  have hsz : g3.objs.size = hp.objs.size := by rw [s3.1, s2.1, s1.1]
  have z3 : IsZipHeld g3 zz ti to tt true := s3.extBut _ _ S.zi2 (s2.extBut _ _ S.zi1 z1)
  have nw : IsTupOf2 (g3.push { cls := .type "tuple", data := .seq #[x1, x2] }) g3.objs.size x1 x2 := Heap.get?_push_size _ rfl
  show Q (.ref g3.objs.size) ⟨g3.push { cls := .type "tuple", data := .seq #[x1, x2] }, gs, dr, tk3, os⟩
  rw [hsz] at nw ⊢
  refine hQ x1 x2 _ tk3 y1 y2 (Heap.get?_push_of_some _ z3) (D1.frame _ _ _ (D1.over r1 s3 S.sep2_1) fun b _ o e => Heap.get?_push_of_some _ e) (D2.frame _ _ _ r2 fun b _ o e => Heap.get?_push_of_some _ e) nw fun c o c1 c2 c3 e => Heap.get?_push_of_some _ (s3.extBut _ _ c3 (s2.extBut _ _ c2 (s1.extBut _ _ c1 e)))
theorem zipH_end {Q : Fin → Shared → Prop} (S : ZipSep2 zz ti to i1 i2 fp1 fp2) (D1 : Draws prog w A i1 fp1 n1 P1 St1) (D2 : Draws prog w A i2 fp2 n2 P2 St2) (hz : IsZipHeld s.heap zz ti to tt f) (hT : s.heap.get? tt = some oT) (hti : IsTupOf2 s.heap ti (.ref i1) (.ref i2)) (q1 : St1 i s.heap) (q2 : St2 i s.heap) (l1 : i ≤ n1) (l2 : i ≤ n2) (le : i = n1 ∨ i = n2)
    (hE : ∀ g tk e, (∀ c o, c ≠ zz → c ≠ i1 → c ≠ i2 → s.heap.get? c = some o → g.get? c = some o) → (∃ o, g.get? e = some o ∧ o.cls = .type "StopIteration") → E (.ref e) { s with heap := g, toks := tk }) :
    wpAny (model prog w) A (Builtin.«zip.__next__» ⟨[.ref zz], []⟩) Q E s := by
  obtain ⟨hp, gs, dr, tk0, os⟩ := s
  show wpAny _ _ (field (.ref zz) 2 >>= _) _ _ _; refine wpAny_bind (wpAny_field hz rfl (x := .bool false) rfl ?_)
  show wpAny _ _ (field (.ref zz) 3 >>= _) _ _ _; refine wpAny_bind (wpAny_field hz rfl (x := .ref ti) rfl (wpAny_bind (wpAny_seqItems hti rfl ?_)))
  show wpAny _ _ (Builtin.SmallTypes.ownedTupleIsFree (.ref zz) >>= _) _ _ _; refine wpAny_bind (wpAny_tupleHeld_zip hz hT fun g1 z1 s1 => ?_)
  replace s1 : Heap.SameBut zz hp g1 := s1
  simp only [Bool.false_eq_true, if_false]; refine wpAny_bind ?_; rw [← Array.forIn_toList]; simp only [List.forIn_cons, List.forIn_nil]
  refine wpAny_bind (wpAny_bind (wpAny_holding ?_)); show wpAny _ _ (Builtin.SmallTypes.nextOf (.ref i1) >>= _) _ _ ⟨g1, gs, dr, tk0, os⟩
  by_cases lt : i < n1
  · refine wpAny_bind (D1.item i _ _ _ lt (D1.over q1 s1 S.zf1) fun x1 g2 tk2 y1 r1 s2 => wpAny_pure (wpAny_pure ?_))
    replace s2 : Heap.SameBut i1 g1 g2 := s2
    have e2 : i = n2 := by omega
    refine wpAny_bind (wpAny_bind (wpAny_holding ?_)); show wpAny _ _ (Builtin.SmallTypes.nextOf (.ref i2) >>= _) _ _ ⟨g2, gs, dr, tk2, os⟩
    refine wpAny_bind (D2.done ⟨g2, gs, dr, tk2, os⟩ _ _ (by rw [← e2]; exact D2.over (D2.over q2 s1 S.zf2) s2 S.sep1_2) fun g3 e s3 he => ?_)
    exact hE g3 tk2 e (fun c o c1 c2 c3 x => s3 _ _ c3 (s2.extBut _ _ c2 (s1.extBut _ _ c1 x))) he
  · have e1 : i = n1 := by omega
    refine wpAny_bind (D1.done ⟨g1, gs, dr, tk0, os⟩ _ _ (by rw [← e1]; exact D1.over q1 s1 S.zf1) fun g2 e s2 he => ?_)
    exact hE g2 tk0 e (fun c o c1 c2 _ x => s2 _ _ c2 (s1.extBut _ _ c1 x)) he
theorem nextH_go {Q : Option Value → Shared → Prop} (S : ZipSep2 zz ti to i1 i2 fp1 fp2) (D1 : Draws prog w A.in1 i1 fp1 n1 P1 St1) (D2 : Draws prog w A.in1 i2 fp2 n2 P2 St2) (hz : IsZipHeld s.heap zz ti to tt f) (hT : s.heap.get? tt = some oT) (hti : IsTupOf2 s.heap ti (.ref i1) (.ref i2)) (q1 : St1 i s.heap) (q2 : St2 i s.heap) (l1 : i < n1) (l2 : i < n2)
    (hQ : ∀ x1 x2 g tk, P1 i x1 → P2 i x2 → IsZipHeld g zz ti to tt true → St1 (i + 1) g → St2 (i + 1) g → IsTupOf2 g s.heap.objs.size x1 x2 → (∀ c o, c ≠ zz → c ≠ i1 → c ≠ i2 → s.heap.get? c = some o → g.get? c = some o) → Q (some (.ref s.heap.objs.size)) { s with heap := g, toks := tk }) : wpAny (model prog w) A (pyNext (.ref zz)) Q E s := by
  have ty : s.TypeIs (.ref zz) "zip" := ⟨_, hz, rfl⟩
  unfold pyNext
  exact wpAny_bind (wpAny_attempt (wpAny_callSpecial?_slot (name := Str.ofString "__next__") ty F.slot_zip_next (wpAny_call_entry F.slot_zip_next ty F.entry_zip_next (zipH_go S D1 D2 hz hT hti q1 q2 l1 l2 fun x1 x2 g tk k1 k2 k3 k4 k5 k6 k7 => wpAny_pure (hQ x1 x2 g tk k1 k2 k3 k4 k5 k6 k7)) (F.args_zip_next_1 _))))
theorem nextH_end {Q : Option Value → Shared → Prop} (S : ZipSep2 zz ti to i1 i2 fp1 fp2) (D1 : Draws prog w A.in1 i1 fp1 n1 P1 St1) (D2 : Draws prog w A.in1 i2 fp2 n2 P2 St2) (hz : IsZipHeld s.heap zz ti to tt f) (hT : s.heap.get? tt = some oT) (hti : IsTupOf2 s.heap ti (.ref i1) (.ref i2)) (q1 : St1 i s.heap) (q2 : St2 i s.heap) (l1 : i ≤ n1) (l2 : i ≤ n2) (le : i = n1 ∨ i = n2)
    (hQ : ∀ g tk, (∀ c o, c ≠ zz → c ≠ i1 → c ≠ i2 → s.heap.get? c = some o → g.get? c = some o) → Q none { s with heap := g, toks := tk }) : wpAny (model prog w) A (pyNext (.ref zz)) Q E s := by
  have ty : s.TypeIs (.ref zz) "zip" := ⟨_, hz, rfl⟩
  unfold pyNext
  refine wpAny_bind (wpAny_attempt (wpAny_callSpecial?_slot (name := Str.ofString "__next__") ty F.slot_zip_next (wpAny_call_entry F.slot_zip_next ty F.entry_zip_next (zipH_end S D1 D2 hz hT hti q1 q2 l1 l2 le fun g tk e hk he => ?_) (F.args_zip_next_1 _))))
  obtain ⟨o, ho, hc⟩ := he
  exact wpAny_bind (wpAny_isInstance (T := "StopIteration") (b := true) ⟨o, ho, hc⟩ isSubtype_stop (wpAny_pure (hQ _ _ hk)))
end
def Zb2 (t1 t2 : Bool) (zz ti to i1 i2 a b : Addr) (xs ys : Array Value) (h : Heap) : Prop := IsZip h zz ti to .none ∧ IsTupOf2 h ti (.ref i1) (.ref i2) ∧ (∃ u v, IsTupOf2 h to u v) ∧ GoK t1 h i1 a 0 ∧ GoK t2 h i2 b 0 ∧ AtK t1 h a xs ∧ AtK t2 h b ys
theorem pairArg_zip {prog : Program} {w : World} (t1 t2 : Bool) {zz ti to i1 i2 a b : Addr} (D : Sep2 zz ti to i1 i2 a b) (xs ys : Array Value) :
    PairArg prog w "zip" zz [zz, ti, to, i1, i2, a, b] [zz, to, i1, i2] (min xs.size ys.size) (fun i k v => xs[i]? = some k ∧ ys[i]? = some v) (Zb2 t1 t2 zz ti to i1 i2 a b xs ys) := by
  have S := D.zs
  have ha := D.ha
  simp only [List.mem_cons, List.not_mem_nil, or_false, forall_eq_or_imp, forall_eq] at ha
  obtain ⟨⟨a1, b1⟩, ⟨a2, b2⟩, ⟨a3, b3⟩, ⟨a4, b4⟩, ⟨a5, b5⟩⟩ := ha
  refine ⟨fun s ok => ⟨_, ok.1, rfl⟩, by decide, fun h h' ok hk => ?_, fun h ok c hc => ?_, fun c hc => ?_, fun A s Q E hA ok h => getAttrOr_miss_zip ok.1 rfl rfl rfl zip_no_keys (by decide +kernel) hA h, fun A s d Q E hA ok hd hdf h => ?_⟩
  · obtain ⟨hz, hti, ⟨u, v, hto⟩, g1, g2, k1, k2⟩ := ok
    exact ⟨hk _ _ hz, hk _ _ hti, ⟨u, v, hk _ _ hto⟩, g1.keep (hk i1), g2.keep (hk i2), k1.keep (hk a), k2.keep (hk b)⟩
  · obtain ⟨hz, hti, ⟨u, v, hto⟩, g1, g2, k1, k2⟩ := ok
    simp only [List.mem_cons, List.not_mem_nil, or_false] at hc
    rcases hc with e | e | e | e | e | e | e
    · rw [e]; exact ⟨_, hz⟩
    · rw [e]; exact ⟨_, hti⟩
    · rw [e]; exact ⟨_, hto⟩
    · rw [e]; obtain ⟨o, q, _⟩ := g1.obj; exact ⟨o, q⟩
    · rw [e]; obtain ⟨o, q, _⟩ := g2.obj; exact ⟨o, q⟩
    · rw [e]; exact k1.obj
    · rw [e]; exact k2.obj
  · simp only [List.mem_cons, List.not_mem_nil, or_false] at hc ⊢
    rcases hc with e | e | e | e <;> simp [e]
  · obtain ⟨hz, hti, ⟨u, v, hto⟩, g1, g2, k1, k2⟩ := ok
    simp only [List.mem_cons, List.not_mem_nil, or_false, not_or] at hdf
    obtain ⟨dz, dti, dto, di1, di2, da, db⟩ := hdf
    have hA' : A.in1.handled = none := hA
    have D1 := drawsK (t := t1) (prog := prog) (w := w) hA' (Ne.symm a4) xs
    have D2 := drawsK (t := t2) (prog := prog) (w := w) hA' (Ne.symm b5) ys
    refine wpAny_pyIter_zip hz (h zz [zz, to, i1, i2] (fun i g => IsTupOf2 g ti (.ref i1) (.ref i2) ∧ (GoK t1 g i1 a i ∧ AtK t1 g a xs) ∧ (GoK t2 g i2 b i ∧ AtK t2 g b ys) ∧ ((IsZip g zz ti to .none ∧ ∃ u v, IsTupOf2 g to u v) ∨ ∃ T f oT, IsZipHeld g zz ti to T f ∧ g.get? T = some oT ∧ T ≠ zz ∧ T ≠ i1 ∧ T ≠ i2 ∧ T ≠ d)) s.heap s.toks ?_ ⟨hti, ⟨g1, k1⟩, ⟨g2, k2⟩, .inl ⟨hz, u, v, hto⟩⟩ (fun _ _ e => e) fun c hc => .inl hc)
    refine ⟨fun hm => ?_, fun i h1 h2 st hk => ?_, fun i s1 Q1 E1 hi st hds hQ => ?_, fun s1 Q1 E1 st hQ => ?_⟩
    · simp only [List.mem_cons, List.not_mem_nil, or_false] at hm
      rcases hm with e | e | e | e
      · exact dz e
      · exact dto e
      · exact di1 e
      · exact di2 e
    · obtain ⟨hti, ⟨g1, k1⟩, ⟨g2, k2⟩, hz⟩ := st
      refine ⟨hk _ _ (Ne.symm dti) hti, ⟨g1.keep fun o e => hk _ o (Ne.symm di1) e, k1.keep fun o e => hk _ o (Ne.symm da) e⟩, ⟨g2.keep fun o e => hk _ o (Ne.symm di2) e, k2.keep fun o e => hk _ o (Ne.symm db) e⟩, ?_⟩
      rcases hz with ⟨hz, u, v, hto⟩ | ⟨T, f, oT, hz, hT, r1, r2, r3, r4⟩
      · exact .inl ⟨hk _ _ (Ne.symm dz) hz, u, v, hk _ _ (Ne.symm dto) hto⟩
      · exact .inr ⟨T, f, oT, hk _ _ (Ne.symm dz) hz, hk _ _ r4 hT, r1, r2, r3, r4⟩
    · obtain ⟨hti, s1', s2', hz⟩ := st
      have lt : ∀ {c o}, s1.heap.get? c = some o → s1.heap.objs.size ≠ c := fun e => Nat.ne_of_gt (Heap.lt_size e)
      have n1 : s1.heap.objs.size ≠ i1 := let ⟨_, e, _⟩ := s1'.1.obj; lt e
      have n2 : s1.heap.objs.size ≠ i2 := let ⟨_, e, _⟩ := s2'.1.obj; lt e
      rcases hz with ⟨hz, u, v, hto⟩ | ⟨T, f, oT, hz, hT, r1, r2, r3, r4⟩
      · refine wpAny_pyNext_zipD2_item S D1 D2 hz hti hto s1' s2' (by omega) (by omega) fun x1 x2 g tk y1 y2 z' to' q1 q2 nw hsz hk => ?_
        refine hQ s1.heap.objs.size x1 x2 g tk ⟨y1, y2⟩ (.inl ⟨_, nw, rfl, _, rfl⟩) ⟨hk _ _ S.TIz S.TITO S.TIi1 S.TIi2 hti, q1, q2, .inr ⟨s1.heap.objs.size, false, _, z', nw, lt hz, n1, n2, Nat.ne_of_gt hds⟩⟩ fun c o hc e => ?_
        simp only [List.mem_cons, List.not_mem_nil, or_false, not_or] at hc
        exact hk c o hc.1 hc.2.1 hc.2.2.1 hc.2.2.2 e
      · refine nextH_go S D1 D2 hz hT hti s1' s2' (by omega) (by omega) fun x1 x2 g tk y1 y2 z' q1 q2 nw hk => ?_
        refine hQ s1.heap.objs.size x1 x2 g tk ⟨y1, y2⟩ (.inl ⟨_, nw, rfl, _, rfl⟩) ⟨hk _ _ S.TIz S.TIi1 S.TIi2 hti, q1, q2, .inr ⟨T, true, oT, z', hk _ _ r1 r2 r3 hT, r1, r2, r3, r4⟩⟩ fun c o hc e => ?_
        simp only [List.mem_cons, List.not_mem_nil, or_false, not_or] at hc
        exact hk c o hc.1 hc.2.2.1 hc.2.2.2 e
    · obtain ⟨hti, s1', s2', hz⟩ := st
      rcases hz with ⟨hz, u, v, hto⟩ | ⟨T, f, oT, hz, hT, r1, r2, r3, r4⟩
      · refine wpAny_pyNext_zipD2_end S D1 D2 hz hti hto s1' s2' (by omega) (by omega) (by omega) fun g tk hk => hQ g tk fun c o hc e => ?_
        simp only [List.mem_cons, List.not_mem_nil, or_false, not_or] at hc
        exact hk c o hc.1 hc.2.1 hc.2.2.1 hc.2.2.2 e
      · refine nextH_end S D1 D2 hz hT hti s1' s2' (by omega) (by omega) (by omega) fun g tk hk => hQ g tk fun c o hc e => ?_
        simp only [List.mem_cons, List.not_mem_nil, or_false, not_or] at hc
        exact hk c o hc.1 hc.2.2.1 hc.2.2.2 e
end DL
set_option Elab.async false
set_option linter.all false
set_option maxRecDepth 100000
set_option maxHeartbeats 1000000
namespace DL
open PySem PySem.Spec PyProof.Rows L2
def zipL (xs : List Str) (ys : List V) : List (Leaf × V) := (xs.zip ys).map fun kv => (.text kv.1, kv.2)
def tDictZ (W : Wd) (ta : TA) : TE := fun σ H Q => ta σ H fun vs H1 => ∃ a b t1 t2 xs ys, vs = [.ref a, .ref b] ∧ SqK t1 W.K H1 a (xs.map V.str) ∧ SqK t2 W.K H1 b ys ∧ xs.length ≤ 1000 ∧ xs.Nodup ∧ ∀ p, H1 p = none → Q (.ref p) (upd H1 p (leafO W p (zipL xs ys)))
theorem merged_nodup {K : Type} [DecidableEq K] : ∀ {more kvs : List (K × Value)}, ((kvs ++ more).map (·.1)).Nodup → merged kvs more = kvs ++ more
  | [], kvs, h => by simp [merged]
  | p :: ps, kvs, h => by
    have hn : (kvs.any fun kv => decide (kv.1 = p.1)) = false := by
      rw [List.any_eq_false]
      intro q hq hq2
      rw [List.map_append, List.nodup_append] at h
      exact absurd (of_decide_eq_true hq2) (h.2.2 _ (List.mem_map.mpr ⟨q, hq, rfl⟩) _ (by simp))
    have e : stored kvs p.1 p.2 = kvs ++ [(p.1, p.2)] := by
      unfold stored
      simp [hn]
    show merged (stored kvs p.1 p.2) ps = _
    rw [e, merged_nodup (by simpa using h)]
    simp
theorem zip_keys {xs : List Str} (ys : List Value) (h : xs.Nodup) : (((xs.zip ys).map fun kv => ((Leaf.text kv.1, kv.2) : Leaf × Value)).map (·.1)).Nodup := by
  have e : ((xs.zip ys).map fun kv => ((Leaf.text kv.1, kv.2) : Leaf × Value)).map (·.1) = ((xs.zip ys).map (·.1)).map Leaf.text := by rw [List.map_map, List.map_map]; rfl
  rw [e]
  have s : ∀ (xs : List Str) (ys : List Value), ((xs.zip ys).map (·.1)).Sublist xs := by
    intro xs
    induction xs with
    | nil => intro ys; simp
    | cons x xs ih =>
      intro ys
      cases ys with
      | nil => simp
      | cons y ys => simp only [List.zip_cons_cons, List.map_cons]; exact (ih ys).cons₂ x
  exact List.Pairwise.map _ (fun a b hne k => hne (by injection k)) (h.sublist (s xs ys))
theorem kv_zip : ∀ {xs : List Str} {ys : List V} {us : List Value}, Vals ys us → KV (zipL xs ys) ((xs.zip us).map fun kv => (Leaf.text kv.1, kv.2))
  | [], ys, us, _ => by simp [zipL]; exact .nil
  | x :: xs, ys, us, r => by
    cases r with
    | nil => simp [zipL]; exact .nil
    | cons h t =>
      have := kv_zip (xs := xs) t
      simp only [zipL, List.zip_cons_cons, List.map_cons] at this ⊢
      exact .cons ⟨rfl, h⟩ this
theorem pe_dictZ {X : Cx} {W : Wd} {e e2 : Expr} {ta : TA} {p p2 q pos : Pos} (hP : W.P = X.prog) (hw : W.w = X.w) (hK : W.K = X.K) (hcalm : X.calm = true) (hg : Gl X "dict") (hm : X.mg "dict" = none) (hg2 : Gl X "zip") (hm2 : X.mg "zip" = none) (ha : PA X [e, e2] ta)
    (hs : starEach [e, e2] X.env = (false, eval e X.env) :: starEach [e2] X.env := by rfl) (hpl : (backTo q (starEach [e2] X.env)).any (·.1) = false := by rfl) :
    PE X (.Call (.Name "dict" p) [.Call (.Name "zip" p2) [e, e2] [] q] [] pos) (tDictZ W ta) := by
  constructor
  intro pins s σ H Q I h
  refine Call_ (ld_blt I hg hm PyProof.Rows.boot_dict ?_)
  refine PyProof.Rows.callWith_type1 (PyProof.Rows.args_cons ?_ rfl) rfl rfl
  refine Call_ (ld_blt I hg2 hm2 PyProof.Rows.boot_zip (PyProof.Rows.callWith_type1 (thn (ha.run q pins s σ H _ I h) fun us s1 hq => ?_) hs hpl))
  obtain ⟨vs, H1, I1, r1, a, b, t1, t2, xs, ys, rfl, s1', s2', hl, hn, qq⟩ := hq
  cases r1 with | cons r rr => ?_
  cases rr with | cons r' rr => ?_
  cases rr
  cases r
  cases r'
  rw [hK] at s1' s2'
  obtain ⟨its1, v1, p1, la⟩ := inv_K I1 s1'
  obtain ⟨its2, v2, p2', lb⟩ := inv_K I1 s2'
  refine zip_begins2 (beginsK (t := t1) its1.toArray) (beginsK (t := t2) its2.toArray) p1 p2' fun h' hz hti hto b1 b2 hsz hk => PyProof.Rows.args_nil ?_
  have D : Sep2 (s1.heap.objs.size + 4) (s1.heap.objs.size + 2) (s1.heap.objs.size + 3) s1.heap.objs.size (s1.heap.objs.size + 1) a b := ⟨five_nd _, fun c hc => by
    have hle := five_ge _ _ hc
    exact ⟨Ne.symm (Nat.ne_of_lt (Nat.lt_of_lt_of_le la hle)), Ne.symm (Nat.ne_of_lt (Nat.lt_of_lt_of_le lb hle))⟩⟩
  have I2 : Inv X pins σ H1 { s1 with heap := h' } := I1.kept (t' := s1.toks) hk
  have l1 : its1.length = xs.length := by have := v1.length; simp at this; omega
  have hstr : ∀ i v, its1[i]? = some v → ∃ x t, xs[i]? = some x ∧ v = Value.str x t := fun i v hv => strs_at v1 i v hv
  refine PySem.call_dict_pairs (knd := leafKind X.prog X.w) (kvs := (xs.zip its2).map fun kv => (Leaf.text kv.1, kv.2)) (s := { s1 with heap := h' }) (pairArg_zip t1 t2 D its1.toArray its2.toArray) (I1.ok.hd hcalm) ⟨hz, hti, ⟨_, _, hto⟩, GoK.beg b1, GoK.beg b2, p1.keep (hk a), p2'.keep (hk b)⟩ ⟨?_, fun i key v hr => ?_⟩ (le_size (by simp; omega)) fun h'' tk hd'' k => ?_
  · simp
    omega
  · obtain ⟨e1, e2⟩ := hr
    obtain ⟨x, t, hx, rfl⟩ := hstr i key (by simpa using e1)
    refine ⟨.text x, ?_, by show (x == x) = true; simp⟩
    rw [List.getElem?_map, List.zip, List.getElem?_zipWith, hx, show its2[i]? = some v by simpa using e2]
    rfl
  · rw [merged_nodup (by rw [List.nil_append]; exact zip_keys _ hn), List.nil_append] at hd''
    have hm : (h'.objs.size == sysModules) = false := beq_eq_false_iff_ne.mpr (Nat.ne_of_gt I2.big)
    have hsz' : s1.heap.objs.size ≤ h'.objs.size := by rw [hsz]; exact Nat.le_add_right _ _
    have k' : ∀ b u, s1.heap.get? b = some u → h''.get? b = some u := fun b u e => k b u (fun hc => by
      have hle : s1.heap.objs.size ≤ b := five_ge _ _ (by simp only [List.mem_cons, List.not_mem_nil, or_false] at hc ⊢; rcases hc with e | e | e | e <;> simp [e])
      exact absurd (Heap.lt_size e) (Nat.not_lt_of_le hle)) (hk b u e)
    have hlen : (zipL xs ys).length ≤ sizeLine := le_size (by unfold zipL; simp; omega)
    exact ⟨.ref h'.objs.size, _, I1.laid (t' := tk) k' hsz' (lf_new hP hw hlen hm (kv_zip v2) hd''), rfl, qq _ (I1.hok.fresh hsz')⟩
section
variable {W : Wd} {Z : Zn} {G F H : Hp} {ρ : Ro} {M : Mu} {Q2 : DQ} {tx : TA} {te : TE} {d e : DV} {kvs : KVs}
def zipKV (zs : List Str) (es : List DV) : KVs := (zs.zip es).map fun kv => (.text kv.1, kv.2)
theorem kd_zip : ∀ {zs : List Str} {es : List DV} {ys : List V}, DatL W G es ys → KD W G (zipKV zs es) (zipL zs ys)
  | [], es, ys, _ => .nil
  | z :: zs, [], ys, h => by rw [datL_nil.mp h]; exact .nil
  | z :: zs, e :: es, ys, h => by
    obtain ⟨y, r, rfl, h1, h2⟩ := datL_cons.mp h
    have := kd_zip (zs := zs) h2
    simp only [zipKV, zipL, List.zip_cons_cons, List.map_cons] at this ⊢
    exact .cons h1 this
theorem we_dictZ {P : Program} {w : World} {K : PySem.W.Frag} (hW : Z.W = ⟨P, w, K⟩) (h : WA Z tx ρ M fun as M1 => ∃ d e zs es, as = [d, e] ∧ (d = .lst (zs.map DV.s) ∨ d = .tup (zs.map DV.s)) ∧ (e = .lst es ∨ e = .tup es) ∧ zs.length ≤ 1000 ∧ zs.Nodup ∧ Q2 (dlD (zipKV zs es)) M1) : WE Z (tDictZ ⟨P, w, K⟩ tx) ρ M Q2 := by
  rw [← hW]
  intro G σ H Q s r E k
  refine h G σ H _ s r E fun as vs G' M' H' s' r' hd hq => ?_
  obtain ⟨d, e, zs, es, rfl, h1, h2, hl, hn, q⟩ := hq
  obtain ⟨y1, y2, rfl, e1, e2⟩ := two_of hd
  obtain ⟨a, t1, xs, rfl, k1, d1⟩ := sqK_of h1 e1
  obtain ⟨b, t2, ys, rfl, k2, d2⟩ := sqK_of h2 e2
  rw [datL_str d1] at k1
  refine ⟨a, b, t1, t2, zs, ys, rfl, k1 _ r'.ex, k2 _ r'.ex, hl, hn, fun p hp => ?_⟩
  obtain ⟨us, eu, du⟩ := (kd_zip (zs := zs) d2).back
  have sn := same_new (o := leafO Z.W p (zipL zs ys)) (r'.gnone hp)
  refine k _ _ _ _ _ (s'.trans sn) (r'.new hp) (dat_dl.mpr ⟨p, us, rfl, ?_, by simp, du.mono sn⟩) q
  rw [← eu]
  exact upd_same
end
end DL
set_option Elab.async false
set_option linter.all false
namespace DL
open PySem PySem.Spec PyProof.Rows L2
def lookI (cs : List Str) (row : List Int) (z : Str) : Option Int := ((cs.zip row).find? fun kv => decide (kv.1 = z)).map (·.2)
theorem lookI_pos {c z : Str} {cs : List Str} {v : Int} {row : List Int} (e : c = z) : lookI (c :: cs) (v :: row) z = some v := by
  unfold lookI
  rw [List.zip_cons_cons, List.find?_cons_of_pos (by simpa using e)]
  rfl
theorem lookI_neg {c z : Str} {cs : List Str} {v : Int} {row : List Int} (e : ¬ c = z) : lookI (c :: cs) (v :: row) z = lookI cs row z := by
  unfold lookI
  rw [List.zip_cons_cons, List.find?_cons_of_neg (by simpa using e)]
theorem val_zip : ∀ (cs : List Str) (row : List Int) (z : Str), valL (zipKV cs (row.map DV.i)) (.text z) = (lookI cs row z).map DV.i
  | [], row, z => rfl
  | c :: cs, [], z => rfl
  | c :: cs, v :: row, z => by
    show valL ((.text c, DV.i v) :: zipKV cs (row.map DV.i)) (.text z) = _
    by_cases e : c = z
    · rw [valL_pos (by rw [e]), lookI_pos e]
      rfl
    · rw [valL_neg (by intro k; injection k with k; exact e k), lookI_neg e, val_zip cs row z]
theorem lookI_some : ∀ {cs : List Str} {row : List Int} {z : Str}, row.length = cs.length → z ∈ cs → ∃ v, lookI cs row z = some v
  | [], row, z, _, h => by cases h
  | c :: cs, [], z, h, _ => by simp at h
  | c :: cs, v :: row, z, h, hz => by
    by_cases e : c = z
    · exact ⟨v, lookI_pos e⟩
    · rw [lookI_neg e]
      exact lookI_some (by simpa using h) ((List.mem_cons.mp hz).resolve_left (Ne.symm e))
theorem mapD_get {α : Type} {f : α → DV} {l : List α} {i : Nat} {d : DV} (h : (l.map f)[i]? = some d) : ∃ c, l[i]? = some c ∧ d = f c := by
  rw [List.getElem?_map] at h
  cases e : l[i]? with
  | none => rw [e] at h; cases h
  | some c => rw [e] at h; cases h; exact ⟨c, rfl, rfl⟩
/-- a loop at the end of a body, the store changing -/
theorem loop_SE {Z : Zn} {ρ : Ro} {ts : TS} {D2 : Ends2} {g : TG} {β : Type} (is : List Nat) (S : β → Mu) (I : Nat → β → Prop) {b0 : β} {items : List DV} (h0 : I 0 b0)
    (hs : ∀ (i : Nat) d b, items[i]? = some d → I i b → WG Z g d (wipe2 ρ is) (S b) fun ρ1 M1 => WS Z ts { nx := fun ρ2 M2 => wipe2 ρ2 is = wipe2 ρ is ∧ ∃ b', I (i + 1) b' ∧ M2 = S b', rt := D2.rt, bk := D2.nx, ct := fun ρ2 M2 => wipe2 ρ2 is = wipe2 ρ is ∧ ∃ b', I (i + 1) b' ∧ M2 = S b' } ρ1 M1)
    (hk : ∀ ρ2 b, wipe2 ρ2 is = wipe2 ρ is → I items.length b → D2.nx ρ2 (S b)) : Loop Z g ts D2 items ρ (S b0) := by
  refine loop_word (fun j ρ2 M2 => wipe2 ρ2 is = wipe2 ρ is ∧ ∃ b, I j b ∧ M2 = S b) items 0 ρ _ ⟨rfl, b0, h0, rfl⟩ (fun i d ρ2 M2 hi h => ?_) fun ρ2 M2 h => ?_
  · rw [Nat.zero_add] at h ⊢
    obtain ⟨h1, b, h2, rfl⟩ := h
    refine wg_env is ?_
    rw [h1]
    exact hs i d b hi h2
  · rw [Nat.zero_add] at h
    obtain ⟨h1, b, h2, rfl⟩ := h
    exact hk ρ2 b h1 h2
end DL
set_option Elab.async false
set_option linter.all false
set_option maxRecDepth 100000
namespace DL
open PySem PySem.Spec PyProof.Rows L2
end DL
set_option Elab.async false
set_option linter.all false
namespace DL
open PySem PySem.Spec PyProof.Rows L2
/-- a row over unlike names is told by its values -/
def valR (zs : List Str) (r : List Int) (z : Str) : Int := (lookI zs r z).getD 0
theorem map_valR : ∀ {zs : List Str} {r : List Int}, zs.Nodup → r.length = zs.length → zs.map (valR zs r) = r
  | [], r, _, h => by
    have : r = [] := List.length_eq_zero_iff.mp (by simpa using h)
    rw [this]
    rfl
  | c :: cs, [], _, h => by simp at h
  | c :: cs, v :: r, hn, h => by
    have hn' := List.nodup_cons.mp hn
    rw [List.map_cons]
    congr 1
    · unfold valR
      rw [lookI_pos rfl]
      rfl
    · refine Eq.trans (List.map_congr_left fun z hz => ?_) (map_valR (zs := cs) (r := r) hn'.2 (by simpa using h))
      unfold valR
      rw [lookI_neg (fun e : c = z => hn'.1 (by rw [e]; exact hz))]
end DL
set_option Elab.async false
set_option linter.all false
namespace DL
open PySem PySem.Spec PyProof.Rows L2
def rInU (K : PySem.W.Frag) : R2 := fun x y H Q => ∃ p ps, Dp K H x p ∧ Dp K H y (.tuple ps) ∧ SeqAt.shaped p = true ∧ SeqAt.shaped (.tuple ps) = true ∧ Q (.bl (ps.any fun z => PyData.eqv z p)) H
theorem k_inU {X : Cx} {K : PySem.W.Frag} (e : X.K = K) (hu : X.A.units + 65 < cLine) : OpR X (compareOp .In) (rInU K) := by
  subst e
  intro pins s σ H x y v u Q I rx ry ⟨p, ps, h1, h2, s1, s2, q⟩
  obtain ⟨_, k1⟩ := Dp.reads I p x v h1 rx
  obtain ⟨_, k2⟩ := Dp.reads I (.tuple ps) y u h2 ry
  have l1 := SeqAt.canLay_of_shaped s1
  have l2 : PyData.canLayAll0 ps = true := SeqAt.canLay_of_shaped s2
  refine SeqAt.in_tuple_reads k2 k1 l2 l1 ?_ ⟨.bl _, H, I, rfl, q⟩
  exact room_in_shaped s1 hu
section
variable {W : Wd} {Z : Zn} {G F H : Hp} {M : Mu} {Q2 : DQ} {x y d : DV} {ds : List DV}
theorem wr_inU (hx : Hold M x d) (h1 : d.pln = true) (h2 : plnL ds = true) (h3 : d.dep ≤ 64) (h4 : depL ds ≤ 63) (h : ∀ b : Bool, (b = true ↔ d ∈ ds) → Q2 (.b b) M) : WR Z (rInU Z.W.K) x (.tup ds) M Q2 := fun G H vx vy Q s R dx dy r => by
  obtain ⟨p, e1, e2, e3⟩ := good_py d (pln_good d h1)
  obtain ⟨ps, e4, e5, e6⟩ := goodL_py ds (plnL_good ds h2)
  have hy : PyOf M (.tup ds) (.tuple ps) := .inl (by show (pyL ds).map PyData.tuple = _; rw [e4]; rfl)
  refine ⟨p, ps, (hx.py e1).dp R dx, hy.dp R dy, shaped_of e2 (by rw [e3]; exact h3), shaped_of (p := .tuple ps) (by simpa [PyData.canLay0] using e5) (by simp [PyData.depth, e6]; omega), ?_⟩
  exact r (.b _) _ G M H (Same.refl G) R dat_v' (h _ (anyEqv h2 h1 e4 e1))
end
end DL
set_option Elab.async false
set_option linter.all false
set_option maxRecDepth 100000
namespace DL
open PySem PySem.Spec PyProof.Rows L2
abbrev Stk := List (Option Str)
structure NSt where
  found : Prs
  stk : Stk
  name : Str
  shut : Bool
def NSt.top (s : NSt) : Option Str := s.stk.headD none
def NSt.isNew (s : NSt) : Bool := decide (s.name ≠ "") && decide (s.name ∉ namesOf s.found)
def NSt.ended (s : NSt) : Prs := if s.shut then s.found else s.found ++ [(s.name, s.top)]
def growB (s : NSt) (c : Nat) : Bool := if s.shut = true ∨ 8 < (s.name ++ chr c).length then false else decide ((s.name ++ chr c).length < 8) || decide (s.name ++ chr c ∉ namesOf s.found)
def takeF (s : NSt) (c : Nat) : Bool × NSt :=
  if c ∈ letters.cps.toList then (growB s c, { s with name := s.name ++ chr c })
  else if s.shut = false ∧ s.isNew = false then (false, s)
  else if (c = 40 ∧ s.shut = true) ∨ (c = 41 ∧ s.stk.length = 1) then (false, s)
  else if c = 41 then (true, ⟨s.ended, s.stk.tail, s.name, true⟩)
  else (decide (c = 40 ∨ c = 44) && decide (s.ended.length < 8), ⟨s.ended, if c = 40 then some s.name :: s.stk else s.stk, "", false⟩)
def runF : NSt → List Nat → Option NSt
  | s, [] => some s
  | s, c :: T => if (takeF s c).1 = true then runF (takeF s c).2 T else none
theorem tl_inj {x y : Str} (h : TL.tl x = TL.tl y) : x = y := by
  cases x with
  | mk a =>
    cases y with
    | mk b =>
      congr 1
      exact Array.toList_inj.mp h
theorem tl_emp : TL.tl ("" : Str) = [] := rfl
structure NI (s : NSt) : Prop where
  tr : TrF [] s.found
  few : s.found.length ≤ 8
  few' : s.shut = false → s.found.length < 8
  sin : ∀ c, some c ∈ s.stk → c ∈ namesOf s.found
  snd : s.stk.Nodup
  bot : s.stk.getLast? = some none
  let' : ∀ c ∈ TL.tl s.name, c ∈ letters.cps.toList
  len : s.name.length ≤ 8
theorem isNew_iff {s : NSt} : s.isNew = true ↔ s.name ≠ "" ∧ s.name ∉ namesOf s.found := by
  unfold NSt.isNew
  rw [Bool.and_eq_true, decide_eq_true_eq, decide_eq_true_eq]
theorem len_pos {x : Str} (h : x ≠ "") : 1 ≤ x.length := by
  rcases Nat.lt_or_ge x.length 1 with k | k
  · exfalso
    refine h (tl_inj ?_)
    rw [tl_emp]
    exact List.length_eq_zero_iff.mp (by rw [tl_len]; omega)
  · exact k
theorem NI.top_in {s : NSt} (h : NI s) : ∀ c, s.top = some c → c ∈ namesOf s.found := fun c e => by
  unfold NSt.top at e
  cases hs : s.stk with
  | nil => rw [hs] at e; cases e
  | cons o l =>
    rw [hs] at e
    exact h.sin c (by rw [hs]; exact List.mem_cons.mpr (.inl e.symm))
theorem NI.pair {s : NSt} (h : NI s) (hn : s.isNew = true) : okPair (namesOf s.found) (s.name, s.top) := by
  obtain ⟨h1, h2⟩ := isNew_iff.mp hn
  exact ⟨nameB_iff.mpr ⟨len_pos h1, h.len, h.let'⟩, h2, h.top_in⟩
theorem NI.ended_tr {s : NSt} (h : NI s) (hn : s.shut = true ∨ s.isNew = true) : Tr s.ended := by
  unfold NSt.ended
  cases hs : s.shut with
  | true => exact ⟨h.few, h.tr⟩
  | false =>
    have hn' : s.isNew = true := hn.resolve_left (by rw [hs]; simp)
    refine ⟨by have := h.few' hs; simp; omega, ?_⟩
    exact TrF.snoc h.tr (by rw [List.nil_append]; exact h.pair hn')
theorem ended_names {s : NSt} {c : Str} (h : c ∈ namesOf s.found) : c ∈ namesOf s.ended := by
  unfold NSt.ended
  split
  · exact h
  · rw [namesOf_app]
    exact List.mem_append_left _ h
theorem getLast_tail {l : Stk} (h : l.getLast? = some none) (h2 : l.length ≠ 1) : l.tail.getLast? = some none := by
  match l, h, h2 with
  | [_], _, h2 => exact absurd rfl h2
  | _ :: b :: l, h, _ => simpa using h
theorem NI.step {s : NSt} {c : Nat} (h : NI s) (ok : (takeF s c).1 = true) : NI (takeF s c).2 := by
  unfold takeF at ok ⊢
  by_cases h1 : c ∈ letters.cps.toList
  · rw [if_pos h1] at ok ⊢
    simp only at ok ⊢
    unfold growB at ok
    split at ok
    · cases ok
    · rename_i h2
      refine ⟨h.tr, h.few, h.few', h.sin, h.snd, h.bot, fun d hd => ?_, by show (s.name ++ chr c).length ≤ 8; omega⟩
      rw [show TL.tl (s.name ++ chr c) = TL.tl s.name ++ [c] from TL.tl_append _ _] at hd
      rcases List.mem_append.mp hd with k | k
      · exact h.let' d k
      · rw [List.mem_singleton.mp k]
        exact h1
  · rw [if_neg h1] at ok ⊢
    by_cases h2 : s.shut = false ∧ s.isNew = false
    · rw [if_pos h2] at ok
      cases ok
    · rw [if_neg h2] at ok ⊢
      have hn : s.shut = true ∨ s.isNew = true := by
        cases e : s.shut with
        | true => exact .inl rfl
        | false => exact .inr (by cases e2 : s.isNew with | true => rfl | false => exact absurd ⟨e, e2⟩ h2)
      have ht := h.ended_tr hn
      by_cases h3 : (c = 40 ∧ s.shut = true) ∨ (c = 41 ∧ s.stk.length = 1)
      · rw [if_pos h3] at ok
        cases ok
      · rw [if_neg h3] at ok ⊢
        by_cases h4 : c = 41
        · rw [if_pos h4]
          refine ⟨ht.ok, ht.len, fun e => (by cases e), fun d hd => ended_names (h.sin d (List.mem_of_mem_tail hd)), h.snd.sublist (List.tail_sublist _), getLast_tail h.bot fun e => h3 (.inr ⟨h4, e⟩), h.let', h.len⟩
        · rw [if_neg h4] at ok ⊢
          simp only [Bool.and_eq_true, decide_eq_true_eq] at ok
          refine ⟨ht.ok, by show s.ended.length ≤ 8; omega, fun _ => ok.2, fun d hd => ?_, ?_, ?_, fun d hd => by simp [tl_emp] at hd, by show ("" : Str).length ≤ 8; decide⟩
          · simp only at hd
            split at hd
            · rename_i h5
              rcases List.mem_cons.mp hd with k | k
              · cases k
                have hs : s.shut = false := by
                  cases e : s.shut with
                  | true => exact absurd (.inl ⟨h5, e⟩) h3
                  | false => rfl
                unfold NSt.ended
                rw [hs]
                simp [namesOf]
              · exact ended_names (h.sin d k)
            · exact ended_names (h.sin d hd)
          · simp only
            split
            · rename_i h5
              have hs : s.shut = false := by
                cases e : s.shut with
                | true => exact absurd (.inl ⟨h5, e⟩) h3
                | false => rfl
              rw [List.nodup_cons]
              exact ⟨fun k => (isNew_iff.mp (hn.resolve_left (by rw [hs]; simp))).2 (h.sin _ k), h.snd⟩
            · exact h.snd
          · simp only
            split
            · cases e : s.stk with
              | nil => have := h.bot; rw [e] at this; cases this
              | cons b l => rw [List.getLast?_cons_cons, ← e]; exact h.bot
            · exact h.bot
theorem NI.run : ∀ {T : List Nat} {s s' : NSt}, NI s → runF s T = some s' → NI s'
  | [], s, s', h, e => by cases e; exact h
  | c :: T, s, s', h, e => by
    unfold runF at e
    split at e
    · rename_i ok
      exact NI.run (T := T) (h.step ok) e
    · cases e
end DL
set_option Elab.async false
set_option linter.all false
set_option maxRecDepth 100000
namespace DL
open PySem PySem.Spec PyProof.Rows L2
theorem ended_shut {s : NSt} (h : s.shut = true) : s.ended = s.found := by unfold NSt.ended; rw [h]; rfl
theorem ended_open {s : NSt} (h : s.shut = false) : s.ended = s.found ++ [(s.name, s.top)] := by unfold NSt.ended; rw [h]; rfl
end DL
set_option Elab.async false
set_option linter.all false
set_option maxRecDepth 100000
namespace DL
open PySem PySem.Spec PyProof.Rows L2
end DL
set_option Elab.async false
set_option linter.all false
set_option maxRecDepth 100000
namespace DL
open PySem PySem.Spec PyProof.Rows L2
section
variable {F : Prs} {n : Str} {o : Option Str}
theorem kids_snoc (b : Option Str) : kidsOf (F ++ [(n, o)]) b = kidsOf F b ++ (if o = b then [n] else []) := kidsOf_snoc b
theorem ordF_far : ∀ (k : Nat) (b : Option Str), b ≠ o → (∀ c, o = some c → c ∉ ordF F k b) → ordF (F ++ [(n, o)]) k b = ordF F k b
  | 0, b, _, _ => rfl
  | k + 1, b, hb, h => by
    show (kidsOf (F ++ [(n, o)]) b).flatMap _ = (kidsOf F b).flatMap _
    rw [kids_snoc, if_neg (Ne.symm hb), List.append_nil]
    refine flatMap_congr' fun c hc => ?_
    have hin : ∀ d, d ∈ c :: ordF F k (some c) → d ∈ ordF F (k + 1) b := fun d hd => List.mem_flatMap.mpr ⟨c, hc, hd⟩
    rw [ordF_far k (some c) (fun e => h c e.symm (hin c List.mem_cons_self)) fun d e k2 => h d e (hin d (List.mem_cons_of_mem _ k2))]
theorem ord_far (t : Tr F) {b : Option Str} (hb : b ≠ o) (h : ∀ c, o = some c → c ∉ ord F b) : ord (F ++ [(n, o)]) b = ord F b := by
  have e : ordF F (F.length + 1) b = ord F b := ordF_more t (rk_le b) (Nat.le_succ _)
  show ordF (F ++ [(n, o)]) (F ++ [(n, o)]).length b = _
  rw [List.length_append, List.length_singleton, ordF_far (F.length + 1) b hb (fun c hc => by rw [e]; exact h c hc), e]
end
/-- one stands beneath the other as its last child, all the way down -/
def Chain (F : Prs) : Stk → Prop
  | [] => True
  | [_] => True
  | o :: b :: l => (∃ c, o = some c ∧ (kidsOf F b).getLast? = some c) ∧ Chain F (b :: l)
theorem chain_add {F : Prs} {n : Str} {o : Option Str} : ∀ {l : Stk}, (∀ b ∈ l.tail, b ≠ o) → Chain F l → Chain (F ++ [(n, o)]) l
  | [], _, _ => trivial
  | [_], _, _ => trivial
  | a :: b :: l, h, ⟨⟨c, h1, h2⟩, h3⟩ => ⟨⟨c, h1, by
      rw [kids_snoc, if_neg (Ne.symm (h b List.mem_cons_self)), List.append_nil]
      exact h2⟩, chain_add (fun x hx => h x (List.mem_cons_of_mem _ hx)) h3⟩
theorem chain_ord {F : Prs} {n : Str} {o : Option Str} (t : Tr F) (t' : Tr (F ++ [(n, o)])) : ∀ (l : Stk) (a : Option Str), (a :: l).Nodup → (o = a ∨ o ∉ a :: l) → Chain F (a :: l) → ord (F ++ [(n, o)]) a = ord F a ++ [n] → (o = a ∨ ∃ c, o = some c ∧ c ∈ ord F a) → ∀ b ∈ a :: l, ord (F ++ [(n, o)]) b = ord F b ++ [n]
  | [], a, _, _, _, ha, _ => fun b hb => by rw [List.mem_singleton.mp hb]; exact ha
  | b :: l, a, hn, ho, ⟨⟨c, e1, e2⟩, hch⟩, ha, hin => by
    have hn' := List.nodup_cons.mp hn
    have hob : b ≠ o := fun e => by
      rcases ho with k | k
      · exact hn'.1 (by rw [← k, ← e]; exact List.mem_cons_self)
      · exact k (by rw [← e]; exact List.mem_cons_of_mem _ List.mem_cons_self)
    obtain ⟨ini, ei⟩ : ∃ ini, kidsOf F b = ini ++ [c] := by
      have hne : kidsOf F b ≠ [] := fun e => by rw [e] at e2; cases e2
      refine ⟨(kidsOf F b).dropLast, ?_⟩
      have := List.dropLast_concat_getLast hne
      rw [List.getLast?_eq_some_getLast hne] at e2
      injection e2 with e2
      rw [e2] at this
      exact this.symm
    have hc : c ∈ kidsOf F b := by rw [ei]; simp
    have onb : ord F b = (ini.flatMap fun d => d :: ord F (some d)) ++ (c :: ord F (some c)) := by
      rw [ord_eq t b, ei, List.flatMap_append]
      simp
    have hoc : ∃ x, o = some x ∧ x ∈ c :: ord F (some c) := by
      rcases hin with k | ⟨x, k1, k2⟩
      · exact ⟨c, k.trans e1, List.mem_cons_self⟩
      · exact ⟨x, k1, List.mem_cons_of_mem _ (by rw [e1] at k2; exact k2)⟩
    obtain ⟨x, ex, hx⟩ := hoc
    have hdis : ∀ d ∈ ini, x ∉ d :: ord F (some d) := fun d hd k => by
      have nd := ord_nodup t b
      rw [onb] at nd
      exact (List.nodup_append.mp nd).2.2 x (List.mem_flatMap.mpr ⟨d, hd, k⟩) x hx rfl
    have hb : ord (F ++ [(n, o)]) b = ord F b ++ [n] := by
      rw [ord_eq t' b, kids_snoc, if_neg (Ne.symm hob), List.append_nil, ei, List.flatMap_append, onb]
      have h1 : ini.flatMap (fun d => d :: ord (F ++ [(n, o)]) (some d)) = ini.flatMap fun d => d :: ord F (some d) := flatMap_congr' fun d hd => by
        rw [ord_far t (fun e => hdis d hd (by rw [ex] at e; injection e with e; rw [e]; exact List.mem_cons_self)) fun y ey k => hdis d hd (by rw [ex] at ey; injection ey with ey; rw [ey]; exact List.mem_cons_of_mem _ k)]
      rw [h1]
      rw [e1] at ha
      simp [ha]
    have key := chain_ord t t' l b hn'.2 (.inr fun k => by
      rcases ho with h | h
      · exact hn'.1 (h ▸ k)
      · exact h (List.mem_cons_of_mem _ k)) hch hb (.inr ⟨x, ex, by rw [onb]; exact List.mem_append_right _ hx⟩)
    intro y hy
    rcases List.mem_cons.mp hy with k | k
    · rw [k]; exact ha
    · exact key y k
theorem ord_top {F : Prs} {n : Str} {o : Option Str} (t : Tr F) (t' : Tr (F ++ [(n, o)])) (hn : n ∉ namesOf F) (ho : inT F o) : ord (F ++ [(n, o)]) o = ord F o ++ [n] := by
  have hon : o ≠ some n := fun e => hn (ho n e)
  rw [ord_eq t' o, kids_snoc, if_pos rfl, List.flatMap_append, ord_eq t o]
  congr 1
  · refine flatMap_congr' fun c hc => ?_
    have hr := rk_kid t hc
    rw [ord_far t (fun e => by rw [e] at hr; omega) fun d ed k => by
      have := rk_ord t (n := F.length) k
      rw [ed] at hr
      omega]
  · have : ord (F ++ [(n, o)]) (some n) = [] := by
      rw [ord_eq t', kids_snoc, if_neg hon, List.append_nil, kids_out t hn]
      rfl
    simp [this]
/-- the order of what is told -/
structure PI (s : NSt) : Prop where
  ord_ : ord s.found none = namesOf s.found
  ch : Chain s.found s.stk
theorem NI.trF {s : NSt} (h : NI s) : Tr s.found := ⟨h.few, h.tr⟩
theorem PI.ended {s : NSt} (h : NI s) (p : PI s) (hn : s.shut = true ∨ s.isNew = true) : ord s.ended none = namesOf s.ended ∧ Chain s.ended s.stk ∧ (s.shut = false → Chain s.ended (some s.name :: s.stk)) := by
  cases hs : s.shut with
  | true => rw [ended_shut hs]; exact ⟨p.ord_, p.ch, fun e => by cases e⟩
  | false =>
    have hn' := hn.resolve_left (by rw [hs]; simp)
    have t' := h.ended_tr hn
    rw [ended_open hs] at t' ⊢
    have hnm := (isNew_iff.mp hn').2
    obtain ⟨o, l, hl⟩ : ∃ o l, s.stk = o :: l := by
      cases e : s.stk with
      | nil => have := h.bot; rw [e] at this; cases this
      | cons o l => exact ⟨o, l, rfl⟩
    have ht : s.top = o := by unfold NSt.top; rw [hl]; rfl
    have hnd : (o :: l).Nodup := hl ▸ h.snd
    have hch : Chain s.found (o :: l) := hl ▸ p.ch
    have hot : inT s.found o := fun c e => h.sin c (by rw [hl, e]; exact List.mem_cons_self)
    rw [ht] at t' ⊢
    have htop := ord_top h.trF t' hnm hot
    have hbot : none ∈ o :: l := by
      have := h.bot
      rw [hl] at this
      exact List.mem_of_getLast? this
    have ch1 : Chain (s.found ++ [(s.name, o)]) (o :: l) := chain_add (fun b hb e => (List.nodup_cons.mp hnd).1 (e ▸ hb)) hch
    refine ⟨?_, hl ▸ ch1, fun _ => ?_⟩
    · rw [chain_ord h.trF t' l o hnd (.inl rfl) hch htop (.inl rfl) none hbot, p.ord_, namesOf_app]
      rfl
    · rw [hl]
      refine ⟨⟨s.name, rfl, ?_⟩, ch1⟩
      rw [kids_snoc, if_pos rfl]
      simp
theorem chain_tail {F : Prs} : ∀ {l : Stk}, Chain F l → Chain F l.tail
  | [], _ => trivial
  | [_], _ => trivial
  | _ :: _ :: _, h => h.2
theorem PI.step {s : NSt} {c : Nat} (h : NI s) (p : PI s) (ok : (takeF s c).1 = true) : PI (takeF s c).2 := by
  unfold takeF at ok ⊢
  by_cases k1 : c ∈ letters.cps.toList
  · rw [if_pos k1]
    exact ⟨p.ord_, p.ch⟩
  rw [if_neg k1] at ok ⊢
  by_cases k2 : s.shut = false ∧ s.isNew = false
  · rw [if_pos k2] at ok; cases ok
  rw [if_neg k2] at ok ⊢
  have hn : s.shut = true ∨ s.isNew = true := by
    cases e : s.shut with
    | true => exact .inl rfl
    | false => exact .inr (by cases e2 : s.isNew with | true => rfl | false => exact absurd ⟨e, e2⟩ k2)
  obtain ⟨e1, e2, e3⟩ := p.ended h hn
  by_cases k3 : (c = 40 ∧ s.shut = true) ∨ (c = 41 ∧ s.stk.length = 1)
  · rw [if_pos k3] at ok; cases ok
  rw [if_neg k3] at ok ⊢
  by_cases k4 : c = 41
  · rw [if_pos k4]
    exact ⟨e1, chain_tail e2⟩
  · rw [if_neg k4]
    refine ⟨e1, ?_⟩
    show Chain s.ended (if c = 40 then some s.name :: s.stk else s.stk)
    split
    · rename_i k5
      refine e3 ?_
      cases e : s.shut with
      | true => exact absurd (.inl ⟨k5, e⟩) k3
      | false => rfl
    · exact e2
theorem PI.run : ∀ {T : List Nat} {s s' : NSt}, NI s → PI s → runF s T = some s' → PI s'
  | [], s, s', h, p, e => by cases e; exact p
  | c :: T, s, s', h, p, e => by
    rw [runF] at e
    split at e
    · rename_i ok
      exact PI.run (T := T) (h.step ok) (p.step h ok) e
    · cases e
end DL
set_option Elab.async false
set_option linter.all false
set_option maxRecDepth 100000
set_option maxHeartbeats 2000000
namespace DL
open PySem PySem.Spec PyProof.Rows L2
end DL
set_option Elab.async false
set_option linter.all false
set_option maxRecDepth 100000
namespace DL
open PySem PySem.Spec PyProof.Rows L2
theorem letters_lt : ∀ c ∈ letters.cps.toList, c < 0x110000 := by decide +kernel
theorem let_strOk {z : Str} (h : ∀ c ∈ TL.tl z, c ∈ letters.cps.toList) : PyData.strOk z = true := by
  unfold PyData.strOk
  rw [← Array.all_toList]
  exact List.all_eq_true.mpr fun c hc => decide_eq_true (letters_lt c (h c hc))
theorem nameB_ok {z : Str} (h : nameB z = true) : PyData.strOk z = true := let_strOk (nameB_iff.mp h).2.2
end DL
set_option Elab.async false
set_option linter.all false
set_option maxRecDepth 100000
namespace DL
open PySem PySem.Spec PyProof.Rows L2
def lastS : List Nat := [107, 113, 120, 122, 106, 118, 119, 109]
def LN (b : List Str) : Prop := ∀ (k : Nat) z, b[k]? = some z → ∃ (w : List Nat) (x : Nat), w.length ≤ 7 ∧ (∀ c ∈ w, isL c) ∧ lastS[k]? = some x ∧ z = ⟨(w ++ [x]).toArray⟩
theorem LN.nil : LN [] := fun k z h => by simp at h
theorem lastS_is : ∀ x ∈ lastS, isL x := fun x hx => by
  simp only [lastS, List.mem_cons, List.not_mem_nil, or_false] at hx
  unfold isL
  omega
theorem lastS_nd : lastS.Nodup := by decide
theorem LN.snoc {b : List Str} {w : List Nat} {x : Nat} (h : LN b) (hw : w.length ≤ 7) (hl : ∀ c ∈ w, isL c) (hx : lastS[b.length]? = some x) : LN (b ++ [⟨(w ++ [x]).toArray⟩]) := fun k z e => by
  rcases Nat.lt_trichotomy k b.length with hk | hk | hk
  · rw [List.getElem?_append_left hk] at e
    exact h k z e
  · subst hk
    rw [List.getElem?_append_right (Nat.le_refl _), Nat.sub_self] at e
    cases e
    exact ⟨w, x, hw, hl, hx, rfl⟩
  · rw [List.getElem?_append_right (by omega)] at e
    rw [List.getElem?_eq_none (by simp; omega)] at e
    cases e
theorem LN.len {b : List Str} (h : LN b) : b.length ≤ 8 := by
  rcases Nat.lt_or_ge 8 b.length with k | k
  · obtain ⟨w, x, _, _, hx, _⟩ := h 8 _ (List.getElem?_eq_getElem k)
    cases hx
  · exact k
theorem LN.ok {b : List Str} (h : LN b) : Nms b where
  nm := fun z hz => by
    obtain ⟨k, hk⟩ := List.mem_iff_getElem?.mp hz
    obtain ⟨w, x, h1, h2, h3, rfl⟩ := h k z hk
    refine name_ok (by simp) (by simp; omega) fun c hc => ?_
    rcases List.mem_append.mp hc with k | k
    · exact h2 c k
    · rw [List.mem_singleton.mp k]
      exact lastS_is x (List.mem_of_getElem? h3)
  ok := fun z hz => by
    obtain ⟨k, hk⟩ := List.mem_iff_getElem?.mp hz
    obtain ⟨w, x, h1, h2, h3, rfl⟩ := h k z hk
    refine name_strOk fun c hc => ?_
    rcases List.mem_append.mp hc with k | k
    · exact h2 c k
    · rw [List.mem_singleton.mp k]
      exact lastS_is x (List.mem_of_getElem? h3)
  nd := by
    refine List.pairwise_iff_getElem.mpr fun i j hi hj hij e => ?_
    obtain ⟨w, x, _, _, h3, e1⟩ := h i _ (List.getElem?_eq_getElem (by omega))
    obtain ⟨w', x', _, _, h3', e1'⟩ := h j _ (List.getElem?_eq_getElem hj)
    rw [e1, e1'] at e
    have e2 : w ++ [x] = w' ++ [x'] := by
      have := congrArg TL.tl e
      exact this
    have e3 := List.append_inj_right' e2 rfl
    injection e3 with e3
    subst e3
    have h8 := h.len
    have := (List.getElem_inj lastS_nd).mp (((List.getElem?_eq_some_iff.mp h3).2).trans ((List.getElem?_eq_some_iff.mp h3').2).symm)
    omega
end DL
set_option Elab.async false
set_option linter.all false
set_option maxRecDepth 100000
namespace DL
open PySem PySem.Spec PyProof.Rows L2
end DL
set_option Elab.async false
set_option linter.all false
set_option maxRecDepth 100000
set_option maxHeartbeats 2000000
namespace DL
open PySem PySem.Spec PyProof.Rows L2
end DL
set_option Elab.async false
set_option linter.all false
set_option maxRecDepth 100000
set_option maxHeartbeats 2000000
namespace DL
open PySem PySem.Spec PyProof.Rows L2
def Sg (z : Str) : Prop := ∀ c ∈ z.cps.toList, c < 0x110000
theorem Sg.ok {z : Str} (h : Sg z) : PyData.strOk z = true := by
  unfold PyData.strOk
  rw [← Array.all_toList]
  exact List.all_eq_true.mpr fun c hc => decide_eq_true (h c hc)
theorem Sg.app {x y : Str} (h : Sg x) (k : Sg y) : Sg (x ++ y) := fun c hc => by
  rw [show (x ++ y).cps.toList = TL.tl x ++ TL.tl y from TL.tl_append x y] at hc
  rcases List.mem_append.mp hc with m | m
  · exact h c m
  · exact k c m
end DL
namespace DL
open PySem PySem.Spec PyProof.Rows L2
theorem joinL_sg {p : Nat → Prop} {sep : List Nat} (hs : ∀ c ∈ sep, p c) : ∀ {l : List (List Nat)}, (∀ x ∈ l, ∀ c ∈ x, p c) → ∀ c ∈ TL.joinL sep l, p c
  | [], _ => fun c hc => by simp [TL.joinL] at hc
  | [x], h => fun c hc => h x (by simp) c (by simpa [TL.joinL] using hc)
  | x :: y :: l, h => fun c hc => by
    have ih := joinL_sg hs (l := y :: l) fun z hz => h z (List.mem_cons_of_mem _ hz)
    simp only [TL.joinL, List.mem_append] at hc
    rcases hc with hc | hc
    · first
        | exact h x (by simp) c hc
        | (rcases hc with k | k
           · exact h x (by simp) c k
           · exact hs c k)
    · first
        | exact ih c hc
        | (rcases hc with k | k
           · exact hs c k
           · exact ih c k)
theorem Sg.join {sep : Str} {l : List Str} (hs : Sg sep) (h : ∀ x ∈ l, Sg x) : Sg (Txt.join sep l) := fun c hc => by
  have hc : c ∈ TL.tl (Txt.join sep l) := hc
  rw [TL.join_eq, TL.tl_join] at hc
  refine joinL_sg (p := fun c => c < 0x110000) hs (fun x hx => ?_) c hc
  obtain ⟨y, hy, rfl⟩ := List.mem_map.mp hx
  exact h y hy
end DL
set_option Elab.async false
set_option linter.all false
set_option maxRecDepth 100000
set_option maxHeartbeats 2000000
namespace DL
open PySem PySem.Spec PyProof.Rows L2 LamX
end DL
set_option Elab.async false
set_option linter.all false
set_option maxRecDepth 100000
set_option maxHeartbeats 2000000
namespace DL
open PySem PySem.Spec PyProof.Rows L2 LamX
end DL
set_option Elab.async false
set_option linter.all false
set_option maxRecDepth 100000
set_option maxHeartbeats 2000000
namespace DL
open PySem PySem.Spec PyProof.Rows L2 LamX
end DL
set_option Elab.async false
set_option linter.all false
set_option maxRecDepth 100000
set_option maxHeartbeats 2000000
namespace DL
open PySem PySem.Spec PyProof.Rows L2 LamX
end DL
set_option Elab.async false
set_option linter.all false
set_option maxRecDepth 100000
set_option maxHeartbeats 2000000
namespace DL
open PySem PySem.Spec PyProof.Rows L2
inductive Alike (K : PySem.W.Frag) (H : Hp) : Nat → V → V → Prop
  | same {n : Nat} {x : V} (h : okV x = true) : Alike K H n x x
  | emp {n : Nat} {p q : Addr} (h1 : Rd H p (.dK [])) (h2 : Rd H q (.dK [])) : Alike K H n (.ref p) (.ref q)
  | tup {n : Nat} {p q : Addr} {xs ys : List V} (h1 : SqT K H p xs) (h2 : SqT K H q ys) (e : xs.length = ys.length) (a : ∀ (i : Nat) x y, xs[i]? = some x → ys[i]? = some y → Alike K H n x y) : Alike K H (n + 1) (.ref p) (.ref q)
  | lst {n : Nat} {p q : Addr} {xs ys : List V} (h1 : SqL K H p xs) (h2 : SqL K H q ys) (e : xs.length = ys.length) (a : ∀ (i : Nat) x y, xs[i]? = some x → ys[i]? = some y → Alike K H n x y) : Alike K H (n + 1) (.ref p) (.ref q)
section
variable {W : Wd} {Z : Zn} {G : Hp} {M : Mu} {Q2 : DQ} {d e : DV} {ds : List DV}
theorem Alike.mono {K : PySem.W.Frag} {G H : Hp} {n : Nat} {x y : V} (h : Alike K G n x y) (s : Same G H) : Alike K H n x y := by
  induction h with
  | same h => exact .same h
  | emp h1 h2 => exact .emp (Rd.same s h1) (Rd.same s h2)
  | tup h1 h2 e a ih => exact .tup (sqt_mono s h1) (sqt_mono s h2) e ih
  | lst h1 h2 e a ih => exact .lst (sql_mono s h1) (sql_mono s h2) e ih
end
end DL
set_option Elab.async false
set_option linter.all false
set_option maxRecDepth 100000
set_option maxHeartbeats 2000000
namespace DL
open PySem PySem.Spec PyProof.Rows L2
mutual
inductive NKv (K : PySem.W.Frag) (H : Hp) : NestedKey → V → Prop
  | non : NKv K H .none .non
  | int (i : Int) : NKv K H (.num i) (.int i)
  | str (x : Str) : NKv K H (.text x) (.str x)
  | tup {ks : List NestedKey} {p : Addr} {vs : List V} (h1 : SqT K H p vs) (h2 : NKvs K H ks vs) : NKv K H (.tup ks) (.ref p)
inductive NKvs (K : PySem.W.Frag) (H : Hp) : List NestedKey → List V → Prop
  | nil : NKvs K H [] []
  | cons {k : NestedKey} {v : V} {ks : List NestedKey} {vs : List V} (h1 : NKv K H k v) (h2 : NKvs K H ks vs) : NKvs K H (k :: ks) (v :: vs)
end
mutual
theorem NKv.mono {K : PySem.W.Frag} {G H : Hp} (s : Same G H) : ∀ {k : NestedKey} {v : V}, NKv K G k v → NKv K H k v
  | _, _, .non => .non
  | _, _, .int i => .int i
  | _, _, .str x => .str x
  | _, _, .tup h1 h2 => .tup (sqt_mono s h1) (NKvs.mono s h2)
theorem NKvs.mono {K : PySem.W.Frag} {G H : Hp} (s : Same G H) : ∀ {ks : List NestedKey} {vs : List V}, NKvs K G ks vs → NKvs K H ks vs
  | _, _, .nil => .nil
  | _, _, .cons h1 h2 => .cons (NKv.mono s h1) (NKvs.mono s h2)
end
section
variable {X : Cx} {pins : List (Addr × PySem.Obj)} {σ : L2.St} {H : Hp} {s : Shared}
mutual
theorem nk_is (I : L2.Inv X pins σ H s) : ∀ (k : NestedKey) (v : V) (u : Value), NKv X.K H k v → RelV v u → NestedIs s.heap k u
  | .none, _, u, h, r => by cases h; cases r; exact .none
  | .num i, _, u, h, r => by cases h; obtain ⟨t, rfl⟩ := r; exact .int i t
  | .text x, _, u, h, r => by cases h; obtain ⟨t, rfl⟩ := r; exact .text x t
  | .tup ks, _, u, h, r => by
    cases h with
    | tup h1 h2 =>
      cases r
      obtain ⟨its, ra, ⟨o, ho, hc, n, hd⟩, _⟩ := I.tuple h1
      exact .tup ho hc hd (nks_is I ks _ its h2 ra)
theorem nks_is (I : L2.Inv X pins σ H s) : ∀ (ks : List NestedKey) (vs : List V) (us : List Value), NKvs X.K H ks vs → Vals vs us → NestedAll s.heap ks us
  | [], _, us, h, r => by cases h; cases r; exact .nil
  | k :: ks, _, us, h, r => by
    cases h with
    | cons h1 h2 =>
      cases r with
      | cons r1 r2 => exact .cons (nk_is I k _ _ h1 r1) (nks_is I ks _ _ h2 r2)
end
end
abbrev NEnt := NestedKey × Addr × V
def nRel (p : NEnt) (q : NestedKey × Addr × Value) : Prop := p.1 = q.1 ∧ p.2.1 = q.2.1 ∧ RelV p.2.2 q.2.2
/-- a dict by its entries: keys, the keys' addresses, values -/
def nO (W : Wd) (a : Addr) (xs : List NEnt) : HO := .ext fun h => xs.length ≤ sizeLine ∧ (a == sysModules) = false ∧ (xs.map (·.1)).Nodup ∧ ∃ us, Paired nRel xs us ∧ ∃ o es ep, h.get? a = some o ∧ o.ExactDict ∧ o.data = .dict es ep ∧ es.toList = us.map (entryOfKey (nestedKind W.P W.w))
def NKeys (K : PySem.W.Frag) (H : Hp) (xs : List NEnt) : Prop := ∀ e ∈ xs, NKv K H e.1 (.ref e.2.1) ∧ e.1.depth ≤ 8
def nFind (xs : List NEnt) (k : NestedKey) : Option V := (xs.find? fun e => decide (e.1 = k)).map (·.2.2)
theorem nRel_keys : ∀ {xs : List NEnt} {us : List (NestedKey × Addr × Value)}, Paired nRel xs us → us.map (·.1) = xs.map (·.1)
  | _, _, .nil => rfl
  | _, _, .cons h t => by rw [List.map_cons, List.map_cons, nRel_keys t, h.1]
theorem nRel_at {k : NestedKey} : ∀ {xs : List NEnt} {us : List (NestedKey × Addr × Value)}, Paired nRel xs us → (nFind xs k = none ∧ atKey us k = none) ∨ ∃ v p, nFind xs k = some v ∧ atKey us k = some p ∧ RelV v p.2
  | _, _, .nil => .inl ⟨rfl, rfl⟩
  | x :: xs, u :: us, .cons h t => by
    by_cases e : x.1 = k
    · have e2 : u.1 = k := h.1 ▸ e
      exact .inr ⟨x.2.2, u.2, by simp [nFind, List.find?_cons, e], by simp [atKey, List.find?_cons, e2], h.2.2⟩
    · have e2 : ¬ u.1 = k := h.1 ▸ e
      have := nRel_at (k := k) t
      simpa [nFind, atKey, List.find?_cons, e, e2] using this
theorem nRel_mem : ∀ {xs : List NEnt} {us : List (NestedKey × Addr × Value)}, Paired nRel xs us → ∀ u ∈ us, ∃ x ∈ xs, nRel x u
  | _, _, .nil, u, h => by cases h
  | x :: xs, u :: us, .cons h t, v, hv => by
    rcases List.mem_cons.mp hv with rfl | hv
    · exact ⟨x, List.mem_cons_self, h⟩
    · obtain ⟨y, hy, r⟩ := nRel_mem t v hv
      exact ⟨y, List.mem_cons_of_mem _ hy, r⟩
section
variable {X : Cx} {W : Wd} {pins : List (Addr × PySem.Obj)} {σ : L2.St} {H : Hp} {s : Shared} {a : Addr} {xs : List NEnt}
theorem n_of (hP : W.P = X.prog) (hw : W.w = X.w) (I : L2.Inv X pins σ H s) (e : H a = some (nO W a xs)) (hk : NKeys X.K H xs) :
    xs.length ≤ sizeLine ∧ (a == sysModules) = false ∧ (xs.map (·.1)).Nodup ∧ ∃ us, Paired nRel xs us ∧ s.heap.DictOfH (nestedKind X.prog X.w) a us := by
  obtain ⟨⟨h1, h2, h3, us, rel, o, es, ep, g1, g2, g3, g4⟩, _, _⟩ := I.hok a _ e
  rw [hP, hw] at g4
  refine ⟨h1, h2, h3, us, rel, o, es, ep, g1, g2, g3, g4, fun u hu => ?_, by rw [nRel_keys rel]; exact h3⟩
  obtain ⟨x, hx, r1, r2, r3⟩ := nRel_mem rel u hu
  obtain ⟨k1, k2⟩ := hk x hx
  rw [r1, r2] at k1
  rw [r1] at k2
  exact ⟨nk_is I _ _ _ k1 rfl, k2⟩
theorem n_new (hP : W.P = X.prog) (hw : W.w = X.w) {h' : Heap} {H' : Hp} {us : List (NestedKey × Addr × Value)} (z : xs.length ≤ sizeLine) (hd : (a == sysModules) = false) (rel : Paired nRel xs us) (dd : h'.DictOfH (nestedKind X.prog X.w) a us) : ObjOk X.prog X.w H' h' a (nO W a xs) := by
  obtain ⟨o, es, ep, g1, g2, g3, g4, _, nd⟩ := dd
  rw [nRel_keys rel] at nd
  refine ⟨?_, ⟨o, g1⟩, fun h1 h2 ⟨k1, k2, k3, us, k4, o, es, ep, k5, k6⟩ st => ⟨k1, k2, k3, us, k4, o, es, ep, st _ k5, k6⟩⟩
  refine ⟨z, hd, nd, us, rel, o, es, ep, g1, g2, g3, ?_⟩
  rw [hP, hw]
  exact g4
/-- key in d, key not in d -/
def rNin (W : Wd) (neg : Bool) : R2 := fun x y H Q => ∃ (b a : Addr) (xs : List NEnt) (k : NestedKey), x = .ref b ∧ y = .ref a ∧ H a = some (nO W a xs) ∧ NKeys W.K H xs ∧ NKv W.K H k (.ref b) ∧ k.depth ≤ 8 ∧ Q (.bl (if neg then !(nFind xs k).isSome else (nFind xs k).isSome)) H
theorem nFind_some {k : NestedKey} {us : List (NestedKey × Addr × Value)} (rel : Paired nRel xs us) : (atKey us k).isSome = (nFind xs k).isSome := by
  rcases nRel_at (k := k) rel with ⟨e1, e2⟩ | ⟨v, p, e1, e2, _⟩ <;> rw [e1, e2] <;> rfl
theorem op_niN (hP : W.P = X.prog) (hw : W.w = X.w) (hK : W.K = X.K) (hu : X.A.units + 64 < cLine) : OpR X (compareOp .NotIn) (rNin W true) := by
  intro pins s σ H x y v u Q I rx ry h
  obtain ⟨b, a, xs, k, rfl, rfl, e, hk, h1, h2, q⟩ := h
  cases rx
  cases ry
  rw [hK] at hk h1
  obtain ⟨_, hd, _, us, rel, dd⟩ := n_of hP hw I e hk
  refine PySem.notIn_keyed (knd := nestedKind X.prog X.w) (k := k) (show X.A.units + 1 + 8 < cLine by omega) ⟨nk_is I _ _ _ h1 rfl, h2⟩ hd ⟨us, dd, rfl⟩ ?_
  rw [valueAt_pairsH, Option.isSome_map, nFind_some rel]
  exact ⟨.bl _, H, I.tok _, rfl, q⟩
def rNix (W : Wd) : R2 := fun x y H Q => ∃ (b a : Addr) (xs : List NEnt) (k : NestedKey) (v : V), x = .ref a ∧ y = .ref b ∧ H a = some (nO W a xs) ∧ NKeys W.K H xs ∧ NKv W.K H k (.ref b) ∧ k.depth ≤ 8 ∧ nFind xs k = some v ∧ Q v H
theorem ix_N (hP : W.P = X.prog) (hw : W.w = X.w) (hK : W.K = X.K) (hu : X.A.units + 64 < cLine) : IxR X (rNix W) := by
  intro value slice pins s σ H x y v u Q I rx ry h hs
  obtain ⟨b, a, xs, k, z, rfl, rfl, e, hk, h1, h2, l, q⟩ := h
  cases rx
  cases ry
  rw [hK] at hk h1
  obtain ⟨_, hd, _, us, rel, dd⟩ := n_of hP hw I e hk
  rcases nRel_at (k := k) rel with ⟨e1, _⟩ | ⟨z', p, e1, e2, rv⟩
  · rw [e1] at l; cases l
  · rw [e1] at l
    cases l
    exact tail_any dd.typeIs PySem.F.slot_dict_getitem.lookup (wpAny_getItem_heap (knd := nestedKind X.prog X.w) (k := k) (show X.A.units + 1 + 8 < cLine by omega) ⟨nk_is I _ _ _ h1 rfl, h2⟩ dd e2 ⟨_, H, I.tok _, rv, q⟩) hs
/-- d[key] = v, the key new -/
def rNset (W : Wd) : TSet := fun o i v H Q => ∃ (b a : Addr) (xs : List NEnt) (k : NestedKey), o = .ref a ∧ i = .ref b ∧ H a = some (nO W a xs) ∧ NKeys W.K H xs ∧ NKv W.K H k (.ref b) ∧ k.depth ≤ 8 ∧ nFind xs k = none ∧ xs.length < sizeLine ∧ Q (upd H a (nO W a (xs ++ [(k, b, v)])))
theorem set_N (hP : W.P = X.prog) (hw : W.w = X.w) (hK : W.K = X.K) (hu : X.A.units + 64 < cLine) : PSet X (rNset W) := by
  intro pins s σ H o i v ov iv u Q I ro ri rv h
  obtain ⟨b, a, xs, k, rfl, rfl, e, hk, h1, h2, l, z, q⟩ := h
  cases ro
  cases ri
  rw [hK] at hk h1
  obtain ⟨_, hd, nd, us, rel, dd⟩ := n_of hP hw I e hk
  have al : atKey us k = none := by
    rcases nRel_at (k := k) rel with ⟨_, e2⟩ | ⟨z', p, e1, _⟩
    · exact e2
    · rw [e1] at l; cases l
  have hlen : us.length = xs.length := by have := congrArg List.length (nRel_keys rel); simpa using this
  refine wpAny_setItem_heap (knd := nestedKind X.prog X.w) (k := k) (show X.A.units + 1 + 8 < cLine by omega) ⟨nk_is I _ _ _ h1 rfl, h2⟩ dd (fun h' dd' hs => ⟨_, ?_, q⟩) (by rw [hlen]; omega)
  have he : ∃ q, h'.get? a = some q := let ⟨q, _, _, hq, _⟩ := dd'; ⟨q, hq⟩
  rw [storedH_new al] at dd'
  exact d_write I (by rw [e]; exact True.intro) hs he (n_new hP hw (by rw [List.length_append]; exact z) hd (rel.snoc ⟨rfl, rfl, rv⟩) dd')
/-- {}, to be such a dict -/
def tDNewN (W : Wd) : TE := fun _ H Q => ∀ p, H p = none → Q (.ref p) (upd H p (nO W p []))
theorem pe_dnewN {pos : Pos} (hP : W.P = X.prog) (hw : W.w = X.w) : PE X (.Dict [] [] pos) (tDNewN W) := ⟨fun pins s σ H Q I h =>
  wpAny_Dict_empty ⟨.ref s.heap.objs.size, _, I.laid (a := s.heap.objs.size) (o := nO W s.heap.objs.size []) (t' := s.toks) (fun _ _ q => Heap.get?_push_of_some _ q) (Nat.le_refl _)
    (n_new hP hw (Nat.zero_le _) (beq_eq_false_iff_ne.mpr (Ne.symm (Nat.ne_of_lt I.big))) .nil (Heap.DictOfH.new s.heap)), rfl, h _ (I.hok.fresh (Nat.le_refl _))⟩⟩
end
mutual
def nkD : NestedKey → DV
  | .none => .n
  | .num i => .i i
  | .text x => .s x
  | .tup ks => .tup (nkDs ks)
def nkDs : List NestedKey → List DV
  | [] => []
  | k :: ks => nkD k :: nkDs ks
end
section
variable {W : Wd} {Z : Zn} {G H F : Hp} {M : Mu} {Q2 : DQ} {ρ : Ro} {d : DV} {q : Addr} {kvs : List (NestedKey × DV)}
mutual
theorem nk_dat : ∀ (k : NestedKey) (v : V), Dat W G (nkD k) v → NKv W.K G k v
  | .none, v, h => by rw [nkD] at h; rw [dat_v.mp h]; exact .non
  | .num i, v, h => by rw [nkD] at h; rw [dat_v.mp h]; exact .int i
  | .text x, v, h => by rw [nkD] at h; rw [dat_v.mp h]; exact .str x
  | .tup ks, v, h => by
    rw [nkD] at h
    obtain ⟨a, xs, rfl, h1, h2⟩ := dat_tup.mp h
    exact .tup h1 (nks_dat ks xs h2)
theorem nks_dat : ∀ (ks : List NestedKey) (vs : List V), DatL W G (nkDs ks) vs → NKvs W.K G ks vs
  | [], vs, h => by rw [nkDs] at h; rw [datL_nil.mp h]; exact .nil
  | k :: ks, vs, h => by
    rw [nkDs] at h
    obtain ⟨y, r, rfl, h1, h2⟩ := datL_cons.mp h
    exact .cons (nk_dat k y h1) (nks_dat ks r h2)
end
/-- such a dict as a changeable thing -/
def nX (W : Wd) (kvs : List (NestedKey × DV)) : MX where
  φ := fun G H a => ∃ xs, H a = some (nO W a xs) ∧ NKeys W.K G xs ∧ xs.map (·.1) = kvs.map (·.1) ∧ DatL W G (kvs.map (·.2)) (xs.map (·.2.2))
  mono := by
    intro G G' H a s h
    obtain ⟨xs, h1, h2, h3, h4⟩ := h
    exact ⟨xs, h1, fun e he => ⟨(h2 e he).1.mono s, (h2 e he).2⟩, h3, h4.mono s⟩
  heap := by
    intro G H H' a e h
    obtain ⟨xs, h1, h2, h3, h4⟩ := h
    exact ⟨xs, e.trans h1, h2, h3, h4⟩
  there := by
    intro G H a h
    obtain ⟨xs, h1, _⟩ := h
    exact ⟨_, h1⟩
abbrev nM (W : Wd) (kvs : List (NestedKey × DV)) : MO := .ext (nX W kvs)
def kFind (kvs : List (NestedKey × DV)) (k : NestedKey) : Option DV := (kvs.find? fun e => decide (e.1 = k)).map (·.2)
theorem kn_find {k : NestedKey} : ∀ {kvs : List (NestedKey × DV)} {xs : List NEnt}, xs.map (·.1) = kvs.map (·.1) → DatL W G (kvs.map (·.2)) (xs.map (·.2.2)) → (kFind kvs k = none ∧ nFind xs k = none) ∨ ∃ d v, kFind kvs k = some d ∧ nFind xs k = some v ∧ Dat W G d v
  | [], xs, h, _ => by
    have : xs = [] := List.map_eq_nil_iff.mp h
    subst this
    exact .inl ⟨rfl, rfl⟩
  | (k1, d1) :: kvs, xs, h, g => by
    match xs, h, g with
    | [], h, _ => simp at h
    | (k2, b, v) :: xs, h, g =>
      rw [List.map_cons, List.map_cons] at h
      injection h with h1 h2
      simp only at h1
      subst h1
      obtain ⟨y, r, e, g1, g2⟩ := datL_cons.mp g
      rw [List.map_cons] at e
      injection e with e1 e2
      simp only at e1 e2
      subst e1 e2
      by_cases ek : k2 = k
      · exact .inr ⟨d1, v, by simp [kFind, List.find?_cons, ek], by simp [nFind, List.find?_cons, ek], g1⟩
      · have := kn_find (k := k) h2 g2
        simpa [kFind, nFind, List.find?_cons, ek] using this
theorem NKeys.mono {K : PySem.W.Frag} {xs : List NEnt} (s : Same G H) (h : NKeys K G xs) : NKeys K H xs := fun e he => ⟨(h e he).1.mono s, (h e he).2⟩
theorem wr_inN {neg : Bool} {ks : List NestedKey} (hm : M q = some (nM Z.W kvs)) (hd : (NestedKey.tup ks).depth ≤ 8) (h : Q2 (.b (if neg then !(kFind kvs (.tup ks)).isSome else (kFind kvs (.tup ks)).isSome)) M) : WR Z (rNin Z.W neg) (nkD (.tup ks)) (.r q) M Q2 := fun G H vx vy Q s R dx dy r => by
  obtain ⟨xs, h1, h2, h3, h4⟩ := (R.mu q _ hm).2
  have nk := nk_dat _ _ dx
  obtain ⟨b, zs, rfl, _⟩ := dat_tup.mp (by rw [nkD] at dx; exact dx)
  refine ⟨b, q, xs, .tup ks, rfl, dat_v.mp dy, h1, h2.mono R.ex, nk.mono R.ex, hd, ?_⟩
  have e : (nFind xs (.tup ks)).isSome = (kFind kvs (.tup ks)).isSome := by
    rcases kn_find (k := .tup ks) h3 h4 with ⟨e1, e2⟩ | ⟨d, v, e1, e2, _⟩ <;> rw [e1, e2] <;> rfl
  rw [e]
  exact r _ _ G M H (Same.refl G) R dat_v' h
theorem wr_ixNk {ks : List NestedKey} (hm : M q = some (nM Z.W kvs)) (hd : (NestedKey.tup ks).depth ≤ 8) (hf : kFind kvs (.tup ks) = some d) (h : Q2 d M) : WR Z (rNix Z.W) (.r q) (nkD (.tup ks)) M Q2 := fun G H vx vy Q s R dx dy r => by
  obtain ⟨xs, h1, h2, h3, h4⟩ := (R.mu q _ hm).2
  have nk := nk_dat _ _ dy
  obtain ⟨b, zs, rfl, _⟩ := dat_tup.mp (by rw [nkD] at dy; exact dy)
  rcases kn_find (k := .tup ks) h3 h4 with ⟨e1, _⟩ | ⟨d', v, e1, e2, hv⟩
  · rw [e1] at hf; cases hf
  · rw [e1] at hf
    cases hf
    exact ⟨b, q, xs, .tup ks, v, dat_v.mp dx, rfl, h1, h2.mono R.ex, nk.mono R.ex, hd, e2, r _ _ G M H (Same.refl G) R hv h⟩
theorem wset_N {ks : List NestedKey} {P2 : Mu → Prop} (hm : M q = some (nM Z.W kvs)) (hd : (NestedKey.tup ks).depth ≤ 8) (hf : kFind kvs (.tup ks) = none) (hz : kvs.length < 1000000) (h : P2 (updM M q (nM Z.W (kvs ++ [(.tup ks, d)])))) : WSet Z (rNset Z.W) (.r q) (nkD (.tup ks)) d M P2 := fun G H vo vi vv P s R xo xi xv n => by
  obtain ⟨xs, h1, h2, h3, h4⟩ := (R.mu q _ hm).2
  have nk := nk_dat _ _ xi
  obtain ⟨b, zs, rfl, _⟩ := dat_tup.mp (by rw [nkD] at xi; exact xi)
  have nf : nFind xs (.tup ks) = none := by
    rcases kn_find (k := .tup ks) h3 h4 with ⟨_, e2⟩ | ⟨d', v, e1, _⟩
    · exact e2
    · rw [e1] at hf; cases hf
  have hl : xs.length = kvs.length := by have := congrArg List.length h3; simpa using this
  refine ⟨b, q, xs, .tup ks, dat_v.mp xo, rfl, h1, h2.mono R.ex, nk.mono R.ex, hd, nf, by rw [hl]; exact Nat.lt_of_lt_of_le hz (by decide), ?_⟩
  refine n G _ _ (Same.refl G) (R.write (mo' := nM Z.W (kvs ++ [(.tup ks, d)])) hm ⟨_, upd_same, fun e he => ?_, by simp [h3], ?_⟩) h
  · rcases List.mem_append.mp he with he | he
    · exact h2 e he
    · rw [List.mem_singleton.mp he]
      exact ⟨nk, hd⟩
  · rw [List.map_append, List.map_append]
    exact h4.append (datL_cons' xv datL_nil')
theorem we_dnewN (h : ∀ p, M p = none → Q2 (.r p) (updM M p (nM Z.W []))) : WE Z (tDNewN Z.W) ρ M Q2 := fun G σ H Q s R E r p hp =>
  r _ _ G _ _ (Same.refl G) (R.newM (mo := nM Z.W []) hp ⟨[], upd_same, fun e he => (by cases he), rfl, datL_nil'⟩) dat_v' (h p (R.mnone hp))
end
end DL
set_option Elab.async false
set_option linter.all false
set_option maxRecDepth 100000
set_option maxHeartbeats 2000000
namespace DL
open PySem PySem.Spec PyProof.Rows L2
def rNiU (K : PySem.W.Frag) : R2 := fun x y H Q => ∃ p ps, Dp K H x p ∧ Dp K H y (.tuple ps) ∧ SeqAt.shaped p = true ∧ SeqAt.shaped (.tuple ps) = true ∧ Q (.bl (!ps.any fun z => PyData.eqv z p)) H
theorem k_niU {X : Cx} {K : PySem.W.Frag} (e : X.K = K) (hu : X.A.units + 65 < cLine) : OpR X (compareOp .NotIn) (rNiU K) := by
  subst e
  intro pins s σ H x y v u Q I rx ry ⟨p, ps, h1, h2, s1, s2, q⟩
  obtain ⟨_, k1⟩ := Dp.reads I p x v h1 rx
  obtain ⟨_, k2⟩ := Dp.reads I (.tuple ps) y u h2 ry
  have l1 := SeqAt.canLay_of_shaped s1
  have l2 : PyData.canLayAll0 ps = true := SeqAt.canLay_of_shaped s2
  exact SeqAt.notIn_tuple_reads k2 k1 l2 l1 (room_in_shaped s1 hu) ⟨.bl _, H, I, rfl, q⟩
section
variable {W : Wd} {Z : Zn} {G F H : Hp} {M : Mu} {Q2 : DQ} {x y d : DV} {ds : List DV}
theorem wr_niU (hx : Hold M x d) (h1 : d.pln = true) (h2 : plnL ds = true) (h3 : d.dep ≤ 64) (h4 : depL ds ≤ 63) (h : ∀ b : Bool, (b = true ↔ d ∉ ds) → Q2 (.b b) M) : WR Z (rNiU Z.W.K) x (.tup ds) M Q2 := fun G H vx vy Q s R dx dy r => by
  obtain ⟨p, e1, e2, e3⟩ := good_py d (pln_good d h1)
  obtain ⟨ps, e4, e5, e6⟩ := goodL_py ds (plnL_good ds h2)
  have hy : PyOf M (.tup ds) (.tuple ps) := .inl (by show (pyL ds).map PyData.tuple = _; rw [e4]; rfl)
  refine ⟨p, ps, (hx.py e1).dp R dx, hy.dp R dy, shaped_of e2 (by rw [e3]; exact h3), shaped_of (p := .tuple ps) (by simpa [PyData.canLay0] using e5) (by simp [PyData.depth, e6]; omega), ?_⟩
  have key := anyEqv h2 h1 e4 e1
  refine r (.b _) _ G M H (Same.refl G) R dat_v' (h _ ?_)
  rw [Bool.not_eq_true', ← Bool.not_eq_true]
  exact not_congr key
end
abbrev Ent := Int × List Nat
abbrev Bun := Str × List Ent
abbrev OEnt := Int × List (Option Nat)
def natsD (l : List Nat) : DV := .tup (l.map fun n => DV.i (n : Nat))
def entD (e : Ent) : DV := .tup [.i e.1, natsD e.2]
def bunD (b : Bun) : DV := .tup [.s b.1, .lst (b.2.map entD)]
def oneD : Option Nat → DV
  | none => .n
  | some n => .i (n : Nat)
def onesD (l : List (Option Nat)) : DV := .tup (l.map oneD)
def oentD (e : OEnt) : DV := .tup [.i e.1, onesD e.2]
def allSome : List (Option Nat) → Option (List Nat)
  | [] => some []
  | none :: _ => none
  | some n :: l => (allSome l).map (n :: ·)
def aliveF (es : List OEnt) : List Ent := es.filterMap fun e => (allSome e.2).map (e.1, ·)
theorem allSome_none : ∀ {l : List (Option Nat)}, allSome l = none ↔ none ∈ l
  | [] => by simp [allSome]
  | none :: l => by simp [allSome]
  | some n :: l => by
    have := allSome_none (l := l)
    simp [allSome, this]
theorem allSome_some : ∀ {l : List (Option Nat)} {ns : List Nat}, allSome l = some ns → l = ns.map some
  | [], ns, h => by simp [allSome] at h; subst h; rfl
  | none :: l, ns, h => by simp [allSome] at h
  | some n :: l, ns, h => by
    simp only [allSome, Option.map_eq_some_iff] at h
    obtain ⟨ms, h1, rfl⟩ := h
    rw [allSome_some h1]
    rfl
theorem onesD_some (ns : List Nat) : onesD (ns.map some) = natsD ns := by
  unfold onesD natsD
  rw [List.map_map]
  rfl
theorem ones_none {l : List (Option Nat)} : DV.n ∈ l.map oneD ↔ none ∈ l := by
  rw [List.mem_map]
  constructor
  · rintro ⟨o, ho, e⟩
    cases o with
    | none => exact ho
    | some n => cases e
  · exact fun h => ⟨none, h, rfl⟩
/-- a bunch as a key -/
def entK (e : Ent) : NestedKey := .tup [.num e.1, .tup (e.2.map fun n => .num (n : Nat))]
def bunKs (b : Bun) : List NestedKey := [.text b.1, .tup (b.2.map entK)]
def bunK (b : Bun) : NestedKey := .tup (bunKs b)
theorem nkDs_map {α : Type} (f : α → NestedKey) : ∀ l : List α, nkDs (l.map f) = l.map fun x => nkD (f x)
  | [] => rfl
  | a :: l => by rw [List.map_cons, nkDs, nkDs_map f l]; rfl
theorem entK_D (e : Ent) : nkD (entK e) = entD e := by
  unfold entK entD natsD
  simp only [nkD, nkDs, nkDs_map]
theorem bunK_D (b : Bun) : nkD (bunK b) = .tup [.s b.1, .tup (b.2.map entD)] := by
  unfold bunK bunKs
  simp only [nkD, nkDs, nkDs_map]
  congr 4
  exact List.map_congr_left fun e _ => entK_D e
theorem num_inj {l m : List Nat} (h : l.map (fun n => NestedKey.num ((n : Nat) : Int)) = m.map (fun n => NestedKey.num ((n : Nat) : Int))) : l = m := by
  induction l generalizing m with
  | nil => cases m with
    | nil => rfl
    | cons _ _ => simp at h
  | cons a l ih => cases m with
    | nil => simp at h
    | cons b m =>
      rw [List.map_cons, List.map_cons] at h
      injection h with h1 h2
      injection h1 with h1
      rw [ih h2, Int.ofNat.inj h1]
theorem entK_inj {e f : Ent} (h : entK e = entK f) : e = f := by
  unfold entK at h
  injection h with h
  injection h with h1 h2
  injection h2 with h2 _
  injection h1 with h1
  injection h2 with h2
  exact Prod.ext h1 (num_inj h2)
theorem ents_inj : ∀ {l m : List Ent}, l.map entK = m.map entK → l = m
  | [], [], _ => rfl
  | [], _ :: _, h => by simp at h
  | _ :: _, [], h => by simp at h
  | a :: l, b :: m, h => by
    rw [List.map_cons, List.map_cons] at h
    injection h with h1 h2
    rw [entK_inj h1, ents_inj h2]
theorem bunK_inj {b c : Bun} (h : bunK b = bunK c) : b = c := by
  unfold bunK bunKs at h
  injection h with h
  injection h with h1 h2
  injection h2 with h2 _
  injection h1 with h1
  injection h2 with h2
  exact Prod.ext h1 (ents_inj h2)
theorem depthAll_le {n : Nat} : ∀ {l : List NestedKey}, (∀ k ∈ l, k.depth ≤ n) → NestedKey.depthAll l ≤ n
  | [], _ => Nat.zero_le _
  | k :: l, h => by
    rw [NestedKey.depthAll]
    exact Nat.max_le.mpr ⟨h k List.mem_cons_self, depthAll_le fun x hx => h x (List.mem_cons_of_mem _ hx)⟩
theorem bunK_depth (b : Bun) : (bunK b).depth ≤ 8 := by
  have h1 : ∀ e : Ent, (entK e).depth ≤ 2 := fun e => by
    unfold entK
    rw [NestedKey.depth]
    have : NestedKey.depthAll [.num e.1, .tup (e.2.map fun n => .num ((n : Nat) : Int))] ≤ 1 := depthAll_le fun k hk => by
      simp only [List.mem_cons, List.not_mem_nil, or_false] at hk
      rcases hk with rfl | rfl
      · simp [NestedKey.depth]
      · rw [NestedKey.depth]
        have : NestedKey.depthAll (e.2.map fun n => NestedKey.num ((n : Nat) : Int)) ≤ 0 := depthAll_le fun k hk => by
          obtain ⟨n, _, rfl⟩ := List.mem_map.mp hk
          simp [NestedKey.depth]
        omega
    omega
  unfold bunK bunKs
  rw [NestedKey.depth]
  have : NestedKey.depthAll [.text b.1, .tup (b.2.map entK)] ≤ 3 := depthAll_le fun k hk => by
    simp only [List.mem_cons, List.not_mem_nil, or_false] at hk
    rcases hk with rfl | rfl
    · simp [NestedKey.depth]
    · rw [NestedKey.depth]
      have : NestedKey.depthAll (b.2.map entK) ≤ 2 := depthAll_le fun k hk => by
        obtain ⟨e, _, rfl⟩ := List.mem_map.mp hk
        exact h1 e
      omega
  omega
/-- where a bunch stands -/
def whereB : List Bun → Bun → Nat → Option Nat
  | [], _, _ => none
  | c :: l, b, n => if c = b then some n else whereB l b (n + 1)
def putP (held : List Bun) (c : Str) (es : List OEnt) : List Bun × Option Nat :=
  if aliveF es = [] then (held, none) else match whereB held (c, aliveF es) 0 with
    | some i => (held, some i)
    | none => (held ++ [(c, aliveF es)], some held.length)
/-- the pool's dict -/
def numsF : List Bun → Nat → List (NestedKey × DV)
  | [], _ => []
  | b :: l, n => (bunK b, DV.i (n : Nat)) :: numsF l (n + 1)
theorem nums_len : ∀ (l : List Bun) (n : Nat), (numsF l n).length = l.length
  | [], _ => rfl
  | b :: l, n => by rw [numsF, List.length_cons, nums_len l]; rfl
theorem nums_find (b : Bun) : ∀ (l : List Bun) (n : Nat), kFind (numsF l n) (bunK b) = (whereB l b n).map fun i => DV.i (i : Nat)
  | [], _ => rfl
  | c :: l, n => by
    by_cases h : c = b
    · subst h
      simp [numsF, kFind, List.find?_cons, whereB]
    · have h2 : ¬ bunK c = bunK b := fun k => h (bunK_inj k)
      have := nums_find b l (n + 1)
      simp only [numsF, whereB, if_neg h]
      rw [← this]
      simp [kFind, List.find?_cons, h2]
theorem nums_snoc (b : Bun) : ∀ (l : List Bun) (n : Nat), numsF (l ++ [b]) n = numsF l n ++ [(bunK b, DV.i ((n + l.length : Nat) : Int))]
  | [], n => by simp [numsF]
  | c :: l, n => by
    rw [List.cons_append, numsF, nums_snoc b l (n + 1), numsF, List.cons_append, List.length_cons, show n + 1 + l.length = n + (l.length + 1) by omega]
theorem where_lt {b : Bun} : ∀ {l : List Bun} {n i : Nat}, whereB l b n = some i → ∃ j, i = n + j ∧ l[j]? = some b
  | [], n, i, h => by cases h
  | c :: l, n, i, h => by
    unfold whereB at h
    split at h
    · rename_i e
      cases h
      exact ⟨0, rfl, by rw [← e]; rfl⟩
    · obtain ⟨j, h1, h2⟩ := where_lt h
      exact ⟨j + 1, by omega, by simpa using h2⟩
theorem where_snoc {b : Bun} : ∀ {l : List Bun} {n : Nat}, whereB l b n = none → whereB (l ++ [b]) b n = some (n + l.length)
  | [], n, _ => by simp [whereB]
  | c :: l, n, h => by
    unfold whereB at h
    split at h
    · cases h
    · rename_i e
      rw [List.cons_append, whereB, if_neg e, where_snoc h, List.length_cons, show n + 1 + l.length = n + (l.length + 1) by omega]
end DL
set_option Elab.async false
set_option linter.all false
set_option maxRecDepth 100000
set_option maxHeartbeats 2000000
namespace DL
open PySem PySem.Spec PyProof.Rows L2
def natD (n : Nat) : DV := .i ((n : Nat) : Int)
/-- places of numbers, as a dict -/
def plF : List Nat → Nat → KVs
  | [], _ => []
  | k :: l, n => (.num ((k : Nat) : Int), natD n) :: plF l (n + 1)
def atN : List Nat → Nat → Nat → Option Nat
  | [], _, _ => none
  | c :: l, k, n => if c = k then some n else atN l k (n + 1)
theorem pl_len : ∀ (l : List Nat) (n : Nat), (plF l n).length = l.length
  | [], _ => rfl
  | b :: l, n => by rw [plF, List.length_cons, pl_len l]; rfl
theorem pl_val (k : Nat) : ∀ (l : List Nat) (n : Nat), valL (plF l n) (.num ((k : Nat) : Int)) = (atN l k n).map natD
  | [], _ => rfl
  | c :: l, n => by
    by_cases h : c = k
    · subst h
      simp [plF, valL, List.find?_cons, atN]
    · have h2 : ¬ (Leaf.num ((c : Nat) : Int) = Leaf.num ((k : Nat) : Int)) := fun e => h (by injection e with e; exact Int.ofNat.inj e)
      have := pl_val k l (n + 1)
      rw [plF, atN, if_neg h, ← this]
      exact valL_neg h2
theorem atN_none {k : Nat} : ∀ {l : List Nat} {n : Nat}, atN l k n = none ↔ k ∉ l
  | [], n => by simp [atN]
  | c :: l, n => by
    unfold atN
    have := atN_none (k := k) (l := l) (n := n + 1)
    by_cases h : c = k
    · simp [h]
    · rw [if_neg h, this, List.mem_cons]
      exact ⟨fun a b => b.elim (fun e => h e.symm) a, fun a b => a (.inr b)⟩
theorem atN_some {k : Nat} : ∀ {l : List Nat} {n i : Nat}, atN l k n = some i → ∃ j, i = n + j ∧ l[j]? = some k
  | [], n, i, h => by cases h
  | c :: l, n, i, h => by
    unfold atN at h
    split at h
    · rename_i e
      cases h
      exact ⟨0, rfl, by rw [← e]; rfl⟩
    · obtain ⟨j, h1, h2⟩ := atN_some h
      exact ⟨j + 1, by omega, by simpa using h2⟩
theorem pl_snoc (k : Nat) : ∀ (l : List Nat) (n : Nat), plF (l ++ [k]) n = plF l n ++ [(.num ((k : Nat) : Int), natD (n + l.length))]
  | [], n => by simp [plF]
  | c :: l, n => by
    rw [List.cons_append, plF, pl_snoc k l (n + 1), plF, List.cons_append, List.length_cons, show n + 1 + l.length = n + (l.length + 1) by omega]
theorem pl_put {k : Nat} {l : List Nat} (h : k ∉ l) : putL (plF l 0) (.num ((k : Nat) : Int)) (natD l.length) = plF (l ++ [k]) 0 := by
  unfold putL
  rw [valL_any, pl_val, atN_none.mpr h, pl_snoc, Nat.zero_add]
  rfl
/-- bunches lead down at most so far -/
def deepB (held : List Bun) : Nat → Nat → Prop
  | 0, _ => False
  | n + 1, k => ∃ b, held[k]? = some b ∧ ∀ e ∈ b.2, ∀ p ∈ e.2, deepB held n p
def visF (held : List Bun) : Nat → Nat → List Nat → List Nat
  | 0, _, o => o
  | n + 1, k, o => if k ∈ o then o else match held[k]? with
    | none => o
    | some b => b.2.foldl (fun o e => e.2.foldl (fun o p => visF held n p o) o) (o ++ [k])
def Vis (held : List Bun) (o : List Nat) : Prop := o.Nodup ∧ ∀ x ∈ o, x < held.length
theorem nodup_len : ∀ {n : Nat} {l : List Nat}, l.Nodup → (∀ x ∈ l, x < n) → l.length ≤ n
  | 0, l, _, h => by
    cases l with
    | nil => exact Nat.le_refl _
    | cons x l => exact absurd (h x List.mem_cons_self) (Nat.not_lt_zero x)
  | n + 1, l, d, h => by
    have h2 := nodup_len (n := n) (l := l.filter fun x => decide (x ≠ n)) (d.filter _) fun x hx => by
      rw [List.mem_filter, decide_eq_true_eq] at hx
      have := h x hx.1
      omega
    have h3 : l.length ≤ (l.filter fun x => decide (x ≠ n)).length + 1 := by
      clear h h2
      induction l with
      | nil => simp
      | cons x l ih =>
        rw [List.nodup_cons] at d
        by_cases e : x = n
        · subst e
          have : l.filter (fun y => decide (y ≠ x)) = l := List.filter_eq_self.mpr fun y hy => decide_eq_true fun k => d.1 (k ▸ hy)
          rw [List.filter_cons_of_neg (by simp), this, List.length_cons]
          exact Nat.le_refl _
        · rw [List.filter_cons_of_pos (by simpa using e), List.length_cons, List.length_cons]
          have := ih d.2
          omega
    omega
theorem Vis.len {held : List Bun} {o : List Nat} (h : Vis held o) : o.length ≤ held.length := nodup_len h.1 h.2
theorem Vis.snoc {held : List Bun} {o : List Nat} {k : Nat} (h : Vis held o) (hk : k ∉ o) (hl : k < held.length) : Vis held (o ++ [k]) := by
  refine ⟨?_, fun x hx => ?_⟩
  · rw [List.nodup_append]
    exact ⟨h.1, List.nodup_cons.mpr ⟨List.not_mem_nil, List.nodup_nil⟩, fun a ha b hb => by
      rw [List.mem_singleton] at hb
      subst hb
      exact fun e => hk (e ▸ ha)⟩
  · rcases List.mem_append.mp hx with h1 | h1
    · exact h.2 x h1
    · rw [List.mem_singleton] at h1
      exact h1 ▸ hl
theorem fold_inv {α β : Type} {I : β → Prop} {f : β → α → β} : ∀ {l : List α} {b : β}, I b → (∀ b, ∀ a ∈ l, I b → I (f b a)) → I (l.foldl f b)
  | [], _, h, _ => h
  | a :: l, b, h, g => fold_inv (l := l) (g b a List.mem_cons_self h) fun b x hx => g b x (List.mem_cons_of_mem _ hx)
theorem get_lt {α : Type} {l : List α} {k : Nat} {x : α} (h : l[k]? = some x) : k < l.length := by
  rw [List.getElem?_eq_some_iff] at h
  exact h.1
theorem visF_vis {held : List Bun} : ∀ {n k : Nat} {o : List Nat}, Vis held o → Vis held (visF held n k o)
  | 0, _, _, h => h
  | n + 1, k, o, h => by
    rw [visF]
    by_cases hk : k ∈ o
    · rw [if_pos hk]; exact h
    · rw [if_neg hk]
      cases e : held[k]? with
      | none => exact h
      | some b =>
        exact fold_inv (I := Vis held) (h.snoc hk (get_lt e)) fun o e _ ho => fold_inv (I := Vis held) ho fun o p _ ho => visF_vis ho
/-- all parts of a bunch are there -/
def Cld (held : List Bun) (o : List Nat) (x : Nat) : Prop := ∀ b, held[x]? = some b → ∀ e ∈ b.2, ∀ p ∈ e.2, p ∈ o
theorem Cld.mono {held : List Bun} {o o' : List Nat} {x : Nat} (h : Cld held o x) (s : ∀ y ∈ o, y ∈ o') : Cld held o' x := fun b hb e he p hp => s p (h b hb e he p hp)
structure VisOk (held : List Bun) (L o o' : List Nat) : Prop where
  sub : ∀ y ∈ o, y ∈ o'
  all : ∀ p ∈ L, p ∈ o'
  cld : ∀ x ∈ o', x ∉ o → Cld held o' x
theorem VisOk.fold {held : List Bun} {f : List Nat → Nat → List Nat} : ∀ {L o : List Nat}, (∀ p ∈ L, ∀ o, VisOk held [p] o (f o p)) → VisOk held L o (L.foldl f o)
  | [], o, _ => ⟨fun y h => h, fun p h => (by cases h), fun x h k => absurd h k⟩
  | p :: L, o, h => by
    have h1 := h p List.mem_cons_self o
    have h2 := VisOk.fold (L := L) (o := f o p) fun q hq => h q (List.mem_cons_of_mem _ hq)
    refine ⟨fun y hy => h2.sub y (h1.sub y hy), fun q hq => ?_, fun x hx hn => ?_⟩
    · rcases List.mem_cons.mp hq with rfl | hq
      · exact h2.sub _ (h1.all _ List.mem_cons_self)
      · exact h2.all q hq
    · by_cases hm : x ∈ f o p
      · exact (h1.cld x hm hn).mono h2.sub
      · exact h2.cld x hx hm
theorem foldl_flat {α β γ : Type} (g : α → List β) (f : γ → β → γ) : ∀ (l : List α) (c : γ), l.foldl (fun c a => (g a).foldl f c) c = (l.flatMap g).foldl f c
  | [], c => rfl
  | a :: l, c => by
    rw [List.foldl_cons, foldl_flat g f l, List.flatMap_cons, List.foldl_append]
theorem visF_ok {held : List Bun} : ∀ {n k : Nat} {o : List Nat}, deepB held n k → VisOk held [k] o (visF held n k o)
  | 0, _, _, h => absurd h id
  | n + 1, k, o, h => by
    obtain ⟨b, hb, hp⟩ := h
    rw [visF]
    by_cases hk : k ∈ o
    · rw [if_pos hk]
      exact ⟨fun y h => h, fun p h => (by rw [List.mem_singleton] at h; exact h ▸ hk), fun x h g => absurd h g⟩
    · rw [if_neg hk, hb]
      show VisOk held [k] o (b.2.foldl (fun o e => e.2.foldl (fun o p => visF held n p o) o) (o ++ [k]))
      rw [foldl_flat (fun e : Ent => e.2)]
      have key : VisOk held (b.2.flatMap fun e => e.2) (o ++ [k]) ((b.2.flatMap fun e => e.2).foldl (fun o p => visF held n p o) (o ++ [k])) := VisOk.fold fun p hp' o => by
        obtain ⟨e, he, hpe⟩ := List.mem_flatMap.mp hp'
        exact visF_ok (hp e he p hpe)
      refine ⟨fun y hy => key.sub y (List.mem_append_left _ hy), fun p hp' => ?_, fun x hx hn => ?_⟩
      · rw [List.mem_singleton] at hp'
        subst hp'
        exact key.sub _ (List.mem_append_right _ List.mem_cons_self)
      · by_cases hm : x ∈ o ++ [k]
        · rcases List.mem_append.mp hm with h1 | h1
          · exact absurd h1 hn
          · rw [List.mem_singleton] at h1
            subst h1
            intro b' hb' e he p hpe
            rw [hb] at hb'
            cases hb'
            exact key.all p (List.mem_flatMap.mpr ⟨e, he, hpe⟩)
        · exact key.cld x hx hm
theorem vis_all {held : List Bun} {ns : List Nat} {d : Nat} (h : ∀ p ∈ ns, deepB held d p) : VisOk held ns [] (ns.foldl (fun o p => visF held d p o) []) := VisOk.fold fun p hp o => visF_ok (h p hp)
end DL
set_option Elab.async false
set_option linter.all false
set_option maxRecDepth 100000
set_option maxHeartbeats 2000000
namespace DL
open PySem PySem.Spec PyProof.Rows L2
section
variable {W : Wd} {Z : Zn} {G : Hp} {M : Mu} {ρ : Ro} {ds : List DV} {tx : TA}
theorem itv_ok {a : Addr} {xs : List V} {ds : List DV} (h : SqL W.K G a xs) (hd : DatL W G ds xs) : ItOk W G (Itv W.K a xs.length) ds.reverse where
  go := fun i G' F M H' s R hi => by
    have hl := hd.length
    rw [List.length_reverse, ← hl] at hi
    exact ⟨hi, xs, xs[xs.length - 1 - i]'(by omega), sql_mono R.ex (sql_mono s h), List.getElem?_eq_getElem (by omega)⟩
  stop := fun i G' F M H' s R hi => by
    rw [List.length_reverse, ← hd.length] at hi
    exact hi
  yld := fun i d G' F M H' x H'' s R e ⟨e1, y⟩ => by
    subst e1
    have hi : i < ds.length := by
      have := (List.getElem?_eq_some_iff.mp e).1
      rwa [List.length_reverse] at this
    rw [List.getElem?_reverse hi, ← hd.length] at e
    obtain ⟨z, h1, h2⟩ := (hd.mono s).get e
    have q := y xs (sql_mono R.ex (sql_mono s h))
    rw [h1] at q
    cases q
    exact ⟨G', Same.refl G', R, h2⟩
theorem wi_rev {R2 : List DV → Mu → Prop} (h : WA Z tx ρ M fun as M1 => ∃ ds, as = [.lst ds] ∧ R2 ds.reverse M1) : WI Z (iRev Z.W.K tx) ρ M R2 := fun G σ H R s Rp E r =>
  h G σ H _ s Rp E fun as vs G1 M1 H1 s1 R1 x q => by
    obtain ⟨ds, rfl, q⟩ := q
    obtain ⟨y, e0, h3⟩ := one_of x
    obtain ⟨a, xs, e1, e2, e3⟩ := dat_lst.mp h3
    subst e0 e1
    exact ⟨a, xs, rfl, SqL.of (R1.ex _ _ e2), r ds.reverse _ G1 M1 H1 s1 R1 (itv_ok (SqL.of e2) e3) q⟩
end
theorem k_rvd {X : Cx} {K : PySem.W.Frag} {tg e : Expr} {ta : TA} {p pos : Pos} (eK : X.K = K) (hg : Gl X "reversed") (hm : X.mg "reversed" = none) (ha : PA X [e] ta) (hs : starEach [e] X.env = [(false, eval e X.env)] := by rfl) :
    L2.PI X tg (.Call (.Name "reversed" p) [e] [] pos) (iRev K ta) := by subst eK; exact pi_reversed hg hm ha hs
end DL
set_option Elab.async false
set_option linter.all false
set_option maxRecDepth 100000
set_option maxHeartbeats 2000000
namespace DL
open PySem PySem.Spec PyProof.Rows L2
section
variable {Z : Zn} {M : Mu} {Q2 : DQ} {x : DV} {ds : List DV}
theorem wr_mulM {k : Int} (l : LstOf M x ds) (h1 : -(2 ^ 63) ≤ k) (h2 : k < 2 ^ 63) (hz : ds.length * k.toNat ≤ sizeLine) (h : ∀ p, M p = none → Q2 (.r p) (updM M p (.lst (List.replicate k.toNat ds).flatten))) : WR Z rMulA x (.i k) M Q2 := wr_r fun G H vx vy Q s R dx dy r => by
  obtain ⟨a, xs, e1, e2, e3⟩ := lst_at R dx l
  exact ⟨a, k, xs, e1, dat_v.mp dy, e2, h1, h2, by rw [e3.length]; exact hz, fun p hp =>
    r _ _ G _ _ (Same.refl G) (R.newM (mo := .lst _) hp ⟨_, upd_same, datL_flat e3 k.toNat⟩) dat_v' (h p (R.mnone hp))⟩
theorem rep_flat {d : DV} : ∀ n : Nat, (List.replicate n [d]).flatten = List.replicate n d
  | 0 => rfl
  | n + 1 => by rw [List.replicate_succ, List.flatten_cons, rep_flat n, List.replicate_succ]; rfl
end
end DL
set_option Elab.async false
set_option linter.all false
set_option maxRecDepth 100000
set_option maxHeartbeats 2000000
namespace DL
open PySem PySem.Spec PyProof.Rows L2
theorem bt_sum : bootBuiltins "sum" = some (.builtin "sum") := by decide +kernel
theorem k_sum {X : Cx} {K : PySem.W.Frag} (e : X.K = K) (hc : X.calm = true) : CallR X (.builtin "sum") (rSum K) := by subst e; exact cr_sum hc
section
variable {Z : Zn} {M : Mu} {Q2 : DQ} {d : DV}
theorem wc_sum {ns : List Int} (l : LstOf M d (ns.map DV.i)) (h : Q2 (.i ns.sum) M) : WC Z (rSum Z.W.K) [d] M Q2 := fun G H vs Q s R x r => by
  obtain ⟨y, e0, h3⟩ := one_of x
  obtain ⟨a, xs, e1, e2, e3⟩ := lst_at R h3 l
  subst e0 e1
  have e4 := datL_int e3
  subst e4
  exact ⟨a, ns, rfl, SqL.of e2, r _ _ G M H (Same.refl G) R dat_v' h⟩
end
end DL
set_option Elab.async false
set_option linter.all false
set_option maxRecDepth 100000
set_option maxHeartbeats 2000000
namespace DL
open PySem PySem.Spec PyProof.Rows L2
theorem k_ipMul {X : Cx} : PIp X .Mult (rI CMul fun i j => .int (i * j)) := iop_mul
section
variable {Z : Zn} {ρ : Ro} {M : Mu} {te : TE} {D2 : Ends2} {d : DV}
theorem ws_aug {i : Nat} {ti : R2} (hi : ρ[i]? = some (some d)) (h : WE Z te ρ M fun e M1 => WR Z ti d e M1 fun z M2 => D2.nx (ρ.set i (some z)) M2) : WS Z (tAug i te ti) D2 ρ M := fun G σ H D s R E k => by
  obtain ⟨v, h1, h2⟩ := E.get i d hi
  refine ⟨v, h1, h G σ H _ s R E fun e ve G1 M1 H1 s1 R1 y q => ?_⟩
  refine q G1 H1 v ve _ (s.trans s1) R1 (h2.mono s1) y fun z vz G2 M2 H2 s2 R2 dz q2 => ?_
  exact k.nx _ _ G2 _ _ (s1.trans s2) R2 (((E.mono s1).mono s2).set dz) q2
end
end DL
set_option Elab.async false
set_option linter.all false
set_option maxRecDepth 100000
set_option maxHeartbeats 2000000
namespace DL
open PySem PySem.Spec PyProof.Rows L2
theorem flat_cong {α β : Type} {f g : α → List β} : ∀ {l : List α}, (∀ a ∈ l, f a = g a) → l.flatMap f = l.flatMap g
  | [], _ => rfl
  | a :: l, h => by rw [List.flatMap_cons, List.flatMap_cons, h a List.mem_cons_self, flat_cong fun b hb => h b (List.mem_cons_of_mem _ hb)]
def PartR (raw : List Bun) (cs : List Str) (parts : List Nat) : Prop := parts.map (fun p => (raw[p]?).map Prod.fst) = cs.map some
theorem PartR.len {raw : List Bun} {cs : List Str} {parts : List Nat} (h : PartR raw cs parts) : parts.length = cs.length := by
  have := congrArg List.length h
  simpa using this
theorem PartR.mem {raw : List Bun} {cs : List Str} {parts : List Nat} (h : PartR raw cs parts) {p : Nat} (hp : p ∈ parts) : ∃ b, raw[p]? = some b ∧ b.1 ∈ cs := by
  have h1 : (raw[p]?).map Prod.fst ∈ parts.map fun p => (raw[p]?).map Prod.fst := List.mem_map.mpr ⟨p, hp, rfl⟩
  rw [h, List.mem_map] at h1
  obtain ⟨c, hc, e⟩ := h1
  cases e2 : raw[p]? with
  | none => rw [e2] at e; cases e
  | some b =>
    rw [e2] at e
    injection e with e
    exact ⟨b, rfl, e ▸ hc⟩
theorem PartR.lt {raw : List Bun} {cs : List Str} {parts : List Nat} (h : PartR raw cs parts) {p : Nat} (hp : p ∈ parts) : p < raw.length := by
  obtain ⟨b, hb, _⟩ := h.mem hp
  exact get_lt hb
theorem PartR.get {raw : List Bun} {cs : List Str} {parts : List Nat} (h : PartR raw cs parts) {i p : Nat} {c : Str} (h1 : parts[i]? = some p) (h2 : cs[i]? = some c) : ∃ b, raw[p]? = some b ∧ b.1 = c := by
  have := congrArg (fun l => l[i]?) h
  simp only [List.getElem?_map, h1, h2, Option.map_some, Option.some.injEq, Option.map_eq_some_iff] at this
  exact this
theorem app_get {α : Type} {l x : List α} {k : Nat} {b : α} (h : l[k]? = some b) : (l ++ x)[k]? = some b := by
  rw [List.getElem?_append_left (get_lt h)]
  exact h
theorem PartR.app {raw : List Bun} {cs : List Str} {parts : List Nat} (h : PartR raw cs parts) (x : List Bun) : PartR (raw ++ x) cs parts := by
  unfold PartR at h ⊢
  rw [← h]
  refine List.map_congr_left fun p hp => ?_
  obtain ⟨b, hb, _⟩ := PartR.mem h hp
  rw [hb, app_get hb]
def EntR (raw : List Bun) (cs : List Str) (es : List Ent) : Prop := es.Pairwise (fun e f => e.1 < f.1) ∧ ∀ e ∈ es, PartR raw cs e.2
theorem EntR.app {raw : List Bun} {cs : List Str} {es : List Ent} (h : EntR raw cs es) (x : List Bun) : EntR (raw ++ x) cs es := ⟨h.1, fun e he => (h.2 e he).app x⟩
structure RawOk (ps : Prs) (m : Nat) (raw : List Bun) : Prop where
  len : raw.length ≤ 1000
  bun : ∀ b ∈ raw, b.1 ∈ namesOf ps ∧ EntR raw (kidsOf ps (some b.1)) b.2 ∧ b.2.length ≤ m
/-- bunches along a tree -/
def HOk (ps : Prs) (m : Nat) (held : List Bun) : Prop := ∀ b ∈ held, b.1 ∈ namesOf ps ∧ EntR held (kidsOf ps (some b.1)) b.2 ∧ b.2.length ≤ m
theorem RawOk.h {ps : Prs} {m : Nat} {raw : List Bun} (h : RawOk ps m raw) : HOk ps m raw := h.bun
theorem kids_le {ps : Prs} {o : Option Str} : (kidsOf ps o).length ≤ ps.length := by
  unfold kidsOf
  rw [List.length_map]
  exact List.length_filter_le _ _
theorem rk8 {ps : Prs} (t : Tr ps) {c : Str} (h : c ∈ namesOf ps) : rk ps (some c) < 8 := by
  have h1 := t.len
  have h2 := List.length_pos_of_mem h
  rw [names_len] at h2
  show ps.length - 1 - posS c (namesOf ps) < 8
  omega
theorem HOk.deepN {ps : Prs} {m : Nat} {held : List Bun} (t : Tr ps) (h : HOk ps m held) : ∀ {n k : Nat} {b : Bun}, held[k]? = some b → rk ps (some b.1) < n → deepB held n k
  | 0, _, _, _, hn => absurd hn (Nat.not_lt_zero _)
  | n + 1, k, b, hb, hn => by
    refine ⟨b, hb, fun e he p hp => ?_⟩
    obtain ⟨_, h2, _⟩ := h b (List.mem_of_getElem? hb)
    obtain ⟨b', hb', hc⟩ := (h2.2 e he).mem hp
    have := rk_kid t hc
    exact HOk.deepN t h hb' (by omega)
theorem HOk.deep {ps : Prs} {m : Nat} {held : List Bun} (t : Tr ps) (h : HOk ps m held) {k : Nat} {b : Bun} (hb : held[k]? = some b) : deepB held 8 k := h.deepN t hb (rk8 t (h b (List.mem_of_getElem? hb)).1)
def prodR : List (List (List Int)) → List (List Int)
  | [] => [[]]
  | rs :: rss => rs.flatMap fun r => (prodR rss).map (r ++ ·)
def entRows (R : Nat → List (List Int)) (es : List Ent) : List (List Int) := es.flatMap fun e => (prodR (e.2.map R)).map (e.1 :: ·)
def rowsN (held : List Bun) : Nat → Nat → List (List Int)
  | 0, _ => []
  | n + 1, k => match held[k]? with
    | none => []
    | some b => entRows (rowsN held n) b.2
def rowsB (held : List Bun) (k : Nat) : List (List Int) := rowsN held 9 k
theorem entRows_cong {R S : Nat → List (List Int)} {es : List Ent} (h : ∀ e ∈ es, ∀ p ∈ e.2, R p = S p) : entRows R es = entRows S es := flat_cong fun e he => by rw [List.map_congr_left fun p hp => h e he p hp]
theorem rowsN_some {held : List Bun} {n k : Nat} {b : Bun} (hb : held[k]? = some b) : rowsN held (n + 1) k = entRows (rowsN held n) b.2 := by rw [rowsN, hb]
theorem rowsN_deep {held : List Bun} : ∀ {n k : Nat}, deepB held n k → rowsN held n k = rowsN held (n + 1) k
  | 0, _, h => absurd h id
  | n + 1, k, ⟨b, hb, h⟩ => by
    rw [rowsN_some hb, rowsN_some hb]
    exact entRows_cong fun e he p hp => rowsN_deep (h e he p hp)
theorem rows_eq {ps : Prs} {m : Nat} {held : List Bun} (t : Tr ps) (h : HOk ps m held) {k : Nat} {b : Bun} (hb : held[k]? = some b) : rowsB held k = entRows (rowsB held) b.2 := by
  unfold rowsB
  rw [rowsN_some hb]
  refine entRows_cong fun e he p hp => ?_
  obtain ⟨_, h2, _⟩ := h b (List.mem_of_getElem? hb)
  obtain ⟨b', hb', hc⟩ := (h2.2 e he).mem hp
  exact rowsN_deep (h.deep t hb')
theorem rowsN_app {ps : Prs} {m : Nat} {held : List Bun} (h : HOk ps m held) (x : List Bun) : ∀ {n k : Nat} {b : Bun}, held[k]? = some b → rowsN (held ++ x) n k = rowsN held n k
  | 0, _, _, _ => rfl
  | n + 1, k, b, hb => by
    rw [rowsN_some hb, rowsN_some (app_get hb)]
    refine entRows_cong fun e he p hp => ?_
    obtain ⟨_, h2, _⟩ := h b (List.mem_of_getElem? hb)
    obtain ⟨b', hb', hc⟩ := (h2.2 e he).mem hp
    exact rowsN_app h x hb'
theorem prodR_nil : ∀ {rss : List (List (List Int))}, [] ∈ rss → prodR rss = []
  | [], h => by cases h
  | rs :: rss, h => by
    rw [prodR]
    rcases List.mem_cons.mp h with e | h
    · rw [← e]; rfl
    · rw [prodR_nil h, List.flatMap_eq_nil_iff]
      exact fun r _ => rfl
/-- found numbers' rows are those of what was put -/
def RelF (R S : Nat → List (List Int)) (f : Nat → Option Nat) (p : Nat) : Prop := match f p with
  | some n => R n = S p
  | none => S p = []
theorem rel_all {R S : Nat → List (List Int)} {f : Nat → Option Nat} : ∀ {ps ns : List Nat}, allSome (ps.map f) = some ns → (∀ p ∈ ps, RelF R S f p) → ns.map R = ps.map S
  | [], ns, h, _ => by cases h; rfl
  | p :: ps, ns, h, g => by
    have gp := g p List.mem_cons_self
    unfold RelF at gp
    cases e : f p with
    | none => rw [List.map_cons, e] at h; cases h
    | some n =>
      rw [List.map_cons, e] at h
      rw [e] at gp
      simp only [allSome, Option.map_eq_some_iff] at h
      obtain ⟨ms, h1, rfl⟩ := h
      rw [List.map_cons, List.map_cons, rel_all h1 fun q hq => g q (List.mem_cons_of_mem _ hq)]
      rw [show R n = S p from gp]
theorem rel_none {R S : Nat → List (List Int)} {f : Nat → Option Nat} {ps : List Nat} (h : allSome (ps.map f) = none) (g : ∀ p ∈ ps, RelF R S f p) : prodR (ps.map S) = [] := by
  rw [allSome_none, List.mem_map] at h
  obtain ⟨p, hp, e⟩ := h
  have gp := g p hp
  unfold RelF at gp
  rw [e] at gp
  exact prodR_nil (List.mem_map.mpr ⟨p, hp, gp⟩)
abbrev FSt := List Bun × List (Option Nat)
def fAt (found : List (Option Nat)) (p : Nat) : Option Nat := (found[p]?).getD none
def oents (found : List (Option Nat)) (es : List Ent) : List OEnt := es.map fun e => (e.1, e.2.map fun p => (found[p]?).getD none)
def stepB (c : Str) (st : FSt) (bi : Bun × Nat) : FSt := if bi.1.1 = c then ((putP st.1 c (oents st.2 bi.1.2)).1, st.2.set bi.2 (putP st.1 c (oents st.2 bi.1.2)).2) else st
def colB (raw : List Bun) (st : FSt) (c : Str) : FSt := raw.zipIdx.foldl (stepB c) st
def foldB (ps : Prs) (raw : List Bun) : FSt := (ord ps none).reverse.foldl (colB raw) ([], List.replicate raw.length none)
theorem putP_len {held : List Bun} {c : Str} {es : List OEnt} : (putP held c es).1.length ≤ held.length + 1 := by
  unfold putP
  by_cases h : aliveF es = []
  · rw [if_pos h]; exact Nat.le_succ _
  · rw [if_neg h]
    cases whereB held (c, aliveF es) 0 with
    | none => simp
    | some i => exact Nat.le_succ _
theorem stepB_len {c : Str} {st : FSt} {bi : Bun × Nat} : (stepB c st bi).1.length ≤ st.1.length + 1 ∧ (stepB c st bi).2.length = st.2.length := by
  unfold stepB
  by_cases h : bi.1.1 = c
  · rw [if_pos h]; exact ⟨putP_len, List.length_set ..⟩
  · rw [if_neg h]; exact ⟨Nat.le_succ _, rfl⟩
theorem alive_rows {R S : Nat → List (List Int)} {found : List (Option Nat)} : ∀ {es : List Ent}, (∀ e ∈ es, ∀ p ∈ e.2, RelF R S (fAt found) p) → entRows R (aliveF (oents found es)) = entRows S es
  | [], _ => rfl
  | e :: es, h => by
    have ih := alive_rows (R := R) (S := S) (found := found) (es := es) fun e he => h e (List.mem_cons_of_mem _ he)
    have he := h e List.mem_cons_self
    unfold entRows at ih ⊢
    rw [List.flatMap_cons, ← ih]
    show ((List.filterMap _ ((e.1, e.2.map (fAt found)) :: oents found es)).flatMap _) = _
    rw [List.filterMap_cons]
    dsimp only
    cases hs : allSome (e.2.map (fAt found)) with
    | none =>
      rw [rel_none hs he]
      rfl
    | some ns =>
      dsimp only [Option.map_some]
      rw [List.flatMap_cons]
      dsimp only
      rw [rel_all hs he]
      rfl
theorem alive_ent {held raw : List Bun} {found : List (Option Nat)} {cs : List Str} {es : List Ent} (h : EntR raw cs es) (g : ∀ e ∈ es, ∀ p ∈ e.2, ∀ n, fAt found p = some n → (held[n]?).map Prod.fst = (raw[p]?).map Prod.fst) : EntR held cs (aliveF (oents found es)) := by
  constructor
  · have h1 := h.1
    clear h
    induction es with
    | nil => exact List.Pairwise.nil
    | cons e es ih =>
      rw [List.pairwise_cons] at h1
      have ih2 := ih (fun e he => g e (List.mem_cons_of_mem _ he)) h1.2
      show (List.filterMap _ ((e.1, e.2.map (fAt found)) :: oents found es)).Pairwise _
      rw [List.filterMap_cons]
      dsimp only
      cases hs : allSome (e.2.map (fAt found)) with
      | none => exact ih2
      | some ns =>
        dsimp only [Option.map_some]
        rw [List.pairwise_cons]
        refine ⟨fun f hf => ?_, ih2⟩
        obtain ⟨o, ho, e2⟩ := List.mem_filterMap.mp hf
        obtain ⟨e3, he3, rfl⟩ := List.mem_map.mp ho
        rw [Option.map_eq_some_iff] at e2
        obtain ⟨ms, _, rfl⟩ := e2
        exact h1.1 e3 he3
  · intro f hf
    obtain ⟨o, ho, e2⟩ := List.mem_filterMap.mp hf
    obtain ⟨e, he, rfl⟩ := List.mem_map.mp ho
    rw [Option.map_eq_some_iff] at e2
    obtain ⟨ms, h2, rfl⟩ := e2
    have h3 := allSome_some h2
    have h4 := h.2 e he
    have h5 := g e he
    unfold PartR at h4 ⊢
    rw [← h4]
    show ms.map _ = e.2.map _
    clear h4 h2 he ho hf
    generalize e.2 = l at *
    dsimp only at h3
    induction l generalizing ms with
    | nil => cases ms with
      | nil => rfl
      | cons _ _ => cases h3
    | cons p l ih => cases ms with
      | nil => cases h3
      | cons m ms =>
        rw [List.map_cons, List.map_cons] at h3
        injection h3 with h6 h7
        rw [List.map_cons, List.map_cons, ih ms h7 fun q hq => h5 q (List.mem_cons_of_mem _ hq), h5 p List.mem_cons_self m h6]
theorem alive_len {es : List OEnt} : (aliveF es).length ≤ es.length := List.length_filterMap_le _ _
theorem put_spec {held : List Bun} {c : Str} {es : List OEnt} : ∃ x, (putP held c es).1 = held ++ x ∧ (x = [] ∨ (x = [(c, aliveF es)] ∧ aliveF es ≠ [])) ∧ (∀ n, (putP held c es).2 = some n → (putP held c es).1[n]? = some (c, aliveF es)) ∧ ((putP held c es).2 = none → aliveF es = []) := by
  unfold putP
  by_cases h : aliveF es = []
  · rw [if_pos h]
    exact ⟨[], (List.append_nil _).symm, .inl rfl, fun n hn => (by cases hn), fun _ => h⟩
  · rw [if_neg h]
    cases e : whereB held (c, aliveF es) 0 with
    | some i =>
      refine ⟨[], (List.append_nil _).symm, .inl rfl, fun n hn => ?_, fun hn => (by cases hn)⟩
      cases hn
      obtain ⟨j, h1, h2⟩ := where_lt e
      rw [h1, Nat.zero_add]
      exact h2
    | none =>
      refine ⟨_, rfl, .inr ⟨rfl, h⟩, fun n hn => ?_, fun hn => (by cases hn)⟩
      cases hn
      simp
def NonE (held : List Bun) : Prop := ∀ b ∈ held, b.2 ≠ []
def Gd (raw : List Bun) (st : FSt) (at' : Nat) (b : Bun) : Prop := match fAt st.2 at' with
  | some n => ∃ hb, st.1[n]? = some hb ∧ hb.1 = b.1 ∧ rowsB st.1 n = rowsB raw at'
  | none => rowsB raw at' = []
structure JB (ps : Prs) (m : Nat) (raw : List Bun) (S : Str → Nat → Prop) (st : FSt) : Prop where
  hok : HOk ps m st.1
  ne : NonE st.1
  len : st.2.length = raw.length
  gd : ∀ at' b, raw[at']? = some b → S b.1 at' → Gd raw st at' b
theorem HOk.app {ps : Prs} {m : Nat} {held : List Bun} (h : HOk ps m held) {b : Bun} (h1 : b.1 ∈ namesOf ps) (h2 : EntR held (kidsOf ps (some b.1)) b.2) (h3 : b.2.length ≤ m) : HOk ps m (held ++ [b]) := fun x hx => by
  rcases List.mem_append.mp hx with hx | hx
  · obtain ⟨g1, g2, g3⟩ := h x hx
    exact ⟨g1, g2.app _, g3⟩
  · rw [List.mem_singleton] at hx
    subst hx
    exact ⟨h1, h2.app _, h3⟩
theorem Gd.app {ps : Prs} {m : Nat} {raw : List Bun} {st : FSt} {at' : Nat} {b : Bun} (t : HOk ps m st.1) (x : List Bun) {f2 : List (Option Nat)} (e : fAt f2 at' = fAt st.2 at') (h : Gd raw st at' b) : Gd raw (st.1 ++ x, f2) at' b := by
  unfold Gd at h ⊢
  dsimp only
  rw [e]
  cases e2 : fAt st.2 at' with
  | none => rw [e2] at h; exact h
  | some n =>
    rw [e2] at h
    obtain ⟨hb, h1, h2, h3⟩ := h
    refine ⟨hb, app_get h1, h2, ?_⟩
    rw [← h3]
    exact rowsN_app t x h1
theorem stepB_J {ps : Prs} {m : Nat} {raw : List Bun} (t : Tr ps) (hr : HOk ps m raw) {ds : List Str} {c : Str} (hk : ∀ d ∈ kidsOf ps (some c), d ∈ ds) {j : Nat} {b : Bun} (hb : raw[j]? = some b) {st : FSt} (h : JB ps m raw (fun x at' => x ∈ ds ∨ (x = c ∧ at' < j)) st) : JB ps m raw (fun x at' => x ∈ ds ∨ (x = c ∧ at' < j + 1)) (stepB c st (b, j)) := by
  by_cases hc : b.1 = c
  · have es : stepB c st (b, j) = ((putP st.1 c (oents st.2 b.2)).1, st.2.set j (putP st.1 c (oents st.2 b.2)).2) := if_pos hc
    rw [es]
    obtain ⟨b1, b2, b3⟩ := hr b (List.mem_of_getElem? hb)
    have hpt : ∀ e ∈ b.2, ∀ p ∈ e.2, ∃ b', raw[p]? = some b' ∧ Gd raw st p b' := fun e he p hp => by
      obtain ⟨b', g1, g2⟩ := (b2.2 e he).mem hp
      exact ⟨b', g1, h.gd p b' g1 (.inl (hk _ (hc ▸ g2)))⟩
    have hrel : ∀ e ∈ b.2, ∀ p ∈ e.2, RelF (rowsB st.1) (rowsB raw) (fAt st.2) p := fun e he p hp => by
      obtain ⟨b', _, g2⟩ := hpt e he p hp
      unfold Gd at g2
      unfold RelF
      cases e2 : fAt st.2 p with
      | none => rw [e2] at g2; exact g2
      | some n => rw [e2] at g2; obtain ⟨hb, _, _, g⟩ := g2; exact g
    have hcol : ∀ e ∈ b.2, ∀ p ∈ e.2, ∀ n, fAt st.2 p = some n → (st.1[n]?).map Prod.fst = (raw[p]?).map Prod.fst := fun e he p hp n e2 => by
      obtain ⟨b', g1, g2⟩ := hpt e he p hp
      unfold Gd at g2
      rw [e2] at g2
      obtain ⟨hb, g3, g4, _⟩ := g2
      rw [g3, g1, Option.map_some, Option.map_some, g4]
    have hrows := alive_rows hrel
    have hent := alive_ent (held := st.1) b2 hcol
    have hal : (aliveF (oents st.2 b.2)).length ≤ m := Nat.le_trans alive_len (by unfold oents; rw [List.length_map]; exact b3)
    obtain ⟨x, p1, p2, p3, p4⟩ := put_spec (held := st.1) (c := c) (es := oents st.2 b.2)
    generalize (putP st.1 c (oents st.2 b.2)).2 = o at *
    have hok2 : HOk ps m (putP st.1 c (oents st.2 b.2)).1 := by
      rw [p1]
      rcases p2 with rfl | ⟨rfl, _⟩
      · rw [List.append_nil]; exact h.hok
      · exact h.hok.app (by show c ∈ _; rw [← hc]; exact b1) (by show EntR st.1 (kidsOf ps (some c)) _; rw [← hc]; exact hent) hal
    refine ⟨hok2, ?_, by rw [List.length_set]; exact h.len, fun at' b' hb' hS => ?_⟩
    · dsimp only
      rw [p1]
      rcases p2 with rfl | ⟨rfl, g⟩
      · rw [List.append_nil]; exact h.ne
      · intro y hy
        rcases List.mem_append.mp hy with hy | hy
        · exact h.ne y hy
        · rw [List.mem_singleton] at hy
          rw [hy]
          exact g
    · by_cases ej : at' = j
      · subst ej
        rw [hb] at hb'
        cases hb'
        have hr1 := rows_eq t hr hb
        unfold Gd
        have ef : fAt (st.2.set at' o) at' = o := by
          unfold fAt
          rw [List.getElem?_set_self (by rw [h.len]; exact get_lt hb)]
          rfl
        dsimp only
        rw [ef]
        cases o with
        | none =>
          dsimp only
          rw [p4 rfl] at hrows
          rw [hr1, ← hrows]
          rfl
        | some n =>
          have hn := p3 n rfl
          refine ⟨_, hn, hc.symm, ?_⟩
          rw [rows_eq t hok2 hn, hr1, ← hrows]
          refine entRows_cong fun e he p hp => ?_
          obtain ⟨b', hb', _⟩ := (hent.2 e he).mem hp
          rw [p1]
          exact rowsN_app h.hok x hb'
      · have hS' : b'.1 ∈ ds ∨ (b'.1 = c ∧ at' < j) := by
          rcases hS with hS | ⟨h1, h2⟩
          · exact .inl hS
          · exact .inr ⟨h1, by omega⟩
        have g := h.gd at' b' hb' hS'
        rw [p1]
        refine Gd.app h.hok x ?_ g
        unfold fAt
        rw [List.getElem?_set_ne (Ne.symm ej)]
  · have es : stepB c st (b, j) = st := if_neg hc
    rw [es]
    refine ⟨h.hok, h.ne, h.len, fun at' b' hb' hS => h.gd at' b' hb' ?_⟩
    rcases hS with hS | ⟨h1, h2⟩
    · exact .inl hS
    · refine .inr ⟨h1, ?_⟩
      by_cases e : at' = j
      · subst e
        rw [hb] at hb'
        cases hb'
        exact absurd h1 hc
      · omega
theorem colB_J {ps : Prs} {m : Nat} {raw : List Bun} (t : Tr ps) (hr : HOk ps m raw) {ds : List Str} {c : Str} (hk : ∀ d ∈ kidsOf ps (some c), d ∈ ds) {st : FSt} (h : JB ps m raw (fun x _ => x ∈ ds) st) : JB ps m raw (fun x _ => x ∈ ds ++ [c]) (colB raw st c) := by
  have key : ∀ (r : List (Bun × Nat)) (j : Nat) (st : FSt), (∀ i, raw.zipIdx[j + i]? = r[i]?) → j + r.length = raw.length → JB ps m raw (fun x at' => x ∈ ds ∨ (x = c ∧ at' < j)) st → JB ps m raw (fun x at' => x ∈ ds ∨ (x = c ∧ at' < raw.length)) (r.foldl (stepB c) st) := by
    intro r
    induction r with
    | nil =>
      intro j st _ hl hj
      rw [List.length_nil, Nat.add_zero] at hl
      rw [hl] at hj
      exact hj
    | cons a r ih =>
      intro j st hz hl hj
      have h0 := hz 0
      rw [Nat.add_zero, List.getElem?_cons_zero, List.getElem?_zipIdx, Option.map_eq_some_iff] at h0
      obtain ⟨b, hb, rfl⟩ := h0
      rw [Nat.zero_add]
      rw [List.foldl_cons]
      refine ih (j + 1) _ (fun i => ?_) (by rw [List.length_cons] at hl; omega) (stepB_J t hr hk hb hj)
      have := hz (i + 1)
      rw [List.getElem?_cons_succ] at this
      rw [← this, show j + (i + 1) = j + 1 + i by omega]
  have := key raw.zipIdx 0 st (fun i => by rw [Nat.zero_add]) (by simp) ⟨h.hok, h.ne, h.len, fun at' b' hb' hS => h.gd at' b' hb' (by
    rcases hS with hS | ⟨_, h2⟩
    · exact hS
    · exact absurd h2 (Nat.not_lt_zero _))⟩
  refine ⟨this.hok, this.ne, this.len, fun at' b' hb' hS => this.gd at' b' hb' ?_⟩
  rcases List.mem_append.mp hS with hS | hS
  · exact .inl hS
  · exact .inr ⟨List.mem_singleton.mp hS, get_lt hb'⟩
theorem kids_done {ps : Prs} (t : Tr ps) {ds r : List Str} {c d : Str} (h : ds ++ c :: r = (ord ps none).reverse) (hd : d ∈ kidsOf ps (some c)) : d ∈ ds := by
  have e : ord ps none = r.reverse ++ c :: ds.reverse := by
    have := congrArg List.reverse h
    rw [List.reverse_reverse] at this
    rw [← this]
    simp
  have hc : c ∈ ord ps none := by rw [e]; simp
  have hdo := ord_step t hc hd
  rw [e] at hdo
  rcases List.mem_append.mp hdo with h1 | h1
  · exfalso
    rw [List.mem_reverse] at h1
    obtain ⟨i, hi⟩ := List.getElem?_of_mem (List.mem_reverse.mpr h1)
    have hil := get_lt hi
    have hi2 : (ord ps none)[i]? = some d := by rw [e]; exact app_get hi
    have hp : (DL.opr ps)[i]? = some (d, some c) := by
      unfold DL.opr oprs
      rw [List.getElem?_map, hi2, Option.map_some, kid_over t hd]
    have h2 := (t.opr.pair hp).ov c rfl
    have h3 : namesOf ((DL.opr ps).take i) = (ord ps none).take i := by
      unfold namesOf
      rw [List.map_take]
      exact congrArg (List.take i) names_opr
    rw [h3, e, List.take_append_of_le_length (by omega)] at h2
    have hn := ord_nodup t none
    rw [e, List.nodup_append] at hn
    exact hn.2.2 c (List.mem_of_mem_take h2) c List.mem_cons_self rfl
  · rcases List.mem_cons.mp h1 with rfl | h1
    · exact absurd (rk_kid t hd) (Nat.lt_irrefl _)
    · exact List.mem_reverse.mp h1
theorem foldB_J {ps : Prs} {m : Nat} {raw : List Bun} (t : Tr ps) (hr : HOk ps m raw) : JB ps m raw (fun x _ => x ∈ (ord ps none).reverse) (foldB ps raw) := by
  have key : ∀ (r ds : List Str) (st : FSt), ds ++ r = (ord ps none).reverse → JB ps m raw (fun x _ => x ∈ ds) st → JB ps m raw (fun x _ => x ∈ (ord ps none).reverse) (r.foldl (colB raw) st) := by
    intro r
    induction r with
    | nil => intro ds st h hj; rw [List.append_nil] at h; rw [← h]; exact hj
    | cons c r ih =>
      intro ds st h hj
      rw [List.foldl_cons]
      exact ih (ds ++ [c]) _ (by rw [← h]; simp) (colB_J t hr (fun d hd => kids_done t h hd) hj)
  exact key _ [] _ rfl ⟨fun b hb => (by cases hb), fun b hb => (by cases hb), List.length_replicate, fun at' b hb hS => (by cases hS)⟩
theorem foldB_gd {ps : Prs} {m : Nat} {raw : List Bun} (t : Tr ps) (hr : HOk ps m raw) {at' : Nat} {b : Bun} (hb : raw[at']? = some b) : Gd raw (foldB ps raw) at' b :=
  (foldB_J t hr).gd at' b hb (List.mem_reverse.mpr ((ord_mem t).mpr (hr b (List.mem_of_getElem? hb)).1))
def movF (o : List Nat) (parts : List Nat) : List Nat := parts.map fun p => (atN o p 0).getD 0
def movB (o : List Nat) (b : Bun) : Bun := (b.1, b.2.map fun e => (e.1, movF o e.2))
def foldP (held : List Bun) (d : Nat) (tops : Option (List Nat)) : List Bun × Option (List Nat) :=
  match tops with
  | none => ([], none)
  | some ts =>
    let o := ts.foldl (fun o p => visF held d p o) []
    (o.filterMap fun k => (held[k]?).map (movB o), some (movF o ts))
theorem filterMap_get {α β : Type} {f : α → Option β} : ∀ {l : List α} {i : Nat}, (∀ a ∈ l, (f a).isSome = true) → (l.filterMap f)[i]? = (l[i]?).bind f
  | [], i, _ => by simp
  | a :: l, i, h => by
    have ha := h a List.mem_cons_self
    rw [Option.isSome_iff_exists] at ha
    obtain ⟨b, hb⟩ := ha
    rw [List.filterMap_cons, hb]
    cases i with
    | zero => simp [hb]
    | succ i => simpa using filterMap_get (l := l) (i := i) fun a ha => h a (List.mem_cons_of_mem _ ha)
theorem at_get {o : List Nat} {p : Nat} (h : p ∈ o) : o[(atN o p 0).getD 0]? = some p := by
  cases e : atN o p 0 with
  | none => exact absurd h (atN_none.mp e)
  | some i =>
    obtain ⟨j, h1, h2⟩ := atN_some e
    rw [Option.getD_some, h1, Nat.zero_add]
    exact h2
structure FoldOk (ps : Prs) (m : Nat) (bs : List Bun) (ts : Option (List Nat)) : Prop where
  len : bs.length ≤ 10000
  hok : HOk ps m bs
  ne : NonE bs
  tops : ∀ l, ts = some l → PartR bs (kidsOf ps none) l
def rowsT (bs : List Bun) : Option (List Nat) → List (List Int)
  | none => []
  | some l => prodR (l.map (rowsB bs))
section
variable {ps : Prs} {m : Nat} {held : List Bun} {o : List Nat}
theorem mov_get (hv : Vis held o) {p : Nat} (hp : p ∈ o) : (o.filterMap fun k => (held[k]?).map (movB o))[(atN o p 0).getD 0]? = (held[p]?).map (movB o) := by
  rw [filterMap_get, at_get hp]
  · rfl
  intro k hk
  rw [List.getElem?_eq_getElem (hv.2 k hk)]
  rfl
theorem mov_part (hv : Vis held o) {cs : List Str} {parts : List Nat} (h : PartR held cs parts) (hs : ∀ p ∈ parts, p ∈ o) : PartR (o.filterMap fun k => (held[k]?).map (movB o)) cs (movF o parts) := by
  unfold PartR at h ⊢
  rw [← h]
  unfold movF
  rw [List.map_map]
  refine List.map_congr_left fun p hp => ?_
  show ((o.filterMap fun k => (held[k]?).map (movB o))[(atN o p 0).getD 0]?).map Prod.fst = _
  rw [mov_get hv (hs p hp), Option.map_map]
  rfl
theorem mov_rows (hv : Vis held o) (hc : ∀ x ∈ o, Cld held o x) : ∀ {n p : Nat}, p ∈ o → rowsN (o.filterMap fun k => (held[k]?).map (movB o)) n ((atN o p 0).getD 0) = rowsN held n p
  | 0, _, _ => rfl
  | n + 1, p, hp => by
    have hl := hv.2 p hp
    have e1 : held[p]? = some held[p] := List.getElem?_eq_getElem hl
    have e2 := mov_get hv hp
    rw [e1, Option.map_some] at e2
    rw [rowsN_some e1, rowsN_some e2]
    show (held[p].2.map _).flatMap _ = _
    rw [List.flatMap_map]
    refine flat_cong fun e he => ?_
    dsimp only
    congr 2
    unfold movF
    rw [List.map_map]
    exact List.map_congr_left fun q hq => mov_rows hv hc (hc p hp _ e1 e he q hq)
theorem foldP_ok (t : Tr ps) (h : HOk ps m held) (hn : NonE held) (hl : held.length ≤ 10000) {ts : List Nat} (ht : PartR held (kidsOf ps none) ts) : FoldOk ps m (foldP held 8 (some ts)).1 (foldP held 8 (some ts)).2 ∧ rowsT (foldP held 8 (some ts)).1 (foldP held 8 (some ts)).2 = prodR (ts.map (rowsB held)) := by
  have hd : ∀ p ∈ ts, deepB held 8 p := fun p hp => by
    obtain ⟨b, hb, _⟩ := ht.mem hp
    exact h.deep t hb
  have hva := vis_all hd
  have hv : Vis held (ts.foldl (fun o p => visF held 8 p o) []) := fold_inv (I := Vis held) ⟨List.nodup_nil, fun x hx => (by cases hx)⟩ fun o p _ ho => visF_vis ho
  unfold foldP
  dsimp only
  generalize ts.foldl (fun o p => visF held 8 p o) [] = o at *
  have hc : ∀ x ∈ o, Cld held o x := fun x hx => hva.cld x hx (by simp)
  have hall : ∀ p ∈ ts, p ∈ o := hva.all
  have hmem : ∀ b ∈ (o.filterMap fun k => (held[k]?).map (movB o)), ∃ k ∈ o, ∃ b0, held[k]? = some b0 ∧ b = movB o b0 := fun b hb => by
    obtain ⟨k, hk, e⟩ := List.mem_filterMap.mp hb
    rw [Option.map_eq_some_iff] at e
    obtain ⟨b0, h0, rfl⟩ := e
    exact ⟨k, hk, b0, h0, rfl⟩
  refine ⟨⟨?_, fun b hb => ?_, fun b hb => ?_, fun l hl' => ?_⟩, ?_⟩
  · exact Nat.le_trans (List.length_filterMap_le _ _) (Nat.le_trans hv.len hl)
  · obtain ⟨k, hk, b0, h0, rfl⟩ := hmem b hb
    obtain ⟨g1, g2, g3⟩ := h b0 (List.mem_of_getElem? h0)
    refine ⟨g1, ⟨?_, fun e he => ?_⟩, ?_⟩
    · show (b0.2.map _).Pairwise _
      rw [List.pairwise_map]
      exact g2.1
    · obtain ⟨e0, he0, rfl⟩ := List.mem_map.mp he
      exact mov_part hv (g2.2 e0 he0) fun p hp => hc k hk b0 h0 e0 he0 p hp
    · show (b0.2.map _).length ≤ m
      rw [List.length_map]
      exact g3
  · obtain ⟨k, hk, b0, h0, rfl⟩ := hmem b hb
    intro e
    exact hn b0 (List.mem_of_getElem? h0) (List.map_eq_nil_iff.mp e)
  · cases hl'
    exact mov_part hv ht hall
  · show prodR ((movF o ts).map _) = _
    unfold movF
    rw [List.map_map]
    congr 1
    exact List.map_congr_left fun p hp => mov_rows hv hc (hall p hp)
end
/-- what fold_of tells, plainly -/
def foldT (ps : Prs) (raw : List Bun) (tops : Option (List Nat)) : List Bun × Option (List Nat) := foldP (foldB ps raw).1 8 ((tops.map fun l => l.map fun p => ((foldB ps raw).2[p]?).getD none).bind allSome)
theorem foldT_ok {ps : Prs} {m : Nat} {raw : List Bun} {tops : Option (List Nat)} (t : Tr ps) (hr : HOk ps m raw) (hl : (foldB ps raw).1.length ≤ 10000) (ht : ∀ l, tops = some l → PartR raw (kidsOf ps none) l) :
    FoldOk ps m (foldT ps raw tops).1 (foldT ps raw tops).2 ∧ rowsT (foldT ps raw tops).1 (foldT ps raw tops).2 = rowsT raw tops := by
  have J := foldB_J t hr
  have nil : FoldOk ps m [] none := ⟨Nat.zero_le _, fun b hb => (by cases hb), fun b hb => (by cases hb), fun l h => (by cases h)⟩
  unfold foldT
  cases tops with
  | none => exact ⟨nil, rfl⟩
  | some l =>
    have htl := ht l rfl
    have hrel : ∀ p ∈ l, RelF (rowsB (foldB ps raw).1) (rowsB raw) (fAt (foldB ps raw).2) p := fun p hp => by
      obtain ⟨b, hb, _⟩ := htl.mem hp
      have g := foldB_gd t hr hb
      unfold Gd at g
      unfold RelF
      cases e2 : fAt (foldB ps raw).2 p with
      | none => rw [e2] at g; exact g
      | some n => rw [e2] at g; obtain ⟨_, _, _, g⟩ := g; exact g
    show FoldOk ps m (foldP (foldB ps raw).1 8 (allSome (l.map (fAt (foldB ps raw).2)))).1 (foldP (foldB ps raw).1 8 (allSome (l.map (fAt (foldB ps raw).2)))).2 ∧ rowsT (foldP (foldB ps raw).1 8 (allSome (l.map (fAt (foldB ps raw).2)))).1 (foldP (foldB ps raw).1 8 (allSome (l.map (fAt (foldB ps raw).2)))).2 = prodR (l.map (rowsB raw))
    cases e : allSome (l.map (fAt (foldB ps raw).2)) with
    | none =>
      rw [rel_none e hrel]
      exact ⟨nil, rfl⟩
    | some ns =>
      rw [← rel_all e hrel]
      refine foldP_ok t J.hok J.ne hl ?_
      have h3 := allSome_some e
      have hcol : ∀ p ∈ l, ∀ n, fAt (foldB ps raw).2 p = some n → ((foldB ps raw).1[n]?).map Prod.fst = (raw[p]?).map Prod.fst := fun p hp n e2 => by
        obtain ⟨b, hb, _⟩ := htl.mem hp
        have g := foldB_gd t hr hb
        unfold Gd at g
        rw [e2] at g
        obtain ⟨hb', g3, g4, _⟩ := g
        rw [g3, hb, Option.map_some, Option.map_some, g4]
      have ha := alive_ent (held := (foldB ps raw).1) (found := (foldB ps raw).2) (es := [(0, l)]) (cs := kidsOf ps none) ⟨List.pairwise_singleton _ _, fun e he => by rw [List.mem_singleton.mp he]; exact htl⟩ (fun e he => by rw [List.mem_singleton.mp he]; exact hcol)
      have hm : ((0 : Int), ns) ∈ aliveF (oents (foldB ps raw).2 [(0, l)]) := by
        refine List.mem_filterMap.mpr ⟨(0, l.map (fAt (foldB ps raw).2)), List.mem_singleton.mpr rfl, ?_⟩
        rw [e]
        rfl
      exact ha.2 _ hm
end DL
set_option Elab.async false
set_option linter.all false
set_option maxRecDepth 100000
set_option maxHeartbeats 2000000
namespace DL
open PySem PySem.Spec PyProof.Rows L2
def mulN (l : List Nat) : Nat := l.foldl (fun n k => n * k) 1
theorem foldl_mul : ∀ (l : List Nat) (a : Nat), l.foldl (fun n k => n * k) a = a * mulN l
  | [], a => (Nat.mul_one a).symm
  | k :: l, a => by
    unfold mulN
    rw [List.foldl_cons, foldl_mul l, List.foldl_cons, foldl_mul l (1 * k), Nat.one_mul, Nat.mul_assoc]
theorem mulN_cons (k : Nat) (l : List Nat) : mulN (k :: l) = k * mulN l := by
  show l.foldl (fun n k => n * k) (1 * k) = _
  rw [foldl_mul, Nat.one_mul]
theorem mul_flat {α β γ : Type} {f : α → β → γ} {ys : List β} : ∀ {xs : List α}, (xs.flatMap fun x => ys.map (f x)).length = xs.length * ys.length
  | [] => by simp
  | x :: xs => by
    rw [List.flatMap_cons, List.length_append, mul_flat, List.length_map, List.length_cons, Nat.add_mul, Nat.one_mul, Nat.add_comm]
theorem prodR_len : ∀ rss : List (List (List Int)), (prodR rss).length = mulN (rss.map List.length)
  | [] => rfl
  | rs :: rss => by rw [prodR, mul_flat, prodR_len rss, List.map_cons, mulN_cons]
def prodAt (ns : List Nat) (parts : List Nat) : Nat := mulN (parts.map fun p => (ns[p]?).getD 0)
theorem entRows_len (R : Nat → List (List Int)) : ∀ es : List Ent, (entRows R es).length = (es.map fun e => mulN (e.2.map fun p => (R p).length)).sum
  | [] => rfl
  | e :: es => by
    have ih := entRows_len R es
    unfold entRows at ih ⊢
    rw [List.flatMap_cons, List.length_append, ih, List.length_map, prodR_len, List.map_map, List.map_cons, List.sum_cons]
    rfl
def idxB (bs : List Bun) (c : Str) : List Nat := (bs.zipIdx.filter fun x => decide (x.1.1 = c)).map Prod.snd
def bycol (ps : Prs) (bs : List Bun) : List Nat := (ord ps none).reverse.flatMap (idxB bs)
theorem idxB_mem {bs : List Bun} {c : Str} {k : Nat} : k ∈ idxB bs c ↔ ∃ b, bs[k]? = some b ∧ b.1 = c := by
  unfold idxB
  simp only [List.mem_map, List.mem_filter, decide_eq_true_eq]
  constructor
  · rintro ⟨⟨b, i⟩, ⟨h1, h2⟩, rfl⟩
    rw [List.mem_zipIdx_iff_getElem?] at h1
    exact ⟨b, h1, h2⟩
  · rintro ⟨b, h1, h2⟩
    exact ⟨(b, k), ⟨by rw [List.mem_zipIdx_iff_getElem?]; exact h1, h2⟩, rfl⟩
theorem flat_at {α β : Type} {f : α → List β} : ∀ {l : List α} {i : Nat} {k : β}, (l.flatMap f)[i]? = some k → ∃ ds c r, l = ds ++ c :: r ∧ k ∈ f c ∧ (ds.flatMap f).length ≤ i
  | [], i, k, h => by simp at h
  | a :: l, i, k, h => by
    rw [List.flatMap_cons] at h
    by_cases e : i < (f a).length
    · rw [List.getElem?_append_left e] at h
      exact ⟨[], a, l, rfl, List.mem_of_getElem? h, Nat.zero_le _⟩
    · rw [List.getElem?_append_right (by omega)] at h
      obtain ⟨ds, c, r, h1, h2, h3⟩ := flat_at h
      refine ⟨a :: ds, c, r, by rw [h1]; rfl, h2, ?_⟩
      rw [List.flatMap_cons, List.length_append]
      omega
theorem bycol_part {ps : Prs} {m : Nat} {bs : List Bun} (t : Tr ps) (h : HOk ps m bs) {i k : Nat} {b : Bun} (hi : (bycol ps bs)[i]? = some k) (hb : bs[k]? = some b) {e : Ent} (he : e ∈ b.2) {p : Nat} (hp : p ∈ e.2) : p ∈ (bycol ps bs).take i := by
  obtain ⟨ds, c, r, h1, h2, h3⟩ := flat_at hi
  obtain ⟨b', hb', hc⟩ := idxB_mem.mp h2
  rw [hb] at hb'
  cases hb'
  obtain ⟨_, g2, _⟩ := h b (List.mem_of_getElem? hb)
  obtain ⟨b2, hb2, hk⟩ := (g2.2 e he).mem hp
  rw [hc] at hk
  have hd := kids_done t h1.symm hk
  unfold bycol
  rw [h1, List.flatMap_append, List.take_append]
  refine List.mem_append_left _ ?_
  rw [List.take_of_length_le h3]
  exact List.mem_flatMap.mpr ⟨b2.1, hd, idxB_mem.mpr ⟨b2, hb2, rfl⟩⟩
theorem bycol_mem {ps : Prs} {m : Nat} {bs : List Bun} (t : Tr ps) (h : HOk ps m bs) {k : Nat} : k ∈ bycol ps bs ↔ k < bs.length := by
  unfold bycol
  rw [List.mem_flatMap]
  constructor
  · rintro ⟨c, _, hk⟩
    obtain ⟨b, hb, _⟩ := idxB_mem.mp hk
    exact get_lt hb
  · intro hk
    have hb : bs[k]? = some bs[k] := List.getElem?_eq_getElem hk
    exact ⟨_, List.mem_reverse.mpr ((ord_mem t).mpr (h _ (List.getElem_mem hk)).1), idxB_mem.mpr ⟨_, hb, rfl⟩⟩
theorem idxB_len {bs : List Bun} {c : Str} : (idxB bs c).length ≤ bs.length := by
  unfold idxB
  rw [List.length_map]
  exact Nat.le_trans (List.length_filter_le _ _) (by simp)
/-- how many rows each bunch has -/
def cntL (bs : List Bun) : List Nat := (List.range bs.length).map fun k => (rowsB bs k).length
def entCnt (ns : List Nat) (es : List Ent) : Nat := (es.map fun e => prodAt ns e.2).sum
def cntStep (bs : List Bun) (ns : List Nat) (k : Nat) : List Nat := ns.set k (entCnt ns (((bs[k]?).map Prod.snd).getD []))
structure CntI (bs : List Bun) (L : List Nat) (ns : List Nat) : Prop where
  len : ns.length = bs.length
  at' : ∀ k ∈ L, ns[k]? = some (rowsB bs k).length
  le : ∀ n ∈ ns, n = 0 ∨ ∃ k, k < bs.length ∧ n = (rowsB bs k).length
theorem cnt_step {ps : Prs} {m : Nat} {bs : List Bun} (t : Tr ps) (h : HOk ps m bs) {i k : Nat} (hi : (bycol ps bs)[i]? = some k) {ns : List Nat} (I : CntI bs ((bycol ps bs).take i) ns) : CntI bs ((bycol ps bs).take (i + 1)) (cntStep bs ns k) := by
  have hk : k < bs.length := (bycol_mem t h).mp (List.mem_of_getElem? hi)
  have hb : bs[k]? = some bs[k] := List.getElem?_eq_getElem hk
  have e1 : entCnt ns (((bs[k]?).map Prod.snd).getD []) = (rowsB bs k).length := by
    rw [rows_eq t h hb, entRows_len, hb]
    unfold entCnt
    congr 1
    refine List.map_congr_left fun e he => ?_
    unfold prodAt
    congr 1
    refine List.map_congr_left fun p hp => ?_
    rw [I.at' p (bycol_part t h hi hb he hp)]
    rfl
  unfold cntStep
  rw [e1]
  refine ⟨by rw [List.length_set]; exact I.len, fun x hx => ?_, fun n hn => ?_⟩
  · by_cases e : x = k
    · subst e
      rw [List.getElem?_set_self (by rw [I.len]; exact hk)]
    · rw [List.getElem?_set_ne (Ne.symm e)]
      rw [List.take_add_one, hi] at hx
      rcases List.mem_append.mp hx with hx | hx
      · exact I.at' x hx
      · exact absurd (List.mem_singleton.mp hx) e
  · rcases List.mem_or_eq_of_mem_set hn with hn | rfl
    · exact I.le n hn
    · exact .inr ⟨k, hk, rfl⟩
theorem cnt_nil (bs : List Bun) : CntI bs [] (List.replicate bs.length 0) := ⟨List.length_replicate, fun k hk => (by cases hk), fun n hn => .inl (List.eq_of_mem_replicate hn)⟩
theorem cnt_all {ps : Prs} {m : Nat} {bs : List Bun} (t : Tr ps) (h : HOk ps m bs) {ns : List Nat} (I : CntI bs (bycol ps bs) ns) : ns = cntL bs := by
  refine List.ext_getElem? fun k => ?_
  by_cases hk : k < bs.length
  · rw [I.at' k ((bycol_mem t h).mpr hk)]
    unfold cntL
    rw [List.getElem?_map, List.getElem?_range hk]
    rfl
  · rw [List.getElem?_eq_none (by rw [I.len]; omega), List.getElem?_eq_none (by unfold cntL; rw [List.length_map, List.length_range]; omega)]
theorem cntL_at {bs : List Bun} {k : Nat} (hk : k < bs.length) : (cntL bs)[k]? = some (rowsB bs k).length := by
  unfold cntL
  rw [List.getElem?_map, List.getElem?_range hk]
  rfl
theorem count_eq {ps : Prs} {m : Nat} {bs : List Bun} {l : List Nat} {cs : List Str} (h : PartR bs cs l) : prodAt (cntL bs) l = (prodR (l.map (rowsB bs))).length := by
  rw [prodR_len, List.map_map]
  unfold prodAt
  congr 1
  refine List.map_congr_left fun p hp => ?_
  rw [cntL_at (h.lt hp)]
  rfl
theorem mulN_le {a : Nat} (ha : 1 ≤ a) : ∀ {l : List Nat} {ds : List Nat}, l.length = ds.length → (∀ (i x d : Nat), l[i]? = some x → ds[i]? = some d → x ≤ a ^ d) → mulN l ≤ a ^ ds.sum
  | [], [], _, _ => by simp [mulN]
  | x :: l, d :: ds, hl, h => by
    rw [mulN_cons, List.sum_cons, Nat.pow_add]
    exact Nat.mul_le_mul (h 0 x d rfl rfl) (mulN_le ha (by simpa using hl) fun i x d h1 h2 => h (i + 1) x d (by simpa using h1) (by simpa using h2))
theorem sum_le_mul {m : Nat} : ∀ {l : List Nat}, (∀ x ∈ l, x ≤ m) → l.sum ≤ l.length * m
  | [], _ => Nat.zero_le _
  | x :: l, h => by
    rw [List.sum_cons, List.length_cons, Nat.add_mul, Nat.one_mul]
    have h1 := h x List.mem_cons_self
    have h2 := sum_le_mul fun y hy => h y (List.mem_cons_of_mem _ hy)
    omega
theorem ord_sum {ps : Prs} (t : Tr ps) (o : Option Str) : (ord ps o).length = ((kidsOf ps o).map fun c => (ord ps (some c)).length + 1).sum := by
  rw [ord_eq t, List.length_flatMap]
  rfl
theorem rows_le {ps : Prs} {m : Nat} {bs : List Bun} (t : Tr ps) (h : HOk ps m bs) (hm : 1 ≤ m) : ∀ {n k : Nat} {b : Bun}, bs[k]? = some b → (rowsN bs n k).length ≤ m ^ ((ord ps (some b.1)).length + 1)
  | 0, _, _, _ => Nat.zero_le _
  | n + 1, k, b, hb => by
    obtain ⟨_, g2, g3⟩ := h b (List.mem_of_getElem? hb)
    rw [rowsN_some hb, entRows_len, Nat.pow_succ, Nat.mul_comm]
    refine Nat.le_trans (sum_le_mul (m := m ^ (ord ps (some b.1)).length) fun x hx => ?_) ?_
    · obtain ⟨e, he, rfl⟩ := List.mem_map.mp hx
      have hp := g2.2 e he
      rw [ord_sum t]
      refine mulN_le hm (by rw [List.length_map, List.length_map, hp.len]) fun i x d h1 h2 => ?_
      rw [List.getElem?_map, Option.map_eq_some_iff] at h1 h2
      obtain ⟨p, h1, rfl⟩ := h1
      obtain ⟨c, h2, rfl⟩ := h2
      obtain ⟨b', hb', rfl⟩ := hp.get h1 h2
      exact rows_le t h hm hb'
    · rw [List.length_map]
      exact Nat.mul_le_mul_right _ g3
theorem ord_kid_len {ps : Prs} (t : Tr ps) {c : Str} (hc : c ∈ namesOf ps) : (ord ps (some c)).length + 1 ≤ 8 := by
  have h1 := beneath_len t hc
  have := t.len
  rw [List.length_cons] at h1
  omega
theorem rows_le8 {ps : Prs} {m : Nat} {bs : List Bun} (t : Tr ps) (h : HOk ps m bs) (hm : 1 ≤ m) {k : Nat} (hk : k < bs.length) : (rowsB bs k).length ≤ m ^ 8 := by
  have hb : bs[k]? = some bs[k] := List.getElem?_eq_getElem hk
  exact Nat.le_trans (rows_le t h hm hb) (Nat.pow_le_pow_right hm (ord_kid_len t (h _ (List.getElem_mem hk)).1))
def blkV (ps : Prs) (val : Str → Int) (c : Str) : List Int := val c :: (ord ps (some c)).map val
theorem mem_ent {R : Nat → List (List Int)} {es : List Ent} {v : Int} {r : List Int} : v :: r ∈ entRows R es ↔ ∃ e ∈ es, e.1 = v ∧ r ∈ prodR (e.2.map R) := by
  unfold entRows
  simp only [List.mem_flatMap, List.mem_map]
  constructor
  · rintro ⟨e, he, r', hr, h⟩
    injection h with h1 h2
    exact ⟨e, he, h1, h2 ▸ hr⟩
  · rintro ⟨e, he, rfl, hr⟩
    exact ⟨e, he, r, hr, rfl⟩
theorem mem_prod_cons {rs : List (List Int)} {rss : List (List (List Int))} {x y : List Int} (h : ∀ r ∈ rs, r.length = x.length) : x ++ y ∈ prodR (rs :: rss) ↔ x ∈ rs ∧ y ∈ prodR rss := by
  rw [prodR]
  simp only [List.mem_flatMap, List.mem_map]
  constructor
  · rintro ⟨r, hr, s, hs, e⟩
    obtain ⟨e1, e2⟩ := List.append_inj e (h r hr)
    exact ⟨e1 ▸ hr, e2 ▸ hs⟩
  · rintro ⟨hx, hy⟩
    exact ⟨x, hx, y, hy, rfl⟩
theorem prodR_lens : ∀ {rss : List (List (List Int))} {ds : List Nat}, rss.length = ds.length → (∀ (i : Nat) (rs : List (List Int)) (d : Nat), rss[i]? = some rs → ds[i]? = some d → ∀ r ∈ rs, r.length = d) → ∀ r ∈ prodR rss, r.length = ds.sum
  | [], [], _, _, r, hr => by
    rw [prodR, List.mem_singleton] at hr
    rw [hr]; rfl
  | rs :: rss, d :: ds, hl, h, r, hr => by
    rw [prodR] at hr
    simp only [List.mem_flatMap, List.mem_map] at hr
    obtain ⟨x, hx, y, hy, rfl⟩ := hr
    rw [List.length_append, h 0 rs d rfl rfl x hx, prodR_lens (ds := ds) (by simpa using hl) (fun i rs d h1 h2 => h (i + 1) rs d (by simpa using h1) (by simpa using h2)) y hy, List.sum_cons]
theorem rows_wide {ps : Prs} {m : Nat} {bs : List Bun} (t : Tr ps) (h : HOk ps m bs) : ∀ {n k : Nat} {b : Bun}, bs[k]? = some b → ∀ r ∈ rowsN bs n k, r.length = (ord ps (some b.1)).length + 1
  | 0, _, _, _, r, hr => by cases hr
  | n + 1, k, b, hb, r, hr => by
    obtain ⟨_, g2, g3⟩ := h b (List.mem_of_getElem? hb)
    rw [rowsN_some hb] at hr
    unfold entRows at hr
    simp only [List.mem_flatMap, List.mem_map] at hr
    obtain ⟨e, he, s, hs, rfl⟩ := hr
    have hp := g2.2 e he
    rw [List.length_cons, ord_sum t]
    refine congrArg (· + 1) (prodR_lens (by rw [List.length_map, List.length_map, hp.len]) (fun i rs d h1 h2 => ?_) s hs)
    rw [List.getElem?_map, Option.map_eq_some_iff] at h1 h2
    obtain ⟨p, h1, rfl⟩ := h1
    obtain ⟨c, h2, rfl⟩ := h2
    obtain ⟨b', hb', rfl⟩ := hp.get h1 h2
    exact rows_wide t h hb'
theorem mem_prod {ps : Prs} {m : Nat} {bs : List Bun} (t : Tr ps) (h : HOk ps m bs) {val : Str → Int} : ∀ {cs : List Str} {parts : List Nat}, PartR bs cs parts → ((cs.flatMap (blkV ps val)) ∈ prodR (parts.map (rowsB bs)) ↔ ∀ (i p : Nat) (c : Str), parts[i]? = some p → cs[i]? = some c → blkV ps val c ∈ rowsB bs p)
  | [], [], _ => by simp [prodR]
  | c :: cs, [], hp => by have := hp.len; simp at this
  | [], p :: parts, hp => by have := hp.len; simp at this
  | c :: cs, p :: parts, hp => by
    have hp2 : PartR bs cs parts := by
      unfold PartR at hp ⊢
      rw [List.map_cons, List.map_cons] at hp
      injection hp
    obtain ⟨b, hb, rfl⟩ := hp.get (i := 0) rfl rfl
    rw [List.flatMap_cons, List.map_cons, mem_prod_cons, mem_prod t h hp2]
    · constructor
      · rintro ⟨h1, h2⟩ i q d e1 e2
        cases i with
        | zero => cases e1; cases e2; exact h1
        | succ i => exact h2 i q d (by simpa using e1) (by simpa using e2)
      · intro g
        exact ⟨g 0 _ _ rfl rfl, fun i q d e1 e2 => g (i + 1) q d (by simpa using e1) (by simpa using e2)⟩
    · intro r hr
      rw [rows_wide t h hb r hr]
      simp [blkV]
theorem blk_ord {ps : Prs} (t : Tr ps) {val : Str → Int} (o : Option Str) : (ord ps o).map val = (kidsOf ps o).flatMap (blkV ps val) := by
  rw [ord_eq t, List.map_flatMap]
  rfl
/-- the parts behind a value -/
def partsAt (es : List Ent) (v : Int) : Option (List Nat) := (es.find? fun e => decide (e.1 = v)).map Prod.snd
theorem parts_mem {es : List Ent} (h : es.Pairwise fun e f => e.1 < f.1) {v : Int} {P : List Nat → Prop} : (∃ e ∈ es, e.1 = v ∧ P e.2) ↔ ∃ l, partsAt es v = some l ∧ P l := by
  induction es with
  | nil => simp [partsAt]
  | cons e es ih =>
    rw [List.pairwise_cons] at h
    have ih2 := ih h.2
    unfold partsAt at ih2 ⊢
    rw [List.find?_cons]
    by_cases ev : e.1 = v
    · rw [decide_eq_true ev]
      constructor
      · rintro ⟨f, hf, e2, hP⟩
        rcases List.mem_cons.mp hf with rfl | hf
        · exact ⟨f.2, rfl, hP⟩
        · have := h.1 f hf
          omega
      · rintro ⟨l, hl, hP⟩
        cases hl
        exact ⟨e, List.mem_cons_self, ev, hP⟩
    · rw [decide_eq_false ev]
      dsimp only
      rw [← ih2]
      constructor
      · rintro ⟨f, hf, e2, hP⟩
        rcases List.mem_cons.mp hf with rfl | hf
        · exact absurd e2 ev
        · exact ⟨f, hf, e2, hP⟩
      · rintro ⟨f, hf, e2, hP⟩
        exact ⟨f, List.mem_cons_of_mem _ hf, e2, hP⟩
theorem holds_iff {ps : Prs} {m : Nat} {bs : List Bun} (t : Tr ps) (h : HOk ps m bs) {val : Str → Int} {k : Nat} {b : Bun} (hb : bs[k]? = some b) : blkV ps val b.1 ∈ rowsB bs k ↔ ∃ l, partsAt b.2 (val b.1) = some l ∧ ∀ (i p : Nat) (c : Str), l[i]? = some p → (kidsOf ps (some b.1))[i]? = some c → blkV ps val c ∈ rowsB bs p := by
  obtain ⟨_, g2, g3⟩ := h b (List.mem_of_getElem? hb)
  rw [rows_eq t h hb]
  show val b.1 :: (ord ps (some b.1)).map val ∈ _ ↔ _
  rw [mem_ent, ← parts_mem g2.1 (P := fun l => ∀ (i p : Nat) (c : Str), l[i]? = some p → (kidsOf ps (some b.1))[i]? = some c → blkV ps val c ∈ rowsB bs p)]
  constructor
  · rintro ⟨e, he, e1, hr⟩
    refine ⟨e, he, e1, ?_⟩
    rw [blk_ord t] at hr
    exact (mem_prod t h (g2.2 e he)).mp hr
  · rintro ⟨e, he, e1, hr⟩
    refine ⟨e, he, e1, ?_⟩
    rw [blk_ord t]
    exact (mem_prod t h (g2.2 e he)).mpr hr
theorem has_iff {ps : Prs} {m : Nat} {bs : List Bun} (t : Tr ps) (h : HOk ps m bs) {val : Str → Int} {l : List Nat} (hl : PartR bs (kidsOf ps none) l) : (ord ps none).map val ∈ prodR (l.map (rowsB bs)) ↔ ∀ (i p : Nat) (c : Str), l[i]? = some p → (kidsOf ps none)[i]? = some c → blkV ps val c ∈ rowsB bs p := by
  rw [blk_ord t]
  exact mem_prod t h hl
end DL
set_option Elab.async false
set_option linter.all false
set_option maxRecDepth 100000
set_option maxHeartbeats 2000000
namespace DL
open PySem PySem.Spec PyProof.Rows L2
section
variable {Z : Zn} {ρ : Ro} {M : Mu} {ta : TE} {Q2 : DQ} {W : Wd} {G : Hp}
theorem datL_rg : ∀ l : List Nat, DatL W G (l.map natD) (l.map fun i => V.int ((0 : Int) + (i : Nat)))
  | [] => datL_nil'
  | n :: l => by
    rw [List.map_cons, List.map_cons, Int.zero_add]
    exact datL_cons' dat_v' (datL_rg l)
theorem we_listRg (h : WE Z ta ρ M fun d M1 => ∃ n : Nat, d = .i (n : Nat) ∧ n ≤ 10000 ∧ ∀ q, M1 q = none → Q2 (.r q) (updM M1 q (.lst ((List.range n).map natD)))) : WE Z (tLstRg (tRg1 ta)) ρ M Q2 := fun G σ H Q s R E r =>
  h G σ H _ s R E fun d v G1 M1 H1 s1 R1 x q => by
    obtain ⟨n, rfl, hn, q⟩ := q
    refine ⟨n, dat_v.mp x, RgOk.of_le (by omega) (by omega) (by omega) (by omega), fun p hp => r _ _ G1 _ _ s1 (R1.newM (mo := .lst ((List.range n).map natD)) hp ⟨_, upd_same, ?_⟩) dat_v' (q p (R1.mnone hp))⟩
    unfold rgV
    rw [show ((n : Int) - 0).toNat = n by omega]
    exact datL_rg _
end
end DL
set_option Elab.async false
set_option linter.all false
set_option maxRecDepth 100000
set_option maxHeartbeats 2000000
namespace DL
open PySem PySem.Spec PyProof.Rows L2
def txI (i : Int) : Str := PySem.Str.ofString (toString i)
section
variable {W : Wd} {Z : Zn} {G F H : Hp} {ρ : Ro} {M : Mu} {Q2 : DQ} {te : TE}
theorem we_fmtI (h : WE Z te ρ M fun d M1 => ∃ i : Int, d = .i i ∧ i.natAbs.log2 < 1920 ∧ Q2 (.s (txI i)) M1) : WE Z (tFmt te) ρ M Q2 := fun G σ H Q s R E r =>
  h G σ H _ s R E fun d v G1 M1 H1 s1 R1 dx ⟨i, e, hz, q⟩ => by
    subst e
    exact .inr ⟨i, dat_v.mp dx, hz, r _ _ G1 M1 H1 s1 R1 dat_v' q⟩
theorem wc_strI {i : Int} (hz : i.natAbs.log2 < 1920) (h : Q2 (.s (txI i)) M) : WC Z (fun xs H Q => ∃ i, xs = [.int i] ∧ i.natAbs.log2 < 1920 ∧ Q (.str (toString i)) H) [.i i] M Q2 := fun G H vs Q s R xd r => by
  obtain ⟨y, rfl, dx⟩ := one_of xd
  rw [dat_v.mp dx]
  exact ⟨i, rfl, hz, r _ _ G M H (Same.refl G) R dat_v' h⟩
end
theorem txI_len {n : Nat} (h : n < 2 ^ 64) : (txI (n : Nat)).length ≤ 100 := toString_length_le (v := (n : Int)) (by omega) (by decide) (by
    have h2 : (2 : Nat) ^ 64 ≤ 10 ^ 100 := by decide +kernel
    have h3 : n < 10 ^ 100 := Nat.lt_of_lt_of_le h h2
    have h4 : ((n : Nat) : Int) < ((10 ^ 100 : Nat) : Int) := Int.ofNat_lt.mpr h3
    rw [Int.natCast_pow] at h4
    exact h4)
theorem log_lt {n : Nat} (h : n < 2 ^ 64) : (n : Int).natAbs.log2 < 1920 := by
  rw [Int.natAbs_natCast]
  by_cases e : n = 0
  · subst e; decide
  · have := (Nat.log2_lt e).mpr h
    omega
end DL
set_option Elab.async false
set_option linter.all false
set_option maxRecDepth 100000
set_option maxHeartbeats 4000000
namespace Law
open PySem PySem.Spec PyProof.Rows L2 DL
def top (i : Nat) : Stmt := PySem.Challenge.pw_foldbough_k20_rows_of_a_fold.main.body.getD i (.Pass ⟨0, 0, 0, 0⟩)
abbrev s_is_name : Stmt := top 13
abbrev s_is_value : Stmt := top 14
abbrev s_is_row : Stmt := top 15
abbrev s_want_row : Stmt := top 16
abbrev s_product_at : Stmt := top 19
abbrev s_by_columns : Stmt := top 20
abbrev s_counts_of : Stmt := top 21
abbrev s_parts_at : Stmt := top 22
abbrev s_holds : Stmt := top 23
abbrev s_visit : Stmt := top 25
abbrev s_moved : Stmt := top 26
abbrev s_is_part : Stmt := top 28
abbrev s_is_bunch : Stmt := top 29
abbrev s_fold_of : Stmt := top 30
abbrev s_at_places : Stmt := top 31
abbrev s_rows_at : Stmt := top 32
abbrev s_rows_of_parts : Stmt := top 33
abbrev s_unfolded : Stmt := top 34
abbrev s_is_pair : Stmt := top 36
abbrev s_order_from : Stmt := top 37
abbrev s__law_well : Stmt := top 41
abbrev s__law_draw : Stmt := top 42
abbrev s__law_names : Stmt := top 43
abbrev s__law_base : Stmt := top 44
abbrev s__law_pairs : Stmt := top 45
abbrev s__law_order : Stmt := top 46
abbrev s__law_bunch : Stmt := top 47
abbrev s__law_raw : Stmt := top 48
abbrev s__law_shuffled : Stmt := top 49
abbrev s__law_rows_of : Stmt := top 50
abbrev s__law_refused : Stmt := top 51
abbrev s__law_near : Stmt := top 52
abbrev s__law_right : Stmt := top 53
abbrev s_law : Stmt := top 54
abbrev s_NoRow_o___init__ : Stmt := inClass (top 4) 0
abbrev s_NoTree_o___init__ : Stmt := inClass (top 5) 0
abbrev s_NoColumn_o___init__ : Stmt := inClass (top 6) 0
abbrev s_NoFold_o___init__ : Stmt := inClass (top 7) 0
abbrev s_TooMany_o___init__ : Stmt := inClass (top 8) 0
abbrev s_Fold_o___init__ : Stmt := inClass (top 18) 0
abbrev s_Fold_o___len__ : Stmt := inClass (top 18) 1
abbrev s_Fold_o___eq__ : Stmt := inClass (top 18) 2
abbrev s_Fold_o___str__ : Stmt := inClass (top 18) 3
abbrev s_Fold_o_bunches : Stmt := inClass (top 18) 5
abbrev s_Fold_o_tops : Stmt := inClass (top 18) 6
abbrev s_Fold_o_count : Stmt := inClass (top 18) 7
abbrev s_Fold_o_weight : Stmt := inClass (top 18) 8
abbrev s_Fold_o_has : Stmt := inClass (top 18) 9
abbrev s_Pool_o___init__ : Stmt := inClass (top 24) 0
abbrev s_Pool_o_put : Stmt := inClass (top 24) 1
abbrev s_Pool_o_fold : Stmt := inClass (top 24) 2
abbrev s_Tree_o___init__ : Stmt := inClass (top 38) 0
abbrev s_Tree_o___len__ : Stmt := inClass (top 38) 1
abbrev s_Tree_o___eq__ : Stmt := inClass (top 38) 2
abbrev s_Tree_o_want : Stmt := inClass (top 38) 4
abbrev s_Tree_o_columns : Stmt := inClass (top 38) 5
abbrev s_Tree_o_pairs : Stmt := inClass (top 38) 6
abbrev s_Tree_o_over : Stmt := inClass (top 38) 7
abbrev s_Tree_o_above : Stmt := inClass (top 38) 8
abbrev s_Tree_o_beneath : Stmt := inClass (top 38) 9
abbrev s_Tree_o_children : Stmt := inClass (top 38) 10
structure Ad where
  c_FoldError : Addr
  c_NoColumns : Addr
  c_NoRow : Addr
  c_NoTree : Addr
  c_NoColumn : Addr
  c_NoFold : Addr
  c_TooMany : Addr
  c_Fold : Addr
  c_Pool : Addr
  c_Tree : Addr
  f_is_name : Addr
  d_is_name : FuncData
  f_is_value : Addr
  d_is_value : FuncData
  f_is_row : Addr
  d_is_row : FuncData
  f_want_row : Addr
  d_want_row : FuncData
  f_product_at : Addr
  d_product_at : FuncData
  f_by_columns : Addr
  d_by_columns : FuncData
  f_counts_of : Addr
  d_counts_of : FuncData
  f_parts_at : Addr
  d_parts_at : FuncData
  f_holds : Addr
  d_holds : FuncData
  f_visit : Addr
  d_visit : FuncData
  f_moved : Addr
  d_moved : FuncData
  f_is_part : Addr
  d_is_part : FuncData
  f_is_bunch : Addr
  d_is_bunch : FuncData
  f_fold_of : Addr
  d_fold_of : FuncData
  f_at_places : Addr
  d_at_places : FuncData
  f_rows_at : Addr
  d_rows_at : FuncData
  f_rows_of_parts : Addr
  d_rows_of_parts : FuncData
  f_unfolded : Addr
  d_unfolded : FuncData
  f_is_pair : Addr
  d_is_pair : FuncData
  f_order_from : Addr
  d_order_from : FuncData
  f__law_well : Addr
  d__law_well : FuncData
  f__law_draw : Addr
  d__law_draw : FuncData
  f__law_names : Addr
  d__law_names : FuncData
  f__law_base : Addr
  d__law_base : FuncData
  f__law_pairs : Addr
  d__law_pairs : FuncData
  f__law_order : Addr
  d__law_order : FuncData
  f__law_bunch : Addr
  d__law_bunch : FuncData
  f__law_raw : Addr
  d__law_raw : FuncData
  f__law_shuffled : Addr
  d__law_shuffled : FuncData
  f__law_rows_of : Addr
  d__law_rows_of : FuncData
  f__law_refused : Addr
  d__law_refused : FuncData
  f__law_near : Addr
  d__law_near : FuncData
  f__law_right : Addr
  d__law_right : FuncData
  f_law : Addr
  d_law : FuncData
  f_NoRow_o___init__ : Addr
  d_NoRow_o___init__ : FuncData
  f_NoTree_o___init__ : Addr
  d_NoTree_o___init__ : FuncData
  f_NoColumn_o___init__ : Addr
  d_NoColumn_o___init__ : FuncData
  f_NoFold_o___init__ : Addr
  d_NoFold_o___init__ : FuncData
  f_TooMany_o___init__ : Addr
  d_TooMany_o___init__ : FuncData
  f_Fold_o___init__ : Addr
  d_Fold_o___init__ : FuncData
  f_Fold_o___len__ : Addr
  d_Fold_o___len__ : FuncData
  f_Fold_o___eq__ : Addr
  d_Fold_o___eq__ : FuncData
  f_Fold_o___str__ : Addr
  d_Fold_o___str__ : FuncData
  f_Fold_o_bunches : Addr
  d_Fold_o_bunches : FuncData
  f_Fold_o_tops : Addr
  d_Fold_o_tops : FuncData
  f_Fold_o_count : Addr
  d_Fold_o_count : FuncData
  f_Fold_o_weight : Addr
  d_Fold_o_weight : FuncData
  f_Fold_o_has : Addr
  d_Fold_o_has : FuncData
  f_Pool_o___init__ : Addr
  d_Pool_o___init__ : FuncData
  f_Pool_o_put : Addr
  d_Pool_o_put : FuncData
  f_Pool_o_fold : Addr
  d_Pool_o_fold : FuncData
  f_Tree_o___init__ : Addr
  d_Tree_o___init__ : FuncData
  f_Tree_o___len__ : Addr
  d_Tree_o___len__ : FuncData
  f_Tree_o___eq__ : Addr
  d_Tree_o___eq__ : FuncData
  f_Tree_o_want : Addr
  d_Tree_o_want : FuncData
  f_Tree_o_columns : Addr
  d_Tree_o_columns : FuncData
  f_Tree_o_pairs : Addr
  d_Tree_o_pairs : FuncData
  f_Tree_o_over : Addr
  d_Tree_o_over : FuncData
  f_Tree_o_above : Addr
  d_Tree_o_above : FuncData
  f_Tree_o_beneath : Addr
  d_Tree_o_beneath : FuncData
  f_Tree_o_children : Addr
  d_Tree_o_children : FuncData
structure Tx (K : PySem.W.Frag) (mg : Str → Option Value) (a : Ad) : Prop where
  F_is_name : Df K "is_name" "is_name" s_is_name [] a.f_is_name a.d_is_name
  g_is_name : mg "is_name" = some (.ref a.f_is_name)
  k_is_name : PySem.W.keepIn K (.ref a.f_is_name) = true
  b_is_name : Binds K a.d_is_name ["thing"] []
  F_is_value : Df K "is_value" "is_value" s_is_value [] a.f_is_value a.d_is_value
  g_is_value : mg "is_value" = some (.ref a.f_is_value)
  k_is_value : PySem.W.keepIn K (.ref a.f_is_value) = true
  b_is_value : Binds K a.d_is_value ["thing"] []
  F_is_row : Df K "is_row" "is_row" s_is_row [] a.f_is_row a.d_is_row
  g_is_row : mg "is_row" = some (.ref a.f_is_row)
  k_is_row : PySem.W.keepIn K (.ref a.f_is_row) = true
  b_is_row : Binds K a.d_is_row ["thing", "many"] []
  F_want_row : Df K "want_row" "want_row" s_want_row [.int 0] a.f_want_row a.d_want_row
  g_want_row : mg "want_row" = some (.ref a.f_want_row)
  k_want_row : PySem.W.keepIn K (.ref a.f_want_row) = true
  b_want_row : Binds K a.d_want_row ["thing", "many", "at"] []
  bx1_want_row : ∃ ds, Vals [.int 0] ds ∧ Binds K a.d_want_row ["thing", "many", "at"] ds
  F_product_at : Df K "product_at" "product_at" s_product_at [] a.f_product_at a.d_product_at
  g_product_at : mg "product_at" = some (.ref a.f_product_at)
  k_product_at : PySem.W.keepIn K (.ref a.f_product_at) = true
  b_product_at : Binds K a.d_product_at ["numbers", "parts"] []
  F_by_columns : Df K "by_columns" "by_columns" s_by_columns [] a.f_by_columns a.d_by_columns
  g_by_columns : mg "by_columns" = some (.ref a.f_by_columns)
  k_by_columns : PySem.W.keepIn K (.ref a.f_by_columns) = true
  b_by_columns : Binds K a.d_by_columns ["fold"] []
  F_counts_of : Df K "counts_of" "counts_of" s_counts_of [] a.f_counts_of a.d_counts_of
  g_counts_of : mg "counts_of" = some (.ref a.f_counts_of)
  k_counts_of : PySem.W.keepIn K (.ref a.f_counts_of) = true
  b_counts_of : Binds K a.d_counts_of ["fold"] []
  F_parts_at : Df K "parts_at" "parts_at" s_parts_at [] a.f_parts_at a.d_parts_at
  g_parts_at : mg "parts_at" = some (.ref a.f_parts_at)
  k_parts_at : PySem.W.keepIn K (.ref a.f_parts_at) = true
  b_parts_at : Binds K a.d_parts_at ["fold", "number", "value"] []
  F_holds : Df K "holds" "holds" s_holds [] a.f_holds a.d_holds
  g_holds : mg "holds" = some (.ref a.f_holds)
  k_holds : PySem.W.keepIn K (.ref a.f_holds) = true
  b_holds : Binds K a.d_holds ["fold", "number", "values"] []
  F_visit : Df K "visit" "visit" s_visit [] a.f_visit a.d_visit
  g_visit : mg "visit" = some (.ref a.f_visit)
  k_visit : PySem.W.keepIn K (.ref a.f_visit) = true
  b_visit : Binds K a.d_visit ["held", "number", "places", "order"] []
  F_moved : Df K "moved" "moved" s_moved [] a.f_moved a.d_moved
  g_moved : mg "moved" = some (.ref a.f_moved)
  k_moved : PySem.W.keepIn K (.ref a.f_moved) = true
  b_moved : Binds K a.d_moved ["parts", "places"] []
  F_is_part : Df K "is_part" "is_part" s_is_part [] a.f_is_part a.d_is_part
  g_is_part : mg "is_part" = some (.ref a.f_is_part)
  k_is_part : PySem.W.keepIn K (.ref a.f_is_part) = true
  b_is_part : Binds K a.d_is_part ["thing", "columns", "many", "bunches"] []
  F_is_bunch : Df K "is_bunch" "is_bunch" s_is_bunch [] a.f_is_bunch a.d_is_bunch
  g_is_bunch : mg "is_bunch" = some (.ref a.f_is_bunch)
  k_is_bunch : PySem.W.keepIn K (.ref a.f_is_bunch) = true
  b_is_bunch : Binds K a.d_is_bunch ["tree", "thing", "bunches"] []
  F_fold_of : Df K "fold_of" "fold_of" s_fold_of [] a.f_fold_of a.d_fold_of
  g_fold_of : mg "fold_of" = some (.ref a.f_fold_of)
  k_fold_of : PySem.W.keepIn K (.ref a.f_fold_of) = true
  b_fold_of : Binds K a.d_fold_of ["tree", "bunches", "tops"] []
  F_at_places : Df K "at_places" "at_places" s_at_places [] a.f_at_places a.d_at_places
  g_at_places : mg "at_places" = some (.ref a.f_at_places)
  k_at_places : PySem.W.keepIn K (.ref a.f_at_places) = true
  b_at_places : Binds K a.d_at_places ["found", "parts"] []
  F_rows_at : Df K "rows_at" "rows_at" s_rows_at [] a.f_rows_at a.d_rows_at
  g_rows_at : mg "rows_at" = some (.ref a.f_rows_at)
  k_rows_at : PySem.W.keepIn K (.ref a.f_rows_at) = true
  b_rows_at : Binds K a.d_rows_at ["fold", "number", "known"] []
  F_rows_of_parts : Df K "rows_of_parts" "rows_of_parts" s_rows_of_parts [] a.f_rows_of_parts a.d_rows_of_parts
  g_rows_of_parts : mg "rows_of_parts" = some (.ref a.f_rows_of_parts)
  k_rows_of_parts : PySem.W.keepIn K (.ref a.f_rows_of_parts) = true
  b_rows_of_parts : Binds K a.d_rows_of_parts ["fold", "parts", "known"] []
  F_unfolded : Df K "unfolded" "unfolded" s_unfolded [.int 1000] a.f_unfolded a.d_unfolded
  g_unfolded : mg "unfolded" = some (.ref a.f_unfolded)
  k_unfolded : PySem.W.keepIn K (.ref a.f_unfolded) = true
  b_unfolded : Binds K a.d_unfolded ["fold", "most"] []
  bx1_unfolded : ∃ ds, Vals [.int 1000] ds ∧ Binds K a.d_unfolded ["fold", "most"] ds
  F_is_pair : Df K "is_pair" "is_pair" s_is_pair [] a.f_is_pair a.d_is_pair
  g_is_pair : mg "is_pair" = some (.ref a.f_is_pair)
  k_is_pair : PySem.W.keepIn K (.ref a.f_is_pair) = true
  b_is_pair : Binds K a.d_is_pair ["thing", "overs"] []
  F_order_from : Df K "order_from" "order_from" s_order_from [] a.f_order_from a.d_order_from
  g_order_from : mg "order_from" = some (.ref a.f_order_from)
  k_order_from : PySem.W.keepIn K (.ref a.f_order_from) = true
  b_order_from : Binds K a.d_order_from ["kids", "column"] []
  F__law_well : Df K "_law_well" "_law_well" s__law_well [] a.f__law_well a.d__law_well
  g__law_well : mg "_law_well" = some (.ref a.f__law_well)
  k__law_well : PySem.W.keepIn K (.ref a.f__law_well) = true
  b__law_well : Binds K a.d__law_well ["_law_cell", "_law_k"] []
  F__law_draw : Df K "_law_draw" "_law_draw" s__law_draw [] a.f__law_draw a.d__law_draw
  g__law_draw : mg "_law_draw" = some (.ref a.f__law_draw)
  k__law_draw : PySem.W.keepIn K (.ref a.f__law_draw) = true
  b__law_draw : Binds K a.d__law_draw ["_law_well_here", "_law_top"] []
  F__law_names : Df K "_law_names" "_law_names" s__law_names [] a.f__law_names a.d__law_names
  g__law_names : mg "_law_names" = some (.ref a.f__law_names)
  k__law_names : PySem.W.keepIn K (.ref a.f__law_names) = true
  b__law_names : Binds K a.d__law_names ["_law_well_here", "_law_count"] []
  F__law_base : Df K "_law_base" "_law_base" s__law_base [] a.f__law_base a.d__law_base
  g__law_base : mg "_law_base" = some (.ref a.f__law_base)
  k__law_base : PySem.W.keepIn K (.ref a.f__law_base) = true
  b__law_base : Binds K a.d__law_base ["_law_well_here"] []
  F__law_pairs : Df K "_law_pairs" "_law_pairs" s__law_pairs [] a.f__law_pairs a.d__law_pairs
  g__law_pairs : mg "_law_pairs" = some (.ref a.f__law_pairs)
  k__law_pairs : PySem.W.keepIn K (.ref a.f__law_pairs) = true
  b__law_pairs : Binds K a.d__law_pairs ["_law_well_here", "_law_names_here"] []
  F__law_order : Df K "_law_order" "_law_order" s__law_order [] a.f__law_order a.d__law_order
  g__law_order : mg "_law_order" = some (.ref a.f__law_order)
  k__law_order : PySem.W.keepIn K (.ref a.f__law_order) = true
  b__law_order : Binds K a.d__law_order ["_law_pairs_here", "_law_over"] []
  F__law_bunch : Df K "_law_bunch" "_law_bunch" s__law_bunch [] a.f__law_bunch a.d__law_bunch
  g__law_bunch : mg "_law_bunch" = some (.ref a.f__law_bunch)
  k__law_bunch : PySem.W.keepIn K (.ref a.f__law_bunch) = true
  b__law_bunch : Binds K a.d__law_bunch ["_law_well_here", "_law_pairs_here", "_law_made", "_law_name", "_law_base_here"] []
  F__law_raw : Df K "_law_raw" "_law_raw" s__law_raw [] a.f__law_raw a.d__law_raw
  g__law_raw : mg "_law_raw" = some (.ref a.f__law_raw)
  k__law_raw : PySem.W.keepIn K (.ref a.f__law_raw) = true
  b__law_raw : Binds K a.d__law_raw ["_law_well_here", "_law_pairs_here", "_law_base_here"] []
  F__law_shuffled : Df K "_law_shuffled" "_law_shuffled" s__law_shuffled [] a.f__law_shuffled a.d__law_shuffled
  g__law_shuffled : mg "_law_shuffled" = some (.ref a.f__law_shuffled)
  k__law_shuffled : PySem.W.keepIn K (.ref a.f__law_shuffled) = true
  b__law_shuffled : Binds K a.d__law_shuffled ["_law_well_here", "_law_made", "_law_roots"] []
  F__law_rows_of : Df K "_law_rows_of" "_law_rows_of" s__law_rows_of [] a.f__law_rows_of a.d__law_rows_of
  g__law_rows_of : mg "_law_rows_of" = some (.ref a.f__law_rows_of)
  k__law_rows_of : PySem.W.keepIn K (.ref a.f__law_rows_of) = true
  b__law_rows_of : Binds K a.d__law_rows_of ["_law_bunches", "_law_parts"] []
  F__law_refused : Df K "_law_refused" "_law_refused" s__law_refused [] a.f__law_refused a.d__law_refused
  g__law_refused : mg "_law_refused" = some (.ref a.f__law_refused)
  k__law_refused : PySem.W.keepIn K (.ref a.f__law_refused) = true
  b__law_refused : Binds K a.d__law_refused ["_law_fold", "_law_odd"] []
  F__law_near : Df K "_law_near" "_law_near" s__law_near [] a.f__law_near a.d__law_near
  g__law_near : mg "_law_near" = some (.ref a.f__law_near)
  k__law_near : PySem.W.keepIn K (.ref a.f__law_near) = true
  b__law_near : Binds K a.d__law_near ["_law_well_here", "_law_line", "_law_base_here"] []
  F__law_right : Df K "_law_right" "_law_right" s__law_right [] a.f__law_right a.d__law_right
  g__law_right : mg "_law_right" = some (.ref a.f__law_right)
  k__law_right : PySem.W.keepIn K (.ref a.f__law_right) = true
  b__law_right : Binds K a.d__law_right ["_law_well_here"] []
  F_law : Df K "law" "law" s_law [] a.f_law a.d_law
  g_law : mg "law" = some (.ref a.f_law)
  k_law : PySem.W.keepIn K (.ref a.f_law) = true
  b_law : Binds K a.d_law ["_law_script"] []
  F_NoRow_o___init__ : Df K "__init__" "NoRow.__init__" s_NoRow_o___init__ [] a.f_NoRow_o___init__ a.d_NoRow_o___init__
  k_NoRow_o___init__ : PySem.W.keepIn K (.ref a.f_NoRow_o___init__) = true
  b_NoRow_o___init__ : Binds K a.d_NoRow_o___init__ ["self", "at"] []
  F_NoTree_o___init__ : Df K "__init__" "NoTree.__init__" s_NoTree_o___init__ [] a.f_NoTree_o___init__ a.d_NoTree_o___init__
  k_NoTree_o___init__ : PySem.W.keepIn K (.ref a.f_NoTree_o___init__) = true
  b_NoTree_o___init__ : Binds K a.d_NoTree_o___init__ ["self", "at"] []
  F_NoColumn_o___init__ : Df K "__init__" "NoColumn.__init__" s_NoColumn_o___init__ [] a.f_NoColumn_o___init__ a.d_NoColumn_o___init__
  k_NoColumn_o___init__ : PySem.W.keepIn K (.ref a.f_NoColumn_o___init__) = true
  b_NoColumn_o___init__ : Binds K a.d_NoColumn_o___init__ ["self", "name"] []
  F_NoFold_o___init__ : Df K "__init__" "NoFold.__init__" s_NoFold_o___init__ [] a.f_NoFold_o___init__ a.d_NoFold_o___init__
  k_NoFold_o___init__ : PySem.W.keepIn K (.ref a.f_NoFold_o___init__) = true
  b_NoFold_o___init__ : Binds K a.d_NoFold_o___init__ ["self", "at"] []
  F_TooMany_o___init__ : Df K "__init__" "TooMany.__init__" s_TooMany_o___init__ [] a.f_TooMany_o___init__ a.d_TooMany_o___init__
  k_TooMany_o___init__ : PySem.W.keepIn K (.ref a.f_TooMany_o___init__) = true
  b_TooMany_o___init__ : Binds K a.d_TooMany_o___init__ ["self", "many"] []
  F_Fold_o___init__ : Df K "__init__" "Fold.__init__" s_Fold_o___init__ [] a.f_Fold_o___init__ a.d_Fold_o___init__
  k_Fold_o___init__ : PySem.W.keepIn K (.ref a.f_Fold_o___init__) = true
  b_Fold_o___init__ : Binds K a.d_Fold_o___init__ ["self", "tree", "bunches", "tops"] []
  F_Fold_o___len__ : Df K "__len__" "Fold.__len__" s_Fold_o___len__ [] a.f_Fold_o___len__ a.d_Fold_o___len__
  k_Fold_o___len__ : PySem.W.keepIn K (.ref a.f_Fold_o___len__) = true
  b_Fold_o___len__ : Binds K a.d_Fold_o___len__ ["self"] []
  F_Fold_o___eq__ : Df K "__eq__" "Fold.__eq__" s_Fold_o___eq__ [] a.f_Fold_o___eq__ a.d_Fold_o___eq__
  k_Fold_o___eq__ : PySem.W.keepIn K (.ref a.f_Fold_o___eq__) = true
  b_Fold_o___eq__ : Binds K a.d_Fold_o___eq__ ["self", "other"] []
  F_Fold_o___str__ : Df K "__str__" "Fold.__str__" s_Fold_o___str__ [] a.f_Fold_o___str__ a.d_Fold_o___str__
  k_Fold_o___str__ : PySem.W.keepIn K (.ref a.f_Fold_o___str__) = true
  b_Fold_o___str__ : Binds K a.d_Fold_o___str__ ["self"] []
  F_Fold_o_bunches : Df K "bunches" "Fold.bunches" s_Fold_o_bunches [] a.f_Fold_o_bunches a.d_Fold_o_bunches
  k_Fold_o_bunches : PySem.W.keepIn K (.ref a.f_Fold_o_bunches) = true
  b_Fold_o_bunches : Binds K a.d_Fold_o_bunches ["self"] []
  m_Fold_o_bunches : Meth K a.c_Fold "bunches" a.f_Fold_o_bunches
  F_Fold_o_tops : Df K "tops" "Fold.tops" s_Fold_o_tops [] a.f_Fold_o_tops a.d_Fold_o_tops
  k_Fold_o_tops : PySem.W.keepIn K (.ref a.f_Fold_o_tops) = true
  b_Fold_o_tops : Binds K a.d_Fold_o_tops ["self"] []
  m_Fold_o_tops : Meth K a.c_Fold "tops" a.f_Fold_o_tops
  F_Fold_o_count : Df K "count" "Fold.count" s_Fold_o_count [] a.f_Fold_o_count a.d_Fold_o_count
  k_Fold_o_count : PySem.W.keepIn K (.ref a.f_Fold_o_count) = true
  b_Fold_o_count : Binds K a.d_Fold_o_count ["self"] []
  m_Fold_o_count : Meth K a.c_Fold "count" a.f_Fold_o_count
  F_Fold_o_weight : Df K "weight" "Fold.weight" s_Fold_o_weight [] a.f_Fold_o_weight a.d_Fold_o_weight
  k_Fold_o_weight : PySem.W.keepIn K (.ref a.f_Fold_o_weight) = true
  b_Fold_o_weight : Binds K a.d_Fold_o_weight ["self"] []
  m_Fold_o_weight : Meth K a.c_Fold "weight" a.f_Fold_o_weight
  F_Fold_o_has : Df K "has" "Fold.has" s_Fold_o_has [] a.f_Fold_o_has a.d_Fold_o_has
  k_Fold_o_has : PySem.W.keepIn K (.ref a.f_Fold_o_has) = true
  b_Fold_o_has : Binds K a.d_Fold_o_has ["self", "row"] []
  m_Fold_o_has : Meth K a.c_Fold "has" a.f_Fold_o_has
  F_Pool_o___init__ : Df K "__init__" "Pool.__init__" s_Pool_o___init__ [] a.f_Pool_o___init__ a.d_Pool_o___init__
  k_Pool_o___init__ : PySem.W.keepIn K (.ref a.f_Pool_o___init__) = true
  b_Pool_o___init__ : Binds K a.d_Pool_o___init__ ["self", "tree"] []
  F_Pool_o_put : Df K "put" "Pool.put" s_Pool_o_put [] a.f_Pool_o_put a.d_Pool_o_put
  k_Pool_o_put : PySem.W.keepIn K (.ref a.f_Pool_o_put) = true
  b_Pool_o_put : Binds K a.d_Pool_o_put ["self", "column", "entries"] []
  m_Pool_o_put : Meth K a.c_Pool "put" a.f_Pool_o_put
  F_Pool_o_fold : Df K "fold" "Pool.fold" s_Pool_o_fold [] a.f_Pool_o_fold a.d_Pool_o_fold
  k_Pool_o_fold : PySem.W.keepIn K (.ref a.f_Pool_o_fold) = true
  b_Pool_o_fold : Binds K a.d_Pool_o_fold ["self", "tops"] []
  m_Pool_o_fold : Meth K a.c_Pool "fold" a.f_Pool_o_fold
  F_Tree_o___init__ : Df K "__init__" "Tree.__init__" s_Tree_o___init__ [] a.f_Tree_o___init__ a.d_Tree_o___init__
  k_Tree_o___init__ : PySem.W.keepIn K (.ref a.f_Tree_o___init__) = true
  b_Tree_o___init__ : Binds K a.d_Tree_o___init__ ["self", "pairs"] []
  F_Tree_o___len__ : Df K "__len__" "Tree.__len__" s_Tree_o___len__ [] a.f_Tree_o___len__ a.d_Tree_o___len__
  k_Tree_o___len__ : PySem.W.keepIn K (.ref a.f_Tree_o___len__) = true
  b_Tree_o___len__ : Binds K a.d_Tree_o___len__ ["self"] []
  F_Tree_o___eq__ : Df K "__eq__" "Tree.__eq__" s_Tree_o___eq__ [] a.f_Tree_o___eq__ a.d_Tree_o___eq__
  k_Tree_o___eq__ : PySem.W.keepIn K (.ref a.f_Tree_o___eq__) = true
  b_Tree_o___eq__ : Binds K a.d_Tree_o___eq__ ["self", "other"] []
  F_Tree_o_want : Df K "want" "Tree.want" s_Tree_o_want [] a.f_Tree_o_want a.d_Tree_o_want
  k_Tree_o_want : PySem.W.keepIn K (.ref a.f_Tree_o_want) = true
  b_Tree_o_want : Binds K a.d_Tree_o_want ["self", "column"] []
  m_Tree_o_want : Meth K a.c_Tree "want" a.f_Tree_o_want
  F_Tree_o_columns : Df K "columns" "Tree.columns" s_Tree_o_columns [] a.f_Tree_o_columns a.d_Tree_o_columns
  k_Tree_o_columns : PySem.W.keepIn K (.ref a.f_Tree_o_columns) = true
  b_Tree_o_columns : Binds K a.d_Tree_o_columns ["self"] []
  m_Tree_o_columns : Meth K a.c_Tree "columns" a.f_Tree_o_columns
  F_Tree_o_pairs : Df K "pairs" "Tree.pairs" s_Tree_o_pairs [] a.f_Tree_o_pairs a.d_Tree_o_pairs
  k_Tree_o_pairs : PySem.W.keepIn K (.ref a.f_Tree_o_pairs) = true
  b_Tree_o_pairs : Binds K a.d_Tree_o_pairs ["self"] []
  m_Tree_o_pairs : Meth K a.c_Tree "pairs" a.f_Tree_o_pairs
  F_Tree_o_over : Df K "over" "Tree.over" s_Tree_o_over [] a.f_Tree_o_over a.d_Tree_o_over
  k_Tree_o_over : PySem.W.keepIn K (.ref a.f_Tree_o_over) = true
  b_Tree_o_over : Binds K a.d_Tree_o_over ["self", "column"] []
  m_Tree_o_over : Meth K a.c_Tree "over" a.f_Tree_o_over
  F_Tree_o_above : Df K "above" "Tree.above" s_Tree_o_above [] a.f_Tree_o_above a.d_Tree_o_above
  k_Tree_o_above : PySem.W.keepIn K (.ref a.f_Tree_o_above) = true
  b_Tree_o_above : Binds K a.d_Tree_o_above ["self", "column"] []
  F_Tree_o_beneath : Df K "beneath" "Tree.beneath" s_Tree_o_beneath [] a.f_Tree_o_beneath a.d_Tree_o_beneath
  k_Tree_o_beneath : PySem.W.keepIn K (.ref a.f_Tree_o_beneath) = true
  b_Tree_o_beneath : Binds K a.d_Tree_o_beneath ["self", "column"] []
  F_Tree_o_children : Df K "children" "Tree.children" s_Tree_o_children [.non] a.f_Tree_o_children a.d_Tree_o_children
  k_Tree_o_children : PySem.W.keepIn K (.ref a.f_Tree_o_children) = true
  b_Tree_o_children : Binds K a.d_Tree_o_children ["self", "column"] []
  bx1_Tree_o_children : ∃ ds, Vals [.non] ds ∧ Binds K a.d_Tree_o_children ["self", "column"] ds
  m_Tree_o_children : Meth K a.c_Tree "children" a.f_Tree_o_children
  gc_FoldError : mg "FoldError" = some (.ref a.c_FoldError)
  sp_FoldError : PySem.W.specialIn K (.ref a.c_FoldError) "__getattribute__" = some (some (.builtin "type.__getattribute__"))
  rd_FoldError : PySem.W.readsIn K a.c_FoldError (.type "type") = true
  fc_FoldError : PySem.W.findCls K (.ref a.c_FoldError) (.type "type") "__init__" = some (.val (.builtin "ValueError.__init__"))
  gc_NoColumns : mg "NoColumns" = some (.ref a.c_NoColumns)
  gc_NoRow : mg "NoRow" = some (.ref a.c_NoRow)
  ox_NoRow : OexC K a.c_NoRow
  iC_NoRow : PySem.W.findIn K (.ref a.c_NoRow) "__init__" = some (some (.ref a.f_NoRow_o___init__))
  tI_NoRow : PySem.W.typeIn K (.ref a.f_NoRow_o___init__) = some (.type "function")
  xc_NoRow : ExcC K a.c_NoRow
  xf_NoRow : XfC K a.c_NoRow
  gc_NoTree : mg "NoTree" = some (.ref a.c_NoTree)
  ox_NoTree : OexC K a.c_NoTree
  iC_NoTree : PySem.W.findIn K (.ref a.c_NoTree) "__init__" = some (some (.ref a.f_NoTree_o___init__))
  tI_NoTree : PySem.W.typeIn K (.ref a.f_NoTree_o___init__) = some (.type "function")
  gc_NoColumn : mg "NoColumn" = some (.ref a.c_NoColumn)
  ox_NoColumn : OexC K a.c_NoColumn
  iC_NoColumn : PySem.W.findIn K (.ref a.c_NoColumn) "__init__" = some (some (.ref a.f_NoColumn_o___init__))
  tI_NoColumn : PySem.W.typeIn K (.ref a.f_NoColumn_o___init__) = some (.type "function")
  gc_NoFold : mg "NoFold" = some (.ref a.c_NoFold)
  ox_NoFold : OexC K a.c_NoFold
  iC_NoFold : PySem.W.findIn K (.ref a.c_NoFold) "__init__" = some (some (.ref a.f_NoFold_o___init__))
  tI_NoFold : PySem.W.typeIn K (.ref a.f_NoFold_o___init__) = some (.type "function")
  gc_TooMany : mg "TooMany" = some (.ref a.c_TooMany)
  ox_TooMany : OexC K a.c_TooMany
  iC_TooMany : PySem.W.findIn K (.ref a.c_TooMany) "__init__" = some (some (.ref a.f_TooMany_o___init__))
  tI_TooMany : PySem.W.typeIn K (.ref a.f_TooMany_o___init__) = some (.type "function")
  gc_Fold : mg "Fold" = some (.ref a.c_Fold)
  cl_Fold : Cls K a.c_Fold
  mk_Fold : Mk K a.c_Fold a.f_Fold_o___init__
  fl_Fold : PySem.W.findIn K (.ref a.c_Fold) "__len__" = some (some (.ref a.f_Fold_o___len__))
  il_Fold : PySem.W.isFn K (.ref a.f_Fold_o___len__) = true
  fs_Fold : PySem.W.findIn K (.ref a.c_Fold) "__str__" = some (some (.ref a.f_Fold_o___str__))
  is_Fold : PySem.W.isFn K (.ref a.f_Fold_o___str__) = true
  eq_Fold : EqC K a.c_Fold a.f_Fold_o___eq__
  gc_Pool : mg "Pool" = some (.ref a.c_Pool)
  cl_Pool : Cls K a.c_Pool
  mk_Pool : Mk K a.c_Pool a.f_Pool_o___init__
  gc_Tree : mg "Tree" = some (.ref a.c_Tree)
  cl_Tree : Cls K a.c_Tree
  mk_Tree : Mk K a.c_Tree a.f_Tree_o___init__
  fl_Tree : PySem.W.findIn K (.ref a.c_Tree) "__len__" = some (some (.ref a.f_Tree_o___len__))
  il_Tree : PySem.W.isFn K (.ref a.f_Tree_o___len__) = true
  eq_Tree : EqC K a.c_Tree a.f_Tree_o___eq__
  ex_NoRow_FoldError : PySem.W.exmOne K (.ref a.c_NoRow) (.ref a.c_FoldError) = some true
  ki_NoRow_NoColumns : PySem.W.kitOne K (.ref a.c_NoRow) (.ref a.c_NoColumns) = some false
  ki_NoneType_Fold : PySem.W.kitOne K (.type "NoneType") (.ref a.c_Fold) = some false
  ki_NoneType_Tree : PySem.W.kitOne K (.type "NoneType") (.ref a.c_Tree) = some false
  ki_Tree_Fold : PySem.W.kitOne K (.ref a.c_Tree) (.ref a.c_Fold) = some false
  ki_bool_Fold : PySem.W.kitOne K (.type "bool") (.ref a.c_Fold) = some false
  ki_bool_Tree : PySem.W.kitOne K (.type "bool") (.ref a.c_Tree) = some false
  ki_dict_Fold : PySem.W.kitOne K (.type "dict") (.ref a.c_Fold) = some false
  ki_dict_Tree : PySem.W.kitOne K (.type "dict") (.ref a.c_Tree) = some false
  ki_int_Fold : PySem.W.kitOne K (.type "int") (.ref a.c_Fold) = some false
  ki_int_Tree : PySem.W.kitOne K (.type "int") (.ref a.c_Tree) = some false
  ki_list_Fold : PySem.W.kitOne K (.type "list") (.ref a.c_Fold) = some false
  ki_list_Tree : PySem.W.kitOne K (.type "list") (.ref a.c_Tree) = some false
  ki_str_Fold : PySem.W.kitOne K (.type "str") (.ref a.c_Fold) = some false
  ki_str_Tree : PySem.W.kitOne K (.type "str") (.ref a.c_Tree) = some false
  ki_tuple_Fold : PySem.W.kitOne K (.type "tuple") (.ref a.c_Fold) = some false
  ki_tuple_Tree : PySem.W.kitOne K (.type "tuple") (.ref a.c_Tree) = some false
  kt_Fold_Fold : PySem.W.kitOne K (.ref a.c_Fold) (.ref a.c_Fold) = some true
  kt_NoRow_NoRow : PySem.W.kitOne K (.ref a.c_NoRow) (.ref a.c_NoRow) = some true
  kt_Tree_Tree : PySem.W.kitOne K (.ref a.c_Tree) (.ref a.c_Tree) = some true
  na_Fold_o_held : NoAttr K a.c_Fold "held"
  na_Fold_o_roots : NoAttr K a.c_Fold "roots"
  na_Fold_o_shape : NoAttr K a.c_Fold "shape"
  na_NoColumn_o_name : NoAttr K a.c_NoColumn "name"
  na_NoFold_o_at : NoAttr K a.c_NoFold "at"
  na_NoRow_o_at : NoAttr K a.c_NoRow "at"
  na_NoTree_o_at : NoAttr K a.c_NoTree "at"
  na_Pool_o_held : NoAttr K a.c_Pool "held"
  na_Pool_o_numbers : NoAttr K a.c_Pool "numbers"
  na_Pool_o_shape : NoAttr K a.c_Pool "shape"
  na_TooMany_o_many : NoAttr K a.c_TooMany "many"
  na_Tree_o_kids : NoAttr K a.c_Tree "kids"
  na_Tree_o_order : NoAttr K a.c_Tree "order"
  na_Tree_o_overs : NoAttr K a.c_Tree "overs"
  nf_Fold_Fold : PySem.W.notFirst K a.c_Fold (.ref a.c_Fold) = true
  nf_Fold_NoneType : PySem.W.notFirst K a.c_Fold (.type "NoneType") = true
  nf_Fold_Tree : PySem.W.notFirst K a.c_Fold (.ref a.c_Tree) = true
  nf_Fold_list : PySem.W.notFirst K a.c_Fold (.type "list") = true
  nf_Tree_Tree : PySem.W.notFirst K a.c_Tree (.ref a.c_Tree) = true
  v_LETTERS : ∃ u, mg "LETTERS" = some u ∧ RelV (.str "abcdefghijklmnopqrstuvwxyz") u
  v_LONGEST_NAME : ∃ u, mg "LONGEST_NAME" = some u ∧ RelV (.int 8) u
  v_MOST_COLUMNS : ∃ u, mg "MOST_COLUMNS" = some u ∧ RelV (.int 8) u
  z_all : mg "all" = none
  z_bool : mg "bool" = none
  z_dict : mg "dict" = none
  z_enumerate : mg "enumerate" = none
  z_int : mg "int" = none
  z_isinstance : mg "isinstance" = none
  z_len : mg "len" = none
  z_list : mg "list" = none
  z_range : mg "range" = none
  z_reversed : mg "reversed" = none
  z_str : mg "str" = none
  z_sum : mg "sum" = none
  z_tuple : mg "tuple" = none
  z_zip : mg "zip" = none
abbrev N_is_name : List Str := ["thing"]
theorem sc_is_name : FnScope N_is_name ["thing"] (defScope s_is_name) := ⟨rfl, rfl, rfl, by decide +kernel, rfl, by decide +kernel, by decide +kernel⟩
abbrev N_is_value : List Str := ["thing"]
theorem sc_is_value : FnScope N_is_value ["thing"] (defScope s_is_value) := ⟨rfl, rfl, rfl, by decide +kernel, rfl, by decide +kernel, by decide +kernel⟩
abbrev N_is_row : List Str := ["thing", "many", "one"]
theorem sc_is_row : FnScope N_is_row ["thing", "many"] (defScope s_is_row) := ⟨rfl, rfl, rfl, by decide +kernel, rfl, by decide +kernel, by decide +kernel⟩
abbrev N_want_row : List Str := ["thing", "many", "at"]
theorem sc_want_row : FnScope N_want_row ["thing", "many", "at"] (defScope s_want_row) := ⟨rfl, rfl, rfl, by decide +kernel, rfl, by decide +kernel, by decide +kernel⟩
abbrev N_product_at : List Str := ["numbers", "parts", "found", "part"]
theorem sc_product_at : FnScope N_product_at ["numbers", "parts"] (defScope s_product_at) := ⟨rfl, rfl, rfl, by decide +kernel, rfl, by decide +kernel, by decide +kernel⟩
abbrev N_by_columns : List Str := ["fold", "found", "column", "number", "bunch"]
theorem sc_by_columns : FnScope N_by_columns ["fold"] (defScope s_by_columns) := ⟨rfl, rfl, rfl, by decide +kernel, rfl, by decide +kernel, by decide +kernel⟩
abbrev N_counts_of : List Str := ["fold", "found", "number", "value", "parts"]
theorem sc_counts_of : FnScope N_counts_of ["fold"] (defScope s_counts_of) := ⟨rfl, rfl, rfl, by decide +kernel, rfl, by decide +kernel, by decide +kernel⟩
abbrev N_parts_at : List Str := ["fold", "number", "value", "one", "parts"]
theorem sc_parts_at : FnScope N_parts_at ["fold", "number", "value"] (defScope s_parts_at) := ⟨rfl, rfl, rfl, by decide +kernel, rfl, by decide +kernel, by decide +kernel⟩
abbrev N_holds : List Str := ["fold", "number", "values", "parts", "part"]
theorem sc_holds : FnScope N_holds ["fold", "number", "values"] (defScope s_holds) := ⟨rfl, rfl, rfl, by decide +kernel, rfl, by decide +kernel, by decide +kernel⟩
abbrev N_visit : List Str := ["held", "number", "places", "order", "value", "parts", "part"]
theorem sc_visit : FnScope N_visit ["held", "number", "places", "order"] (defScope s_visit) := ⟨rfl, rfl, rfl, by decide +kernel, rfl, by decide +kernel, by decide +kernel⟩
abbrev N_moved : List Str := ["parts", "places", "part"]
theorem sc_moved : FnScope N_moved ["parts", "places"] (defScope s_moved) := ⟨rfl, rfl, rfl, by decide +kernel, rfl, by decide +kernel, by decide +kernel⟩
abbrev N_is_part : List Str := ["thing", "columns", "many", "bunches", "number", "column", "bunch"]
theorem sc_is_part : FnScope N_is_part ["thing", "columns", "many", "bunches"] (defScope s_is_part) := ⟨rfl, rfl, rfl, by decide +kernel, rfl, by decide +kernel, by decide +kernel⟩
abbrev N_is_bunch : List Str := ["tree", "thing", "bunches", "children", "last", "entry"]
theorem sc_is_bunch : FnScope N_is_bunch ["tree", "thing", "bunches"] (defScope s_is_bunch) := ⟨rfl, rfl, rfl, by decide +kernel, rfl, by decide +kernel, by decide +kernel⟩
abbrev N_fold_of : List Str := ["tree", "bunches", "tops", "at", "bunch", "heads", "pool", "found", "column", "name", "entries", "value", "parts"]
theorem sc_fold_of : FnScope N_fold_of ["tree", "bunches", "tops"] (defScope s_fold_of) := ⟨rfl, rfl, rfl, by decide +kernel, rfl, by decide +kernel, by decide +kernel⟩
abbrev N_at_places : List Str := ["found", "parts", "part"]
theorem sc_at_places : FnScope N_at_places ["found", "parts"] (defScope s_at_places) := ⟨rfl, rfl, rfl, by decide +kernel, rfl, by decide +kernel, by decide +kernel⟩
abbrev N_rows_at : List Str := ["fold", "number", "known", "found", "value", "parts", "rest"]
theorem sc_rows_at : FnScope N_rows_at ["fold", "number", "known"] (defScope s_rows_at) := ⟨rfl, rfl, rfl, by decide +kernel, rfl, by decide +kernel, by decide +kernel⟩
abbrev N_rows_of_parts : List Str := ["fold", "parts", "known", "found", "part", "longer", "row", "rest"]
theorem sc_rows_of_parts : FnScope N_rows_of_parts ["fold", "parts", "known"] (defScope s_rows_of_parts) := ⟨rfl, rfl, rfl, by decide +kernel, rfl, by decide +kernel, by decide +kernel⟩
abbrev N_unfolded : List Str := ["fold", "most", "many"]
theorem sc_unfolded : FnScope N_unfolded ["fold", "most"] (defScope s_unfolded) := ⟨rfl, rfl, rfl, by decide +kernel, rfl, by decide +kernel, by decide +kernel⟩
abbrev N_is_pair : List Str := ["thing", "overs"]
theorem sc_is_pair : FnScope N_is_pair ["thing", "overs"] (defScope s_is_pair) := ⟨rfl, rfl, rfl, by decide +kernel, rfl, by decide +kernel, by decide +kernel⟩
abbrev N_order_from : List Str := ["kids", "column", "found", "child"]
theorem sc_order_from : FnScope N_order_from ["kids", "column"] (defScope s_order_from) := ⟨rfl, rfl, rfl, by decide +kernel, rfl, by decide +kernel, by decide +kernel⟩
abbrev N__law_well : List Str := ["_law_cell", "_law_k"]
theorem sc__law_well : FnScope N__law_well ["_law_cell", "_law_k"] (defScope s__law_well) := ⟨rfl, rfl, rfl, by decide +kernel, rfl, by decide +kernel, by decide +kernel⟩
abbrev N__law_draw : List Str := ["_law_well_here", "_law_top", "_law_found", "_law_prime", "_law_twist"]
theorem sc__law_draw : FnScope N__law_draw ["_law_well_here", "_law_top"] (defScope s__law_draw) := ⟨rfl, rfl, rfl, by decide +kernel, rfl, by decide +kernel, by decide +kernel⟩
abbrev N__law_names : List Str := ["_law_well_here", "_law_count", "_law_letters", "_law_begin", "_law_apart", "_law_base_here", "_law_spot", "_law_more", "_law_found", "_law_k", "_law_letter"]
theorem sc__law_names : FnScope N__law_names ["_law_well_here", "_law_count"] (defScope s__law_names) := ⟨rfl, rfl, rfl, by decide +kernel, rfl, by decide +kernel, by decide +kernel⟩
abbrev N__law_base : List Str := ["_law_well_here", "_law_great"]
theorem sc__law_base : FnScope N__law_base ["_law_well_here"] (defScope s__law_base) := ⟨rfl, rfl, rfl, by decide +kernel, rfl, by decide +kernel, by decide +kernel⟩
abbrev N__law_pairs : List Str := ["_law_well_here", "_law_names_here", "_law_found", "_law_k", "_law_name"]
theorem sc__law_pairs : FnScope N__law_pairs ["_law_well_here", "_law_names_here"] (defScope s__law_pairs) := ⟨rfl, rfl, rfl, by decide +kernel, rfl, by decide +kernel, by decide +kernel⟩
abbrev N__law_order : List Str := ["_law_pairs_here", "_law_over", "_law_found", "_law_name", "_law_head"]
theorem sc__law_order : FnScope N__law_order ["_law_pairs_here", "_law_over"] (defScope s__law_order) := ⟨rfl, rfl, rfl, by decide +kernel, rfl, by decide +kernel, by decide +kernel⟩
abbrev N__law_bunch : List Str := ["_law_well_here", "_law_pairs_here", "_law_made", "_law_name", "_law_base_here", "_law_children", "_law_entries", "_law_step", "_law_k", "_law_parts", "_law_child", "_law_some", "_law_other", "_law_over", "_law_at", "_law_bunch_here"]
theorem sc__law_bunch : FnScope N__law_bunch ["_law_well_here", "_law_pairs_here", "_law_made", "_law_name", "_law_base_here"] (defScope s__law_bunch) := ⟨rfl, rfl, rfl, by decide +kernel, rfl, by decide +kernel, by decide +kernel⟩
abbrev N__law_raw : List Str := ["_law_well_here", "_law_pairs_here", "_law_base_here", "_law_made", "_law_name", "_law_k", "_law_roots", "_law_some", "_law_over", "_law_at", "_law_bunch_here"]
theorem sc__law_raw : FnScope N__law_raw ["_law_well_here", "_law_pairs_here", "_law_base_here"] (defScope s__law_raw) := ⟨rfl, rfl, rfl, by decide +kernel, rfl, by decide +kernel, by decide +kernel⟩
abbrev N__law_shuffled : List Str := ["_law_well_here", "_law_made", "_law_roots", "_law_left", "_law_order_here", "_law_found", "_law_at", "_law_name", "_law_entries", "_law_k", "_law_value", "_law_parts", "_law_part", "_law_root"]
theorem sc__law_shuffled : FnScope N__law_shuffled ["_law_well_here", "_law_made", "_law_roots"] (defScope s__law_shuffled) := ⟨rfl, rfl, rfl, by decide +kernel, rfl, by decide +kernel, by decide +kernel⟩
abbrev N__law_rows_of : List Str := ["_law_bunches", "_law_parts", "_law_found", "_law_part", "_law_rows", "_law_value", "_law_more", "_law_longer", "_law_row", "_law_rest"]
theorem sc__law_rows_of : FnScope N__law_rows_of ["_law_bunches", "_law_parts"] (defScope s__law_rows_of) := ⟨rfl, rfl, rfl, by decide +kernel, rfl, by decide +kernel, by decide +kernel⟩
abbrev N__law_refused : List Str := ["_law_fold", "_law_odd", "_law_found", "e"]
theorem sc__law_refused : FnScope N__law_refused ["_law_fold", "_law_odd"] (defScope s__law_refused) := ⟨rfl, rfl, rfl, by decide +kernel, rfl, by decide +kernel, by decide +kernel⟩
abbrev N__law_near : List Str := ["_law_well_here", "_law_line", "_law_base_here", "_law_at"]
theorem sc__law_near : FnScope N__law_near ["_law_well_here", "_law_line", "_law_base_here"] (defScope s__law_near) := ⟨rfl, rfl, rfl, by decide +kernel, rfl, by decide +kernel, by decide +kernel⟩
abbrev N__law_right : List Str := ["_law_well_here", "_law_names_here", "_law_tree", "_law_base_here", "_law_bunches", "_law_roots", "_law_rows", "_law_fold", "_law_turn", "_law_told", "_law_many", "_law_some", "_law_k", "_law_line", "_law_odd", "_law_name", "_law_entries"]
theorem sc__law_right : FnScope N__law_right ["_law_well_here"] (defScope s__law_right) := ⟨rfl, rfl, rfl, by decide +kernel, rfl, by decide +kernel, by decide +kernel⟩
abbrev N_law : List Str := ["_law_script", "_law_k", "_law_cell"]
theorem sc_law : FnScope N_law ["_law_script"] (defScope s_law) := ⟨rfl, rfl, rfl, by decide +kernel, rfl, by decide +kernel, by decide +kernel⟩
abbrev N_NoRow_o___init__ : List Str := ["self", "at"]
theorem sc_NoRow_o___init__ : FnScope N_NoRow_o___init__ ["self", "at"] (defScope s_NoRow_o___init__) := ⟨rfl, rfl, rfl, by decide +kernel, rfl, by decide +kernel, by decide +kernel⟩
abbrev N_NoTree_o___init__ : List Str := ["self", "at"]
theorem sc_NoTree_o___init__ : FnScope N_NoTree_o___init__ ["self", "at"] (defScope s_NoTree_o___init__) := ⟨rfl, rfl, rfl, by decide +kernel, rfl, by decide +kernel, by decide +kernel⟩
abbrev N_NoColumn_o___init__ : List Str := ["self", "name"]
theorem sc_NoColumn_o___init__ : FnScope N_NoColumn_o___init__ ["self", "name"] (defScope s_NoColumn_o___init__) := ⟨rfl, rfl, rfl, by decide +kernel, rfl, by decide +kernel, by decide +kernel⟩
abbrev N_NoFold_o___init__ : List Str := ["self", "at"]
theorem sc_NoFold_o___init__ : FnScope N_NoFold_o___init__ ["self", "at"] (defScope s_NoFold_o___init__) := ⟨rfl, rfl, rfl, by decide +kernel, rfl, by decide +kernel, by decide +kernel⟩
abbrev N_TooMany_o___init__ : List Str := ["self", "many"]
theorem sc_TooMany_o___init__ : FnScope N_TooMany_o___init__ ["self", "many"] (defScope s_TooMany_o___init__) := ⟨rfl, rfl, rfl, by decide +kernel, rfl, by decide +kernel, by decide +kernel⟩
abbrev N_Fold_o___init__ : List Str := ["self", "tree", "bunches", "tops"]
theorem sc_Fold_o___init__ : FnScope N_Fold_o___init__ ["self", "tree", "bunches", "tops"] (defScope s_Fold_o___init__) := ⟨rfl, rfl, rfl, by decide +kernel, rfl, by decide +kernel, by decide +kernel⟩
abbrev N_Fold_o___len__ : List Str := ["self"]
theorem sc_Fold_o___len__ : FnScope N_Fold_o___len__ ["self"] (defScope s_Fold_o___len__) := ⟨rfl, rfl, rfl, by decide +kernel, rfl, by decide +kernel, by decide +kernel⟩
abbrev N_Fold_o___eq__ : List Str := ["self", "other"]
theorem sc_Fold_o___eq__ : FnScope N_Fold_o___eq__ ["self", "other"] (defScope s_Fold_o___eq__) := ⟨rfl, rfl, rfl, by decide +kernel, rfl, by decide +kernel, by decide +kernel⟩
abbrev N_Fold_o___str__ : List Str := ["self"]
theorem sc_Fold_o___str__ : FnScope N_Fold_o___str__ ["self"] (defScope s_Fold_o___str__) := ⟨rfl, rfl, rfl, by decide +kernel, rfl, by decide +kernel, by decide +kernel⟩
abbrev N_Fold_o_bunches : List Str := ["self", "column", "entries"]
theorem sc_Fold_o_bunches : FnScope N_Fold_o_bunches ["self"] (defScope s_Fold_o_bunches) := ⟨rfl, rfl, rfl, by decide +kernel, rfl, by decide +kernel, by decide +kernel⟩
abbrev N_Fold_o_tops : List Str := ["self"]
theorem sc_Fold_o_tops : FnScope N_Fold_o_tops ["self"] (defScope s_Fold_o_tops) := ⟨rfl, rfl, rfl, by decide +kernel, rfl, by decide +kernel, by decide +kernel⟩
abbrev N_Fold_o_count : List Str := ["self"]
theorem sc_Fold_o_count : FnScope N_Fold_o_count ["self"] (defScope s_Fold_o_count) := ⟨rfl, rfl, rfl, by decide +kernel, rfl, by decide +kernel, by decide +kernel⟩
abbrev N_Fold_o_weight : List Str := ["self", "column", "entries"]
theorem sc_Fold_o_weight : FnScope N_Fold_o_weight ["self"] (defScope s_Fold_o_weight) := ⟨rfl, rfl, rfl, by decide +kernel, rfl, by decide +kernel, by decide +kernel⟩
abbrev N_Fold_o_has : List Str := ["self", "row", "values", "number"]
theorem sc_Fold_o_has : FnScope N_Fold_o_has ["self", "row"] (defScope s_Fold_o_has) := ⟨rfl, rfl, rfl, by decide +kernel, rfl, by decide +kernel, by decide +kernel⟩
abbrev N_Pool_o___init__ : List Str := ["self", "tree"]
theorem sc_Pool_o___init__ : FnScope N_Pool_o___init__ ["self", "tree"] (defScope s_Pool_o___init__) := ⟨rfl, rfl, rfl, by decide +kernel, rfl, by decide +kernel, by decide +kernel⟩
abbrev N_Pool_o_put : List Str := ["self", "column", "entries", "alive", "key", "value", "parts"]
theorem sc_Pool_o_put : FnScope N_Pool_o_put ["self", "column", "entries"] (defScope s_Pool_o_put) := ⟨rfl, rfl, rfl, by decide +kernel, rfl, by decide +kernel, by decide +kernel⟩
abbrev N_Pool_o_fold : List Str := ["self", "tops", "places", "order", "top", "bunches", "number", "column", "entries", "value", "parts"]
theorem sc_Pool_o_fold : FnScope N_Pool_o_fold ["self", "tops"] (defScope s_Pool_o_fold) := ⟨rfl, rfl, rfl, by decide +kernel, rfl, by decide +kernel, by decide +kernel⟩
abbrev N_Tree_o___init__ : List Str := ["self", "pairs", "at", "pair", "column", "over"]
theorem sc_Tree_o___init__ : FnScope N_Tree_o___init__ ["self", "pairs"] (defScope s_Tree_o___init__) := ⟨rfl, rfl, rfl, by decide +kernel, rfl, by decide +kernel, by decide +kernel⟩
abbrev N_Tree_o___len__ : List Str := ["self"]
theorem sc_Tree_o___len__ : FnScope N_Tree_o___len__ ["self"] (defScope s_Tree_o___len__) := ⟨rfl, rfl, rfl, by decide +kernel, rfl, by decide +kernel, by decide +kernel⟩
abbrev N_Tree_o___eq__ : List Str := ["self", "other"]
theorem sc_Tree_o___eq__ : FnScope N_Tree_o___eq__ ["self", "other"] (defScope s_Tree_o___eq__) := ⟨rfl, rfl, rfl, by decide +kernel, rfl, by decide +kernel, by decide +kernel⟩
abbrev N_Tree_o_want : List Str := ["self", "column"]
theorem sc_Tree_o_want : FnScope N_Tree_o_want ["self", "column"] (defScope s_Tree_o_want) := ⟨rfl, rfl, rfl, by decide +kernel, rfl, by decide +kernel, by decide +kernel⟩
abbrev N_Tree_o_columns : List Str := ["self"]
theorem sc_Tree_o_columns : FnScope N_Tree_o_columns ["self"] (defScope s_Tree_o_columns) := ⟨rfl, rfl, rfl, by decide +kernel, rfl, by decide +kernel, by decide +kernel⟩
abbrev N_Tree_o_pairs : List Str := ["self", "column"]
theorem sc_Tree_o_pairs : FnScope N_Tree_o_pairs ["self"] (defScope s_Tree_o_pairs) := ⟨rfl, rfl, rfl, by decide +kernel, rfl, by decide +kernel, by decide +kernel⟩
abbrev N_Tree_o_children : List Str := ["self", "column"]
theorem sc_Tree_o_children : FnScope N_Tree_o_children ["self", "column"] (defScope s_Tree_o_children) := ⟨rfl, rfl, rfl, by decide +kernel, rfl, by decide +kernel, by decide +kernel⟩
section
variable {P : Program} {w : World} {K : PySem.W.Frag} {mg : Str → Option Value} {base : Heap} {a : Ad}
theorem ok_NoColumn_o___init__ (T : Tx K mg a) : FnOk P w K mg base CX0 1 a.f_NoColumn_o___init__ a.d_NoColumn_o___init__ ["self", "name"] (spX1 a.c_NoColumn "name") :=
  okInit1 (n := "") T.F_NoColumn_o___init__ sc_NoColumn_o___init__ rfl T.ox_NoColumn T.na_NoColumn_o_name fun cdv A outer s H E hr => (by exact (pss_cons (ps_expr (pe_finit rfl T.gc_FoldError T.sp_FoldError T.rd_FoldError T.fc_FoldError (pa_cons (pv 0) (pa_cons pe_str pa_nil)))) (pss_one (ps_ost (pv 0) (pv 1)))))
theorem ok_NoFold_o___init__ (T : Tx K mg a) : FnOk P w K mg base CX0 1 a.f_NoFold_o___init__ a.d_NoFold_o___init__ ["self", "at"] (spX1 a.c_NoFold "at") :=
  okInit1 (n := "") T.F_NoFold_o___init__ sc_NoFold_o___init__ rfl T.ox_NoFold T.na_NoFold_o_at fun cdv A outer s H E hr => (by exact (pss_cons (ps_expr (pe_finit rfl T.gc_FoldError T.sp_FoldError T.rd_FoldError T.fc_FoldError (pa_cons (pv 0) (pa_cons pe_str pa_nil)))) (pss_one (ps_ost (pv 0) (pv 1)))))
theorem ok_NoRow_o___init__ (T : Tx K mg a) : FnOk P w K mg base CX0 1 a.f_NoRow_o___init__ a.d_NoRow_o___init__ ["self", "at"] (spX1 a.c_NoRow "at") :=
  okInit1 (n := "") T.F_NoRow_o___init__ sc_NoRow_o___init__ rfl T.ox_NoRow T.na_NoRow_o_at fun cdv A outer s H E hr => (by exact (pss_cons (ps_expr (pe_finit rfl T.gc_FoldError T.sp_FoldError T.rd_FoldError T.fc_FoldError (pa_cons (pv 0) (pa_cons pe_str pa_nil)))) (pss_one (ps_ost (pv 0) (pv 1)))))
theorem ok_NoTree_o___init__ (T : Tx K mg a) : FnOk P w K mg base CX0 1 a.f_NoTree_o___init__ a.d_NoTree_o___init__ ["self", "at"] (spX1 a.c_NoTree "at") :=
  okInit1 (n := "") T.F_NoTree_o___init__ sc_NoTree_o___init__ rfl T.ox_NoTree T.na_NoTree_o_at fun cdv A outer s H E hr => (by exact (pss_cons (ps_expr (pe_finit rfl T.gc_FoldError T.sp_FoldError T.rd_FoldError T.fc_FoldError (pa_cons (pv 0) (pa_cons pe_str pa_nil)))) (pss_one (ps_ost (pv 0) (pv 1)))))
theorem ok_TooMany_o___init__ (T : Tx K mg a) : FnOk P w K mg base CX0 1 a.f_TooMany_o___init__ a.d_TooMany_o___init__ ["self", "many"] (spX1 a.c_TooMany "many") :=
  okInit1 (n := "") T.F_TooMany_o___init__ sc_TooMany_o___init__ rfl T.ox_TooMany T.na_TooMany_o_many fun cdv A outer s H E hr => (by exact (pss_cons (ps_expr (pe_finit rfl T.gc_FoldError T.sp_FoldError T.rd_FoldError T.fc_FoldError (pa_cons (pv 0) (pa_cons pe_str pa_nil)))) (pss_one (ps_ost (pv 0) (pv 1)))))
theorem ex_i {P : Int → Prop} {x : Int} (h : P x) : ∃ i, DV.i x = DV.i i ∧ P i := ⟨x, rfl, h⟩
theorem ws_stop {Z : Zn} {ρ : Ro} {M : Mu} {t : TS} {D2 : Ends2} (h : WS Z t D2 ρ M) : WS Z (tStop t) D2 ρ M := h
local macro_rules | `(tactic| walk_at "d") => `(tactic| repeat (first
  | ((with_reducible refine' ws_nrm ?k1 ?_); (case k1 => (dsimp only [wipe2, List.map, List.set]))) | ((with_reducible refine' we_nrm ?k1 ?_); (case k1 => (dsimp only [wipe2, List.map, List.set]))) | ((with_reducible refine' wt_nrm ?k1 ?_); (case k1 => (dsimp only [wipe2, List.map, List.set]))) | ((with_reducible refine' wgs_nrm ?k1 ?_); (case k1 => (dsimp only [wipe2, List.map, List.set]))) | ((with_reducible refine' wg_nrm ?k1 ?_); (case k1 => (dsimp only [wipe2, List.map, List.set])))
  | ((with_reducible refine' ws_nrmW ?k1 ?_); (case k1 => (dsimp only [wipe2, List.map, List.set]))) | ((with_reducible refine' wg_nrmW ?k1 ?_); (case k1 => (dsimp only [wipe2, List.map, List.set]))) | ((with_reducible refine' comp_nrm ?k1 ?_); (case k1 => (dsimp only [wipe2, List.map, List.set])))
  | with_reducible refine ws_seq ?_ | with_reducible refine ws_ret ?_ | with_reducible refine ws_drop ?_ | with_reducible refine ws_set ?_ | with_reducible refine ws_asg ?_ | with_reducible refine wg_sub ?_ | with_reducible refine ws_if ?_ | with_reducible refine ws_next ?_
  | with_reducible refine wt_test ?_ | with_reducible refine wt_B ?_ | with_reducible refine wt_and ?_ | with_reducible refine wt_or ?_ | with_reducible refine wt_not ?_
  | with_reducible refine we_c ?_ | with_reducible refine we_op ?_ | ((with_reducible refine' we_sset ?k1 ?_); (case k1 => exact rfl)) | with_reducible refine we_cb ?_ | with_reducible refine we_un ?_ | with_reducible refine we_andV ?_ | with_reducible refine we_orV ?_ | with_reducible refine we_notV ?_ | with_reducible refine we_if ?_ | with_reducible refine we_tup ?_
  | with_reducible refine we_chain ?_ | with_reducible refine wa_cons ?_ | with_reducible refine wa_nil ?_ | with_reducible refine we_sl ?_ | with_reducible refine wo_none ?_ | with_reducible refine wo_some ?_ | with_reducible refine ex_i ?_
  | ((with_reducible refine' we_var ?k1 ?_); (case k1 => exact rfl)) | with_reducible refine ex_b ?_ | ((with_reducible refine if_tt ?k1 ?_); (case k1 => exact rfl)) | ((with_reducible refine if_ff ?k1 ?_); (case k1 => exact rfl))))
local macro_rules | `(tactic| walk_at "w1") => `(tactic| first
  | with_reducible refine told_f ?_ | walk_at "w2")
local macro_rules | `(tactic| walk_at "u") => `(tactic| repeat walk_at "w2")
local macro_rules | `(tactic| walk_at "w2") => `(tactic| first
  | ((with_reducible refine' ws_nrm ?k1 ?_); (case k1 => (dsimp only [wipe2, List.map, List.set]))) | ((with_reducible refine' we_nrm ?k1 ?_); (case k1 => (dsimp only [wipe2, List.map, List.set]))) | ((with_reducible refine' wt_nrm ?k1 ?_); (case k1 => (dsimp only [wipe2, List.map, List.set]))) | ((with_reducible refine' wgs_nrm ?k1 ?_); (case k1 => (dsimp only [wipe2, List.map, List.set]))) | ((with_reducible refine' wg_nrm ?k1 ?_); (case k1 => (dsimp only [wipe2, List.map, List.set])))
  | ((with_reducible refine' ws_nrmW ?k1 ?_); (case k1 => (dsimp only [wipe2, List.map, List.set]))) | ((with_reducible refine' wg_nrmW ?k1 ?_); (case k1 => (dsimp only [wipe2, List.map, List.set]))) | ((with_reducible refine' comp_nrm ?k1 ?_); (case k1 => (dsimp only [wipe2, List.map, List.set])))
  | with_reducible refine wu_U ?_
  | ((with_reducible refine' we_var ?k1 ?_); (case k1 => exact rfl))
  | with_reducible refine we_c ?_ | with_reducible refine wa_cons ?_ | with_reducible refine wa_nil ?_ | with_reducible refine we_op ?_
  | with_reducible refine ws_seq ?_ | with_reducible refine ws_set ?_ | ((with_reducible refine' ws_aug ?k1 ?_); (case k1 => exact rfl)) | with_reducible refine ws_ret ?_ | with_reducible refine ws_drop ?_ | with_reducible refine ws_asg ?_ | with_reducible refine wg_sub ?_ | with_reducible refine ws_if ?_ | with_reducible refine ws_next ?_
  | with_reducible refine wt_test ?_ | with_reducible refine wt_B ?_ | with_reducible refine wt_and ?_ | with_reducible refine wt_or ?_ | with_reducible refine wt_not ?_
  | with_reducible refine we_lst ?_ | with_reducible refine we_lstMM ?_ | with_reducible refine we_dnewK ?_ | with_reducible refine ws_par ?_ | ((with_reducible refine' we_sset ?k1 ?_); (case k1 => exact rfl)) | with_reducible refine we_cb ?_ | with_reducible refine we_un ?_ | with_reducible refine we_andV ?_ | with_reducible refine we_orV ?_ | with_reducible refine we_notV ?_ | with_reducible refine we_if ?_ | with_reducible refine we_tup ?_
  | with_reducible refine we_chain ?_ | with_reducible refine we_sl ?_ | with_reducible refine wo_none ?_ | with_reducible refine wo_some ?_ | with_reducible refine ex_i ?_ | with_reducible refine ex_b ?_
  | with_reducible refine and_size (by with_unfolding_all exact rfl) ?_
  | with_reducible refine ⟨tyOk_str, ?_⟩ | with_reducible refine ⟨ty_l1, ?_⟩ | with_reducible refine ⟨ty_l0, ?_⟩
  | with_reducible refine wr_addI ?_ | ((with_reducible refine wr_addLM ?k1 ?_); (case k1 => first | omega | (simp <;> omega))) | ((with_reducible refine wr_addM1 (f := DV.s) ?k1 ?_); (case k1 => first | omega | (simp <;> omega))) | ((with_reducible refine wr_addM1 (f := rowD) ?k1 ?_); (case k1 => first | omega | (simp <;> omega))) | ((with_reducible refine wr_addM2 (f := DV.s) ?k1 ?_); (case k1 => first | omega | (simp <;> omega))) | ((with_reducible refine wr_addLL ?k1 ?_); (case k1 => exact rfl)) | with_reducible refine wr_I0 ?_
  | with_reducible refine wl_toN ?_ | with_reducible refine wl_fromN ?_ | ((with_reducible refine wl_toI ?k1 ?_); (case k1 => omega)) | ((with_reducible refine wl_fromI ?k1 ?_); (case k1 => omega)) | ((with_reducible refine wl_lastI ?k1 ?_); (case k1 => omega)) | ((with_reducible refine wl_midI ?k1 ?k2 ?_); (case k1 => omega); (case k2 => omega))
  | with_reducible refine wr_inSL ?_ | with_reducible refine wr_niSL ?_
  | with_reducible refine wr_neRows ?_ | with_reducible refine wr_eqRows ?_ | ((with_reducible refine wr_neStrs ?k1 ?_); (case k1 => assumption)) | ((with_reducible refine wr_eqStrs ?k1 ?_); (case k1 => assumption)) | ((with_reducible refine wr_neStrR ?k1 ?_); (case k1 => assumption))
  | ((with_reducible refine wr_eqS ?k1 ?_); (case k1 => exact rfl)) | ((with_reducible refine wr_neS ?k1 ?_); (case k1 => exact rfl)) | with_reducible refine wr_isN ?_ | with_reducible refine wr_notN ?_
  | ((with_reducible refine wr_P 100000000 ?k1 ?k2 ?_); (case k1 => decide); (case k2 => exact ⟨by decide, by decide, by decide⟩)) | ((with_reducible refine wr_P 1000000000000000 ?k1 ?k2 ?_); (case k1 => decide); (case k2 => exact ⟨by decide, by decide, by decide⟩))
  | ((with_reducible refine wr_P 1000000000000000000000000000000 ?k1 ?k2 ?_); (case k1 => decide); (case k2 => exact ⟨by decide, by decide, by decide⟩)) | ((with_reducible refine wr_P 1000000000000000000 ?k1 ?k2 ?_); (case k1 => decide); (case k2 => exact ⟨by decide, by decide, by decide⟩))
  | ((with_reducible refine wr_mulI ?k1 ?_); (case k1 => (unfold CMul; omega))) | ((with_reducible refine wr_M ?k1 ?_); (case k1 => first | (show (0 : Int) < _; omega) | exact ⟨by omega, by omega⟩))
  | with_reducible refine wr_aL0 ?_ | with_reducible refine wr_aL1 ?_ | with_reducible refine wr_aL2 ?_ | with_reducible refine wr_aL3 ?_ | with_reducible refine wr_aL4 ?_ | with_reducible refine wr_aL5 ?_ | with_reducible refine wr_aT0 ?_ | with_reducible refine wr_aT1 ?_ | with_reducible refine wr_aT2 ?_ | with_reducible refine wr_aT3 ?_ | with_reducible refine wr_aT4 ?_ | with_reducible refine wr_aT5 ?_ | with_reducible refine wr_aR0 ?_ | with_reducible refine wr_aR1 ?_ | with_reducible refine wr_aR2 ?_ | with_reducible refine wr_aR3 ?_ | with_reducible refine wr_aR4 ?_ | with_reducible refine wr_aR5 ?_
  | with_reducible refine wc_lenLM ?_ | with_reducible refine wc_lenUM ?_ | with_reducible refine wc_lenRM ?_ | with_reducible refine wc_lenL ?_ | with_reducible refine wc_lenU ?_ | with_reducible refine wc_lenR ?_ | with_reducible refine wc_listL ?_ | with_reducible refine wc_listU ?_ | with_reducible refine wc_listR ?_ | with_reducible refine wc_listML ?_ | with_reducible refine wc_tupL ?_ | with_reducible refine wc_tupU ?_ | with_reducible refine wc_tupR ?_
  | ((with_reducible refine' wc_isI ?k1 ?_); (case k1 => exact rfl)) | ((with_reducible refine' wc_isS ?k1 ?_); (case k1 => exact rfl)) | ((with_reducible refine' wc_isB ?k1 ?_); (case k1 => exact rfl)) | ((with_reducible refine' wc_isL ?k1 ?_); (case k1 => exact rfl)) | ((with_reducible refine' wc_isT ?k1 ?_); (case k1 => exact rfl))
  | with_reducible refine wc_intB ?_ | with_reducible refine wc_intI ?_
  | ((with_reducible refine wm_app1 ?k1 ?_); (case k1 => (simp <;> omega)))
  | with_reducible refine wg_name ?_ | with_reducible refine wt_yes ⟨rfl, ?_⟩ | with_reducible refine wt_yes ?_ | with_reducible refine wgs_cons ?_ | with_reducible refine wgs_nil ?_ | ((with_reducible refine wg_tup ?k1 ?_); (case k1 => exact rfl))
  | with_reducible refine ws_forML ?_ | with_reducible refine ws_forME ?_ | ((with_reducible refine we_lcML ?k1 ?_); (case k1 => first | exact gok_name (by decide) | exact gok_tup (gsok_name (by decide) (gsok_name (by decide) gsok_nil)))) | ((with_reducible refine' compM_nrm ?k1 ?_); (case k1 => (dsimp only [wipe2, List.map, List.set]))) | with_reducible refine ws_for ?_ | ((with_reducible refine we_lc ?k1 ?_); (case k1 => first | exact gok_name (by decide) | exact gok_tup (gsok_name (by decide) (gsok_name (by decide) gsok_nil)))) | with_reducible refine wi_rangeI ?_ | with_reducible refine wi_list ?_ | with_reducible refine wi_seq ?_ | with_reducible refine wi_enum ?_
  | with_reducible refine ⟨_, rfl, by omega, by omega, ?_⟩ | with_reducible refine ⟨_, rfl, ?_⟩ | with_reducible refine ⟨_, _, rfl, ?_⟩ | with_reducible refine ⟨_, .inl rfl, ?_⟩ | with_reducible refine ⟨_, .inr rfl, ?_⟩
  | with_reducible refine ws_forML ?_ | with_reducible refine ws_forME ?_
  | ((with_reducible refine' fld_of ?k1 ?k2 ?k3 ?k4 ?_); (case k1 => exact .inl rfl); (case k2 => assumption); (case k3 => assumption); (case k4 => exact rfl))
  | ((with_reducible refine' sfld_of ?k1 ?k2 ?k3 ?k4 ?_); (case k1 => first | exact updM_same | assumption); (case k2 => assumption); (case k3 => assumption); (case k4 => exact rfl))
  | ((with_reducible refine' we_callX ?k1 ?_); (case k1 => first | exact xcF | assumption)) | ((with_reducible refine' we_callXD ?k1 ?_); (case k1 => first | exact xcF | assumption)) | ((with_reducible refine' we_methX ?k1 ?_); (case k1 => first | exact xcF | assumption)) | ((with_reducible refine' we_methXD ?k1 ?_); (case k1 => first | exact xcF | assumption)) | ((with_reducible refine' we_callY ?k1 ?_); (case k1 => assumption)) | ((with_reducible refine' we_methY0 ?k1 ?_); (case k1 => assumption)) | ((with_reducible refine' we_methY ?k1 ?_); (case k1 => assumption))
  | with_reducible refine we_bm ?_ | with_reducible refine we_bm0 ?_ | with_reducible refine we_fld ?_ | with_reducible refine ws_fld ?_
  | ((with_reducible refine' obj_of ?k1 ?k2 ?_); (case k1 => exact .inl rfl); (case k2 => exact rfl))
  | ((with_reducible refine ask_of ?_); first
    | ((with_reducible refine draw1 ?k1 ?k2 ?k3 ?_); (case k1 => omega); (case k2 => omega); (case k3 => omega))
    | ((with_reducible refine draw2 ?k0 ?k1 ?k2 ?k3 ?_); (case k0 => assumption); (case k1 => omega); (case k2 => omega); (case k3 => omega))
    | ((with_reducible refine draw3 ?k0 ?k00 ?k1 ?k2 ?k3 ?_); (case k0 => assumption); (case k00 => assumption); (case k1 => omega); (case k2 => omega); (case k3 => omega))
    | refine ⟨_, rfl, ?_⟩ | refine ⟨_, _, rfl, ?_⟩ | refine ⟨_, _, _, rfl, ?_⟩ | skip)
  | ((with_reducible refine if_ttD ?k1 ?_); (case k1 => first | omega | with_reducible rfl)) | ((with_reducible refine if_ffD ?k1 ?_); (case k1 => omega)) | ((with_reducible refine if_ttN ?k1 ?_); (case k1 => omega)) | ((with_reducible refine if_ffN ?k1 ?_); (case k1 => first | omega | with_reducible rfl))
  | ((with_reducible refine if_tt ?k1 ?_); (case k1 => exact rfl)) | ((with_reducible refine if_ff ?k1 ?_); (case k1 => exact rfl)))
local macro_rules | `(tactic| walk_at "w") => `(tactic| repeat walk_at "w1")
theorem kd_tupE {M : Mu} {d : DV} (h : kdM M d = some .tuple) : ∃ es, d = .tup es := by
  unfold kdM at h
  split at h
  all_goals first | cases h | skip
  · split at h <;> cases h
  · exact ⟨_, rfl⟩
def KnR (M : Mu) (d : DV) : Prop := Kn M d ∧ ∀ es, d = .tup es → es.length ≤ 1000 ∧ ∀ e ∈ es, Kn M e
theorem KnR.row {M : Mu} {r : List Int} (h : r.length ≤ 1000) : KnR M (rowD r) := ⟨Kn.tup, fun es e => by
  have : r.map DV.i = es := by injection e
  subst this
  refine ⟨by simpa using h, fun e he => ?_⟩
  obtain ⟨i, _, rfl⟩ := List.mem_map.mp he
  exact Kn.i⟩
theorem kd_lstE {M : Mu} {d : DV} (h : kdM M d = some .list) : ∃ es, LstOf M d es := by
  unfold kdM at h
  split at h
  all_goals first | cases h | skip
  · split at h
    · exact ⟨_, .inr ⟨_, rfl, by assumption⟩⟩
    · cases h
  · exact ⟨_, .inl rfl⟩
theorem sMap_inj {xs ys : List Str} (h : xs.map DV.s = ys.map DV.s) : xs = ys := by rw [← strsD_map xs, h, strsD_map]
theorem kd_str {M : Mu} {d : DV} (h : kdM M d = some .str) : ∃ z, d = .s z := by
  unfold kdM at h
  split at h
  all_goals first | cases h | skip
  · exact ⟨_, rfl⟩
  · split at h <;> cases h
def KnT (M : Mu) (d : DV) : Prop := Kn M d ∧ ∀ es, LstOf M d es → es.length ≤ 1000 ∧ ∀ e ∈ es, KnR M e
def sp_is_value : Sp2 := fun ds M Q2 _ => ∃ d k, ds = [d] ∧ kdM M d = some k ∧ Q2 (.b (decide (k = .int))) M
theorem ok_is_value (T : Tx K mg a) : FnOk P w K mg base CX0 3 a.f_is_value a.d_is_value ["thing"] (lift ⟨P, w, K⟩ (sp_is_value)) := by
  refine okD T.F_is_value sc_is_value (fun ds M Q2 E2 h => by obtain ⟨d, k, rfl, _⟩ := h; rfl) fun cdv A outer s H E G Fr ds M Q2 E2 hr h => ⟨_, (pss_one (ps_ret (pe_and (pe_callB (k_isi (K := K) rfl) rfl T.z_isinstance bt_isinstance (pa_cons (pv 0) (pa_cons (pe_bltn (v := .ty "int") rfl T.z_int bt_int rfl) pa_nil))) (pe_one (pe_not (pe_callB (k_isi (K := K) rfl) rfl T.z_isinstance bt_isinstance (pa_cons (pv 0) (pa_cons (pe_bltn (v := .ty "bool") rfl T.z_bool bt_bool rfl) pa_nil)))))))), ?_⟩
  obtain ⟨d, k, rfl, hk, q⟩ := h
  refine ws_start (ρ' := [some _]) rfl ?_
  walk_at "d"
  refine wc_isK .int hk ?_
  walk_at "d"
  cases k <;> walk_at "d" <;> first | exact q | (refine wc_isK .bool hk ?_; walk_at "d"; exact q)
theorem kd_int {M : Mu} {d : DV} {k : Kd} (h : kdM M d = some k) : decide (k = .int) = isIntD d := by
  unfold kdM at h
  split at h
  all_goals first | (cases h; rfl) | (cases h; done) | skip
  split at h
  · cases h; rfl
  · cases h
def sp_is_name : Sp2 := fun ds M Q2 _ => ∃ d, ds = [d] ∧ Kn M d ∧ Q2 (.b (isNameD d)) M
theorem ok_is_name (T : Tx K mg a) : FnOk P w K mg base CX0 3 a.f_is_name a.d_is_name ["thing"] (lift ⟨P, w, K⟩ (sp_is_name)) := by
  refine okD T.F_is_name sc_is_name (fun ds M Q2 E2 h => by obtain ⟨d, rfl, _⟩ := h; rfl) fun cdv A outer s H E G Fr ds M Q2 E2 hr h => ⟨_, (pss_one (ps_ret (pe_and (pe_callB (k_isi (K := K) rfl) rfl T.z_isinstance bt_isinstance (pa_cons (pv 0) (pa_cons (pe_bltn (v := .ty "str") rfl T.z_str bt_str rfl) pa_nil))) (pe_and (pe_chain op_le op_le pe_int (pe_callB (k_len (K := K) rfl) rfl T.z_len bt_len (pa_cons (pv 0) pa_nil)) (pe_glob rfl T.v_LONGEST_NAME.choose_spec.1 T.v_LONGEST_NAME.choose_spec.2)) (pe_one (pe_cmpR (k_eq (K := K) rfl (hu64 hr)) (k_bm (K := K) rfl PySem.F.plainAttrs_str PySem.F.slot_str_strip PySem.F.type_str_strip mt_stripA (pv 0) (pa_cons (pe_glob rfl T.v_LETTERS.choose_spec.1 T.v_LETTERS.choose_spec.2) pa_nil)) pe_str (nomark _))))))), ?_⟩
  obtain ⟨d, rfl, ⟨⟨k, hk⟩, hz⟩, q⟩ := h
  refine ws_start (ρ' := [some _]) rfl ?_
  walk_at "d"
  refine wc_isK .str hk ?_
  walk_at "d"
  by_cases e : k = .str
  · subst e
    obtain ⟨z, rfl⟩ := kd_str hk
    have hz : z.length ≤ sizeLine := le_size (Nat.le_trans (hz z rfl) (by decide))
    replace q : Q2 (.b (nameB z)) M := q
    walk_at "d"
    refine wc_lenT hz ?_
    refine wr_I0 ?_
    refine ex_b (if_b (fun h1 => ?_) fun h1 => ?_)
    · walk_at "d"
      refine wr_I0 ?_
      refine ex_b (if_b (fun h2 => ?_) fun h2 => ?_)
      · walk_at "d"
        refine we_bm ?_
        walk_at "d"
        refine ⟨tyOk_str, ?_⟩
        walk_at "d"
        refine wm_strip hz ?_
        walk_at "d"
        refine wr_eqS rfl ?_
        unfold nameB at q
        rw [h1, h2] at q
        exact q
      · unfold nameB at q
        rw [h1, h2] at q
        exact q
    · unfold nameB at q
      rw [h1] at q
      exact ex_b (iteF q)
  · have e2 : subK k .str = false := by cases k <;> first | rfl | exact absurd rfl e
    have e3 : isNameD d = false := by
      unfold isNameD
      split
      · cases hk; exact absurd rfl e
      · rfl
    rw [e2]
    rw [e3] at q
    walk_at "d"
    exact q
def sp_is_row : Sp2 := fun ds M Q2 _ => ∃ d m, ds = [d, .i m] ∧ KnR M d ∧ Q2 (.b (isRowD d m)) M
theorem ok_is_row (T : Tx K mg a) : FnOk P w K mg base CX0 6 a.f_is_row a.d_is_row ["thing", "many"] (lift ⟨P, w, K⟩ (sp_is_row)) := by
  refine okD T.F_is_row sc_is_row (fun ds M Q2 E2 h => by obtain ⟨d, m, rfl, _⟩ := h; rfl) fun cdv A outer s H E G Fr ds M Q2 E2 hr h => ⟨_, (pss_one (ps_ret (pe_and (pe_callB (k_isi (K := K) rfl) rfl T.z_isinstance bt_isinstance (pa_cons (pv 0) (pa_cons (pe_bltn (v := .ty "tuple") rfl T.z_tuple bt_tuple rfl) pa_nil))) (pe_and (pe_cmpR (k_eq (K := K) rfl (hu64 hr)) (pe_callB (k_len (K := K) rfl) rfl T.z_len bt_len (pa_cons (pv 0) pa_nil)) (pv 1) (nomark _)) (pe_one (pe_callB (k_all (K := K) rfl rfl) rfl T.z_all bt_all (pa_cons (pe_lc (own := [("one", 2)]) (g := gName 2) rfl sc_is_row.nd (k_seq (K := K) rfl (pv 0)) (blkOk_by (N := N_is_row) (own := [("one", 2)]) (sc := defScope s_is_row) (by first | decide +kernel | kernel_rfl)) (fun _ _ _ _ _ => (pg_name (i := 2) sc_is_row.nd rfl (Or.inl rfl))) (fun _ _ _ _ _ => pts_nil) (fun _ _ _ _ _ => (pe_call (ok_is_value (P := P) (w := w) (K := K) (base := base) T) (hr.mono (by decide)) rfl T.g_is_value T.k_is_value T.b_is_value .nil passZ (pa_cons (pv 2) pa_nil)))) pa_nil))))))), ?_⟩
  obtain ⟨d, m, rfl, ⟨⟨⟨k, hk⟩, _⟩, hd⟩, q⟩ := h
  refine ws_start (ρ' := [some _, some _, none]) rfl ?_
  walk_at "d"
  refine wc_isK .tuple hk ?_
  walk_at "d"
  by_cases e : k = .tuple
  · subst e
    obtain ⟨es, rfl⟩ := kd_tupE hk
    obtain ⟨hz, hes⟩ := hd es rfl
    replace q : Q2 (.b (decide (((es.length : Nat) : Int) = m) && es.all isIntD)) M := q
    walk_at "w"
    have eV : decide (V.int ((es.length : Nat) : Int) = V.int m) = decide (((es.length : Nat) : Int) = m) := by
      by_cases h : ((es.length : Nat) : Int) = m
      · rw [decide_eq_true h, h, decide_eq_true rfl]
      · rw [decide_eq_false h, decide_eq_false fun e => h (by injection e)]
    rw [eV]
    refine if_b (fun h1 => ?_) fun h1 => ?_
    · rw [h1] at q
      walk_at "d"
      refine we_lc (gok_name (by decide)) (wi_seq ?_)
      walk_at "d"
      refine ⟨es, .inr rfl, comp_map (fun e => .b (isIntD e)) es [] (by simp; exact Nat.le_trans hz (by decide)) (fun d hd F k2 hk2 => ?_) ?_⟩
      · walk_at "w"
        obtain ⟨⟨k, hk⟩, _⟩ := hes d hd
        exact ⟨d, k, rfl, hk, by rw [kd_int hk]; exact hk2⟩
      · walk_at "d"
        refine wc_all (bs := es.map isIntD) (.inl (by simp)) ?_
        have e2 : (es.map isIntD).all id = es.all isIntD := by simp [Function.comp_def]
        rw [e2]
        exact q
    · rw [h1] at q
      exact q
  · have e2 : subK k .tuple = false := by cases k <;> first | rfl | exact absurd rfl e
    have e3 : isRowD d m = false := by
      unfold isRowD
      split
      · cases hk; exact absurd rfl e
      · rfl
    rw [e2]
    rw [e3] at q
    walk_at "d"
    exact q
def sp_want_row (a : Ad) : Sp2 := fun ds M Q2 E2 => ∃ d m at_, ds = [d, .i m, at_] ∧ KnR M d ∧ (isRowD d m = true → Q2 .n M) ∧ (isRowD d m = false → E2 a.c_NoRow ["at"] [at_] M)
theorem ok_want_row (T : Tx K mg a) : FnOk P w K mg base (L2.CX P w) 9 a.f_want_row a.d_want_row ["thing", "many", "at"] (lift ⟨P, w, K⟩ (sp_want_row a)) := by
  refine okDX T.F_want_row sc_want_row (fun ds M Q2 E2 h => by obtain ⟨d, m, at_, rfl, _⟩ := h; rfl) fun cdv A outer s H E G Fr ds M Q2 E2 hr h hx => ⟨_, (pss_one (ps_if (pt_not (pt_val (pe_call (ok_is_row (P := P) (w := w) (K := K) (base := base) T) (hr.mono (by decide)) rfl T.g_is_row T.k_is_row T.b_is_row .nil passZ (pa_cons (pv 0) (pa_cons (pv 1) pa_nil))))) (pss_one (ps_raise rfl (takes_of rfl rfl rfl rfl) (pmk_oex T.ox_NoRow T.iC_NoRow T.tI_NoRow (ok_NoRow_o___init__ (P := P) (w := w) (K := K) (base := base) T) (hr.mono (by decide)) T.b_NoRow_o___init__ .nil passZ rfl T.gc_NoRow (pa_cons (pv 2) pa_nil)))) pss_nil)), ?_⟩
  obtain ⟨d, m, at_, rfl, hd, q1, q2⟩ := h
  refine ws_start (ρ' := [some _, some _, some _]) rfl ?_
  walk_at "w"
  refine ⟨hd, ?_⟩
  cases e : isRowD d m with
  | true =>
    walk_at "w"
    exact q1 e
  | false =>
    walk_at "w"
    refine ws_raise1 (wx_of hx) ?_
    walk_at "w"
    exact q2 e
theorem take_succ_get {α : Type} {l : List α} {i : Nat} {x : α} (h : l[i]? = some x) : l.take (i + 1) = l.take i ++ [x] := by
  rw [List.take_succ, h]
  rfl
theorem map_getS {f : Str → DV} {l : List Str} {i : Nat} {d : DV} (h : (l.map f)[i]? = some d) : ∃ c, l[i]? = some c ∧ d = f c := by
  rw [List.getElem?_map] at h
  cases e : l[i]? with
  | none => rw [e] at h; cases h
  | some c => rw [e] at h; cases h; exact ⟨c, rfl, rfl⟩
theorem flat_take_len {α β : Type} (f : α → List β) : ∀ (l : List α) (i : Nat), ((l.take i).flatMap f).length ≤ (l.flatMap f).length
  | [], i => by simp
  | x :: l, 0 => by simp
  | x :: l, i + 1 => by
    rw [List.take_succ_cons, List.flatMap_cons, List.flatMap_cons, List.length_append, List.length_append]
    have := flat_take_len f l i
    omega
def sp_order (n : Nat) : Sp2 := fun ds M Q2 _ => ∃ ps c, ds = [dlD (kdsOf ps), .s c] ∧ rk ps (some c) < n ∧ Tr ps ∧ c ∈ namesOf ps ∧ Told Q2 M ((c :: ord ps (some c)).map DV.s)
theorem okr_order_from (T : Tx K mg a) : ∀ n : Nat, FnOk P w K mg base CX0 (2 * n + 0 + 1) a.f_order_from a.d_order_from ["kids", "column"] (lift ⟨P, w, K⟩ (sp_order n)) := by
  refine Nat.rec (motive := fun n => FnOk P w K mg base CX0 (2 * n + 0 + 1) a.f_order_from a.d_order_from ["kids", "column"] (lift ⟨P, w, K⟩ (sp_order n))) (okD T.F_order_from sc_order_from (fun ds M Q2 E2 h => by obtain ⟨ps, c, rfl, _⟩ := h; rfl) fun cdv A outer s H E G Fr ds M Q2 E2 hr h => by obtain ⟨ps, c, rfl, hn, t, hc, q⟩ := h; exact absurd hn (Nat.not_lt_zero _)) fun n IH => ?_
  refine okD T.F_order_from sc_order_from (fun ds M Q2 E2 h => by obtain ⟨ps, c, rfl, _⟩ := h; rfl) fun cdv A outer s H E G Fr ds M Q2 E2 hr h => ⟨_, (pss_cons (ps_set (i := 2) sc_order_from.nd rfl (Or.inl rfl) (pe_lstM (pa_cons (pv 1) pa_nil))) (pss_cons (ps_for PassesOwn.never rfl (k_ls (K := K) rfl (pe_ix (ix_leaf (W := ⟨P, w, K⟩) rfl rfl) (pv 0) (pv 1) (fun _ _ => rfl))) (pg_name (i := 3) sc_order_from.nd rfl (Or.inl rfl)) (pss_one (ps_expr (k_bm (K := K) rfl PySem.F.plainAttrs_list PySem.F.slot_list_extend PySem.F.type_list_extend mt_extend (pv 2) (pa_cons (pe_call IH (hr.mono (by omega)) rfl T.g_order_from T.k_order_from T.b_order_from .nil passZ (pa_cons (pv 0) (pa_cons (pv 3) pa_nil))) pa_nil))))) (pss_one (ps_ret (pe_as (pv 2)))))), ?_⟩
  obtain ⟨ps, c, rfl, hn, t, hc, q⟩ := h
  refine ws_start (ρ' := [some _, some _, none, none]) rfl ?_
  walk_at "w"
  intro f hf
  walk_at "w"
  refine wr_ixS' (kds_val hc) ?_
  walk_at "w"
  refine loop_K (β := List Str) [3] (fun b => updM M f (.lst (b.map DV.s))) (fun i b => b = c :: (((kidsOf ps (some c)).take i).flatMap fun d => d :: ord ps (some d))) (b0 := [c]) rfl (fun i d b hi hb => ?_) fun b hb => ?_
  · obtain ⟨e, he, rfl⟩ := map_getS hi
    subst hb
    have hk := List.mem_of_getElem? he
    walk_at "w"
    refine ⟨by have := rk_kid t hk; omega, t, kids_names hk, ?_⟩
    walk_at "w"
    have hl1 := flat_take_len (fun d => d :: ord ps (some d)) (kidsOf ps (some c)) i
    rw [← ord_eq t] at hl1
    have hl2 := beneath_len t hc
    have hl3 := beneath_len t (kids_names hk)
    have hl4 := t.len
    rw [List.length_cons] at hl2
    refine wm_ext1 (.inl rfl) (by simp only [List.length_map, List.length_cons] at *; omega) ?_
    refine ⟨by dsimp only [wipe2, List.set], _, rfl, ?_⟩
    rw [take_succ_get he]
    simp
  · subst hb
    refine ws_ret (we_asVar ?_)
    walk_at "w"
    refine ⟨f, M, _, rfl, rfl, hf, ?_⟩
    rw [List.length_map, List.take_length, ← ord_eq t]
    exact q
theorem ok_order_from (T : Tx K mg a) : FnOk P w K mg base CX0 19 a.f_order_from a.d_order_from ["kids", "column"] (lift ⟨P, w, K⟩ (sp_order 9)) := okr_order_from T 9
def sp_is_pair : Sp2 := fun ds M Q2 _ => ∃ d e ps, ds = [d, e] ∧ KnR M d ∧ DlOf M e (ovsOf ps) ∧ Q2 (.b (pairOf (namesOf ps) d).isSome) M
theorem pairOf_no {told : List Str} {d : DV} (h : ∀ x y, d ≠ .tup [x, y]) : pairOf told d = none := by
  unfold pairOf
  split
  · exact absurd rfl (h _ _)
  · rfl
theorem pairOf_not {told : List Str} {x y : DV} (h : isNameD x = false) : pairOf told (.tup [x, y]) = none := by
  unfold pairOf
  split
  · rename_i c e heq
    injection heq with heq
    injection heq with h1 _
    subst h1
    rw [if_neg]
    intro k
    rw [show isNameD (.s c) = nameB c from rfl, k.1] at h
    cases h
  · rfl
theorem pairOver_no {told : List Str} {c : Str} {y : DV} (h : isNameD y = false) (hn : isNonD y = false) : pairOver told c y = none := by
  unfold pairOver
  split
  · cases hn
  · rename_i o
    rw [if_neg]
    intro k
    rw [show isNameD (.s o) = nameB o from rfl, k.1] at h
    cases h
  · rfl
theorem isNonD_eq {y : DV} (h : isNonD y = true) : y = .n := by
  unfold isNonD at h
  split at h
  · rw [of_decide_eq_true h]
  · cases h
theorem ok_is_pair (T : Tx K mg a) : FnOk P w K mg base CX0 6 a.f_is_pair a.d_is_pair ["thing", "overs"] (lift ⟨P, w, K⟩ (sp_is_pair)) := by
  refine okD T.F_is_pair sc_is_pair (fun ds M Q2 E2 h => by obtain ⟨d, e, ps, rfl, _⟩ := h; rfl) fun cdv A outer s H E G Fr ds M Q2 E2 hr h => ⟨_, (pss_cons (ps_if (PW.pt (pw_or (pt_not (pt_val (pe_callB (k_isi (K := K) rfl) rfl T.z_isinstance bt_isinstance (pa_cons (pv 0) (pa_cons (pe_bltn (v := .ty "tuple") rfl T.z_tuple bt_tuple rfl) pa_nil))))) (pw_or (pt_cmpR (k_ne (K := K) rfl (hu64 hr)) (pe_callB (k_len (K := K) rfl) rfl T.z_len bt_len (pa_cons (pv 0) pa_nil)) pe_int (nomark _)) (pw_or (pt_not (pt_val (pe_call (ok_is_name (P := P) (w := w) (K := K) (base := base) T) (hr.mono (by decide)) rfl T.g_is_name T.k_is_name T.b_is_name .nil passZ (pa_cons (pe_ix (k_ix (K := K) rfl) (pv 0) pe_int (fun _ _ => rfl)) pa_nil)))) (pw_or1 (pt_cmpR (op_in_leaf (W := ⟨P, w, K⟩) rfl rfl) (pe_ix (k_ix (K := K) rfl) (pv 0) pe_int (fun _ _ => rfl)) (pv 1) rfl)))))) (pss_one (ps_ret pe_bl)) pss_nil) (pss_one (ps_ret (pe_or (pe_cmpR op_isNA (pe_ix (k_ix (K := K) rfl) (pv 0) pe_int (fun _ _ => rfl)) pe_non (nomark _)) (pe_one (pe_and (pe_call (ok_is_name (P := P) (w := w) (K := K) (base := base) T) (hr.mono (by decide)) rfl T.g_is_name T.k_is_name T.b_is_name .nil passZ (pa_cons (pe_ix (k_ix (K := K) rfl) (pv 0) pe_int (fun _ _ => rfl)) pa_nil)) (pe_one (pe_cmpR (op_in_leaf (W := ⟨P, w, K⟩) rfl rfl) (pe_ix (k_ix (K := K) rfl) (pv 0) pe_int (fun _ _ => rfl)) (pv 1) rfl)))))))), ?_⟩
  obtain ⟨d, e, ps, rfl, hd, he, q⟩ := h
  refine ws_start (ρ' := [some _, some _]) rfl ?_
  obtain ⟨⟨⟨k, hk⟩, _⟩, hes⟩ := hd
  walk_at "w"
  refine wc_isK .tuple hk ?_
  walk_at "w"
  by_cases ek : k = .tuple
  · subst ek
    obtain ⟨es, rfl⟩ := kd_tupE hk
    obtain ⟨hz, hes⟩ := hes es rfl
    walk_at "w"
    have eV : decide (V.int ((es.length : Nat) : Int) = V.int 2) = decide (es.length = 2) := by
      by_cases h : es.length = 2
      · rw [h]; rfl
      · rw [decide_eq_false h, decide_eq_false fun e => h (by injection e; omega)]
    rw [eV]
    refine if_nd (fun h1 => ?_) fun h1 => ?_
    · walk_at "w"
      rw [pairOf_no (fun x y e => h1 (by injection e with e; rw [e]; rfl))] at q
      exact q
    · obtain ⟨x, y, rfl⟩ : ∃ x y, es = [x, y] := by
        match es, h1 with
        | [x, y], _ => exact ⟨x, y, rfl⟩
      have kx := hes x (by simp)
      have ky := hes y (by simp)
      walk_at "w"
      refine ⟨kx, ?_⟩
      cases ex : isNameD x with
      | false =>
        walk_at "w"
        rw [pairOf_not ex] at q
        exact q
      | true =>
        obtain ⟨c, rfl, hc⟩ := isNameD_s ex
        walk_at "w"
        refine wr_inF' (k := .text c) (neg := false) he ?_
        rw [if_neg Bool.false_ne_true, ovs_is]
        walk_at "w"
        refine if_d (fun h2 => ?_) fun h2 => ?_
        · walk_at "w"
          rw [show pairOf (DL.namesOf ps) (.tup [.s c, y]) = (if nameB c = true ∧ c ∉ DL.namesOf ps then pairOver (DL.namesOf ps) c y else none) from rfl, if_neg (fun k => k.2 h2)] at q
          exact q
        · rw [show pairOf (DL.namesOf ps) (.tup [.s c, y]) = (if nameB c = true ∧ c ∉ DL.namesOf ps then pairOver (DL.namesOf ps) c y else none) from rfl, if_pos ⟨hc, h2⟩] at q
          walk_at "w"
          cases en : isNonD y with
          | true =>
            rw [isNonD_eq en] at q
            walk_at "w"
            exact q
          | false =>
            walk_at "w"
            refine ⟨ky, ?_⟩
            cases ey : isNameD y with
            | false =>
              rw [pairOver_no ey en] at q
              walk_at "w"
              exact q
            | true =>
              obtain ⟨o, rfl, ho⟩ := isNameD_s ey
              walk_at "w"
              refine wr_inF' (k := .text o) (neg := false) he ?_
              rw [if_neg Bool.false_ne_true, ovs_is]
              have e3 : (pairOver (DL.namesOf ps) c (.s o)).isSome = decide (o ∈ DL.namesOf ps) := by
                show (if nameB o = true ∧ o ∈ DL.namesOf ps then some (c, some o) else none).isSome = _
                by_cases h : o ∈ DL.namesOf ps
                · rw [if_pos ⟨ho, h⟩, decide_eq_true h]; rfl
                · rw [if_neg (fun k => h k.2), decide_eq_false h]; rfl
              rw [e3] at q
              exact q
  · have e2 : subK k .tuple = false := by cases k <;> first | rfl | exact absurd rfl ek
    rw [e2]
    walk_at "w"
    rw [pairOf_no (fun x y e => ek (by subst e; cases hk; rfl))] at q
    exact q
def sp_tinit (a : Ad) : Sp2 := fun ds M Q2 E2 => ∃ x d, ds = [.r x, d] ∧ M x = some (.ins a.c_Tree [] []) ∧ KnT M d ∧ (∀ at_, treeM M d = .inl at_ → E2 a.c_NoTree ["at"] [.i at_] (delM M x)) ∧
  ∀ ps, treeM M d = .inr ps → Q2 .n (updM M x (.ins a.c_Tree ["overs", "kids", "order"] [dlD (ovsOf ps), dlD (kdsOf ps), namesD (ord ps none)]))
theorem ok_Tree_o___init__ (T : Tx K mg a) : FnOk P w K mg base (L2.CX P w) 22 a.f_Tree_o___init__ a.d_Tree_o___init__ ["self", "pairs"] (lift ⟨P, w, K⟩ (sp_tinit a)) := by
  refine okDX T.F_Tree_o___init__ sc_Tree_o___init__ (fun ds M Q2 E2 h => by obtain ⟨x, d, rfl, _⟩ := h; rfl) fun cdv A outer s H E G Fr ds M Q2 E2 hr h hx => ⟨_, (pss_cons (ps_if (pt_not (pt_val (pe_callB (k_isi (K := K) rfl) rfl T.z_isinstance bt_isinstance (pa_cons (pv 1) (pa_cons (pe_bltn (v := .ty "list") rfl T.z_list bt_list rfl) pa_nil))))) (pss_one (ps_raise rfl (takes_of rfl rfl rfl rfl) (pmk_oex T.ox_NoTree T.iC_NoTree T.tI_NoTree (ok_NoTree_o___init__ (P := P) (w := w) (K := K) (base := base) T) (hr.mono (by decide)) T.b_NoTree_o___init__ .nil passZ rfl T.gc_NoTree (pa_cons (pe_un un_neg pe_int) pa_nil)))) pss_nil) (pss_cons (k_sfld (K := K) rfl (pv 0) (pe_dnewF (W := ⟨P, w, K⟩) rfl rfl) rfl) (pss_cons (k_sfld (K := K) rfl (pv 0) (pe_dispF (W := ⟨P, w, K⟩) rfl rfl (pps_cons pe_non (pe_lstM pa_nil) pps_nil) rfl rfl (by simp) (by decide)) rfl) (pss_cons (ps_for (passes_of rfl) rfl (k_enumM (K := K) rfl rfl T.z_enumerate (pa_cons (pv 1) pa_nil)) (k_gtup (K := K) rfl rfl (pgs_cons (pg_name (i := 2) sc_Tree_o___init__.nd rfl (Or.inl rfl)) (pgs_cons (pg_name (i := 3) sc_Tree_o___init__.nd rfl (Or.inl rfl)) pgs_nil))) (pss_cons (ps_if (PW.pt (pw_or (pt_cmpR (k_eq (K := K) rfl (hu64 hr)) (pv 2) (pe_glob rfl T.v_MOST_COLUMNS.choose_spec.1 T.v_MOST_COLUMNS.choose_spec.2) (nomark _)) (pw_or1 (pt_not (pt_val (pe_call (ok_is_pair (P := P) (w := w) (K := K) (base := base) T) (hr.mono (by decide)) rfl T.g_is_pair T.k_is_pair T.b_is_pair .nil passZ (pa_cons (pv 3) (pa_cons (k_fld (K := K) rfl (pv 0) rfl) pa_nil)))))))) (pss_one (ps_raise rfl (takes_of rfl rfl rfl rfl) (pmk_oex T.ox_NoTree T.iC_NoTree T.tI_NoTree (ok_NoTree_o___init__ (P := P) (w := w) (K := K) (base := base) T) (hr.mono (by decide)) T.b_NoTree_o___init__ .nil passZ rfl T.gc_NoTree (pa_cons (pv 2) pa_nil)))) pss_nil) (pss_cons (ps_asg (pv 3) (k_gtup (K := K) rfl rfl (pgs_cons (pg_name (i := 4) sc_Tree_o___init__.nd rfl (Or.inl rfl)) (pgs_cons (pg_name (i := 5) sc_Tree_o___init__.nd rfl (Or.inl rfl)) pgs_nil)))) (pss_cons (ps_asg (pv 5) (pg_sub (k_fld (K := K) rfl (pv 0) rfl) (pv 4) (set_leaf (W := ⟨P, w, K⟩) rfl rfl))) (pss_cons (ps_asg (pe_lstM pa_nil) (pg_sub (k_fld (K := K) rfl (pv 0) rfl) (pv 4) (set_leaf (W := ⟨P, w, K⟩) rfl rfl))) (pss_one (ps_expr (k_bm (K := K) rfl PySem.F.plainAttrs_list PySem.F.slot_list_append PySem.F.type_list_append mt_append (pe_ix (ix_leaf (W := ⟨P, w, K⟩) rfl rfl) (k_fld (K := K) rfl (pv 0) rfl) (pv 5) (fun _ _ => rfl)) (pa_cons (pv 4) pa_nil))))))))) (pss_cons (k_sfld (K := K) rfl (pv 0) (pe_lstM pa_nil) rfl) (pss_one (ps_for (passes_of rfl) rfl (k_ls (K := K) rfl (pe_ix (ix_leaf (W := ⟨P, w, K⟩) rfl rfl) (k_fld (K := K) rfl (pv 0) rfl) pe_non (fun _ _ => rfl))) (pg_name (i := 4) sc_Tree_o___init__.nd rfl (Or.inl rfl)) (pss_one (ps_expr (k_bm (K := K) rfl PySem.F.plainAttrs_list PySem.F.slot_list_extend PySem.F.type_list_extend mt_extend (k_fld (K := K) rfl (pv 0) rfl) (pa_cons (pe_call (ok_order_from (P := P) (w := w) (K := K) (base := base) T) (hr.mono (by decide)) rfl T.g_order_from T.k_order_from T.b_order_from .nil passZ (pa_cons (k_fld (K := K) rfl (pv 0) rfl) (pa_cons (pv 4) pa_nil))) pa_nil))))))))))), ?_⟩
  obtain ⟨x, d, rfl, hm, ⟨⟨⟨k, hk⟩, _⟩, hes⟩, q1, q2⟩ := h
  have cl_Tree := T.cl_Tree
  have na_Tree_overs := T.na_Tree_o_overs
  have na_Tree_kids := T.na_Tree_o_kids
  have na_Tree_order := T.na_Tree_o_order
  refine ws_start (ρ' := [some _, some _, none, none, none, none]) rfl ?_
  walk_at "w"
  refine wc_isK .list hk ?_
  walk_at "w"
  by_cases ek : k = .list
  · subst ek
    obtain ⟨es, l⟩ := kd_lstE hk
    obtain ⟨hz, hes⟩ := hes es l
    walk_at "w"
    refine we_dnewF fun o ho => ?_
    have ox : o ≠ x := fun e => by rw [e, hm] at ho; cases ho
    walk_at "w"
    refine sfld_of (by rw [updM_ne (Ne.symm ox)]; exact hm) cl_Tree na_Tree_overs rfl ?_
    walk_at "w"
    refine we_dispF fun k2 hk2 => ?_
    obtain ⟨k2x, hk2'⟩ := updM_none hk2
    obtain ⟨k2o, hk20⟩ := updM_none hk2'
    refine wps_cons ?_
    walk_at "w"
    intro q0 hq0
    obtain ⟨q0k, hq0'⟩ := updM_none hq0
    obtain ⟨q0x, hq0''⟩ := updM_none hq0'
    obtain ⟨q0o, hq00⟩ := updM_none hq0''
    refine wps_nil ⟨by rw [updM_ne (Ne.symm q0k), updM_same], [(.none, .r q0)], rfl, by show 1 ≤ 15; decide, ?_⟩
    walk_at "w"
    refine sfld_of (by rw [updM_ne (Ne.symm k2x), updM_ne (Ne.symm q0x), updM_ne (Ne.symm k2x), updM_same]) cl_Tree na_Tree_kids rfl ?_
    generalize hM' : updM _ x _ = M'
    have c0 : TCells M' M x o k2 a.c_Tree ["overs", "kids"] (ovsOf []) [⟨.none, q0, []⟩] := by
      refine TCells.start ho hk20 hq00 ox k2x q0x (Ne.symm k2o) q0o q0k fun y => ?_
      subst hM'
      by_cases e1 : y = x
      · subst e1; rw [updM_same, if_pos rfl]; rfl
      · rw [updM_ne e1, if_neg e1]
        by_cases e2 : y = k2
        · subst e2; rw [updM_same, if_pos rfl]; rfl
        · rw [updM_ne e2, if_neg e2]
          by_cases e3 : y = q0
          · subst e3; rw [updM_same, if_pos rfl]
          · rw [updM_ne e3, if_neg e3, updM_ne e2, updM_ne e1]
            by_cases e4 : y = o
            · subst e4; rw [updM_same, if_pos rfl]
            · rw [updM_ne e4, if_neg e4]
    clear hM'
    walk_at "w"
    refine ⟨d, es, rfl, c0.lst hm l, ?_⟩
    refine loop_wordM (fun i ρ1 M1 => wipe2 ρ1 [2, 3, 4, 5] = [some (.r x), some d, none, none, none, none] ∧ ∃ acc b, acc.length = i ∧ readP [] es = readP acc (es.drop i) ∧ Tr acc ∧ TCells M1 M x o k2 a.c_Tree ["overs", "kids"] (ovsOf acc) b ∧ kidsF b = kdsOf acc) (fun j ρ1 M1 h => ?_) _ 0 _ _ ⟨rfl, [], _, rfl, rfl, Tr.nil, c0, rfl⟩ (fun i d' ρ1 M1 hi h => ?_) (fun ρ1 M1 h => ?_)
    · obtain ⟨_, acc, b, _, _, _, c, _⟩ := h
      exact c.lst hm l
    · rw [Nat.zero_add] at h ⊢
      obtain ⟨hρ, acc, b, hl, er, t, c, hk'⟩ := h
      obtain ⟨e, he, rfl⟩ := enumD_get hi
      refine wg_env [2, 3, 4, 5] ?_
      rw [hρ]
      refine wg_tup rfl ?_
      have eV : decide (V.int (i : Int) = V.int 8) = decide (i = 8) := by
        by_cases h : i = 8
        · rw [h]; rfl
        · rw [decide_eq_false h, decide_eq_false fun e => h (by injection e; omega)]
      have hdr : es.drop i = e :: es.drop (i + 1) := by
        have hlt := (List.getElem?_eq_some_iff.mp he).1
        rw [List.drop_eq_getElem_cons hlt, (List.getElem?_eq_some_iff.mp he).2]
      rw [hdr] at er
      have eR : ∀ at_ : Int, readP [] es = .inl at_ → E2 a.c_NoTree ["at"] [.i at_] (delM M x) := fun at_ h => q1 at_ (by unfold treeM; rw [lstM_of.mpr l]; exact h)
      walk_at "w"
      rw [eV]
      refine if_d (fun h8 => ?_) fun h8 => ?_
      · walk_at "w"
        refine ws_raise1 (wx_of hx.weak) ?_
        walk_at "w"
        refine ⟨_, c.le, eR _ ?_⟩
        rw [er]
        simp only [readP]
        rw [if_pos (by omega), hl]
      · walk_at "w"
        refine fld_of (.inr ⟨x, rfl, c.hx⟩) cl_Tree na_Tree_overs rfl ?_
        walk_at "w"
        refine ⟨_, _, acc, rfl, ?_, .inr ⟨o, rfl, c.ho⟩, ?_⟩
        · obtain ⟨k1, k2'⟩ := hes e (List.mem_of_getElem? he)
          exact ⟨k1.keep (c.keep hm), fun es' e' => ⟨(k2' es' e').1, fun y hy => ((k2' es' e').2 y hy).keep (c.keep hm)⟩⟩
        cases hp : pairOf (DL.namesOf acc) e with
        | none =>
          walk_at "w"
          refine ws_raise1 (wx_of hx.weak) ?_
          walk_at "w"
          refine ⟨_, c.le, eR _ ?_⟩
          rw [er]
          simp only [readP]
          rw [if_neg (by omega), hp, hl]
        | some p =>
          obtain ⟨ok, rfl⟩ := pairOf_ok hp
          have er2 : readP [] es = readP (acc ++ [p]) (es.drop (i + 1)) := by
            rw [er]
            simp only [readP]
            rw [if_neg (by omega), hp]
          have hl8 := t.len
          walk_at "w"
          refine fld_of (.inr ⟨x, rfl, c.hx⟩) cl_Tree na_Tree_overs rfl ?_
          walk_at "w"
          refine wset_leaf (k := .text p.1) c.ho (by simp [ovsOf]; omega) ?_
          rw [ovs_snoc ok]
          have c1 := c.setO (ovs' := ovsOf (acc ++ [p]))
          generalize updM M1 o (dlM (ovsOf (acc ++ [p]))) = M2 at c1 ⊢
          walk_at "w"
          intro q2' hq2
          have f2 := c1.fresh hq2
          walk_at "w"
          refine fld_of (.inr ⟨x, rfl, by rw [updM_ne (Ne.symm f2.1)]; exact c1.hx⟩) cl_Tree na_Tree_kids rfl ?_
          walk_at "w"
          refine wset_leaf (k := .text p.1) (kvs := kidsR b) (by rw [updM_ne (Ne.symm f2.2.2.1)]; exact c1.hk) (by
            have := congrArg List.length (kids_keys hk')
            simp only [List.length_map, List.length_cons] at this
            simp only [kidsR, List.length_map]
            omega) ?_
          have hno : valL (kidsR b) (.text p.1) = none := valL_none fun kv hkv => by
            have hkeys := kids_keys hk'
            obtain ⟨f, hf, rfl⟩ := List.mem_map.mp hkv
            have hf' : f.key ∈ b.map (·.key) := List.mem_map.mpr ⟨f, hf, rfl⟩
            rw [hkeys] at hf'
            intro e
            replace e : f.key = .text p.1 := e
            rw [e] at hf'
            rcases List.mem_cons.mp hf' with h | h
            · cases h
            · obtain ⟨g, hg, e'⟩ := List.mem_map.mp h
              injection e' with e'
              exact ok.new (List.mem_map.mpr ⟨g, hg, e'⟩)
          rw [putL_new _ hno]
          have c2 := c1.newKid hq2 (.text p.1)
          generalize updM (updM M2 q2' (MO.lst [])) k2 (dlM (kidsR b ++ [(Leaf.text p.1, DV.r q2')])) = M3 at c2 ⊢
          have hkb : kidsF (b ++ [⟨.text p.1, q2', []⟩]) = kdsOf acc ++ [(.text p.1, .lst [])] := by
            rw [← hk']; simp [kidsF]
          have hkeys : (b ++ [(⟨.text p.1, q2', []⟩ : Kid)]).map (·.key) = .none :: (acc ++ [p]).map fun p => .text p.1 := by
            rw [List.map_append, kids_keys hk']; simp
          have hnd : ((b ++ [(⟨.text p.1, q2', []⟩ : Kid)]).map (·.key)).Nodup := by
            have tt := (t.snoc (by omega) ok).nodup
            rw [hkeys, List.nodup_cons]
            refine ⟨fun e => ?_, ?_⟩
            · obtain ⟨p, _, e⟩ := List.mem_map.mp e
              cases e
            · rw [DL.namesOf, List.Nodup, List.pairwise_map] at tt
              rw [List.Nodup, List.pairwise_map]
              exact tt.imp fun {u v} h e => h (by injection e)
          obtain ⟨kd, hkd, ekd⟩ : ∃ kd ∈ b ++ [(⟨.text p.1, q2', []⟩ : Kid)], kd.key = optL p.2 := by
            have : optL p.2 ∈ (b ++ [(⟨.text p.1, q2', []⟩ : Kid)]).map (·.key) := by
              rw [hkeys]
              cases ho2 : p.2 with
              | none => exact List.mem_cons_self
              | some c' =>
                refine List.mem_cons_of_mem _ ?_
                obtain ⟨g, hg, e'⟩ := List.mem_map.mp (ok.ov c' ho2)
                exact List.mem_map.mpr ⟨g, List.mem_append.mpr (.inl hg), by rw [e']; rfl⟩
            obtain ⟨kd, h1, h2⟩ := List.mem_map.mp this
            exact ⟨kd, h1, h2⟩
          walk_at "w"
          refine fld_of (.inr ⟨x, rfl, c2.hx⟩) cl_Tree na_Tree_kids rfl ?_
          walk_at "w"
          rw [optD_lD]
          refine wr_ixF (.inr ⟨k2, rfl, c2.hk⟩) (by rw [← ekd]; exact valL_kid hnd hkd) ?_
          refine ⟨tyOk_lst (.inr ⟨kd.at_, rfl, c2.hb kd hkd⟩), ?_⟩
          rw [← optD_lD]
          walk_at "w"
          have c3 := c2.add hnd hkd (.s p.1)
          have hkl : kd.ds.length ≤ 1000 := by
            have h1 : (kd.key, DV.lst kd.ds) ∈ kdsOf acc ++ [(.text p.1, .lst [])] := by
              rw [← hkb]; exact List.mem_map.mpr ⟨kd, hkd, rfl⟩
            have hk8 : ∀ o, (kidsOf acc o).length ≤ 8 := fun o => by
              rw [kidsOf, List.length_map]
              exact Nat.le_trans (List.length_filter_le _ _) t.len
            rcases List.mem_append.mp h1 with h1 | h1
            · rcases List.mem_cons.mp h1 with h1 | h1
              · injection h1 with _ h1
                injection h1 with h1
                rw [h1, List.length_map]
                have := hk8 none
                omega
              · obtain ⟨g, _, h1⟩ := List.mem_map.mp h1
                injection h1 with _ h1
                injection h1 with h1
                rw [← h1, List.length_map]
                have := hk8 (some g.1)
                omega
            · rw [List.mem_singleton] at h1
              injection h1 with _ h1
              injection h1 with h1
              rw [h1]
              exact Nat.zero_le _
          refine wm_append (c2.hb kd hkd) (Nat.lt_of_lt_of_le (Nat.lt_succ_of_le hkl) (by decide)) ?_
          refine ⟨by dsimp only [wipe2, List.set], acc ++ [p], _, by simp [hl], er2, t.snoc (by omega) ok, c3, ?_⟩
          rw [ekd, kidsF_add, hkb]
          exact kds_step t ok
    · rw [Nat.zero_add] at h
      obtain ⟨hρ, acc, b, hl, er, t, c, hk'⟩ := h
      refine ws_env [2, 3, 4, 5] ?_
      rw [hρ]
      refine ws_frzN (ws_frzT c rfl ?_)
      rw [hk']
      have er2 : treeM M d = .inr acc := by
        unfold treeM
        rw [lstM_of.mpr l]
        show readP [] es = _
        rw [er, enumD_len, List.drop_length]
        rfl
      walk_at "w"
      intro r0 hr0
      obtain ⟨r0x, hr00⟩ := updM_none hr0
      walk_at "w"
      refine sfld_of (by rw [updM_ne (Ne.symm r0x), updM_same]) cl_Tree na_Tree_order rfl ?_
      rw [updM_swap r0x]
      walk_at "w"
      refine fld_of (.inr ⟨x, rfl, by rw [updM_ne (Ne.symm r0x), updM_same]⟩) cl_Tree na_Tree_kids rfl ?_
      walk_at "w"
      refine wr_ixN kds_none ?_
      walk_at "w"
      refine loop_word (fun i ρ1 M1 => wipe2 ρ1 [4] = [some (.r x), some d, none, none, none, none] ∧ M1 = updM (updM M x (.ins a.c_Tree ["overs", "kids", "order"] [dlD (ovsOf acc), dlD (kdsOf acc), .r r0])) r0 (.lst ((((kidsOf acc none).take i).flatMap fun d => d :: ord acc (some d)).map DV.s))) _ 0 _ _ ⟨rfl, rfl⟩ (fun i d' ρ1 M1 hi h => ?_) (fun ρ1 M1 h => ?_)
      · rw [Nat.zero_add] at h ⊢
        obtain ⟨hρ1, rfl⟩ := h
        obtain ⟨e, he, rfl⟩ := map_getS hi
        have hke := List.mem_of_getElem? he
        refine wg_env [4] ?_
        rw [hρ1]
        walk_at "w"
        refine fld_of (.inr ⟨x, rfl, by rw [updM_ne (Ne.symm r0x), updM_same]⟩) cl_Tree na_Tree_order rfl ?_
        walk_at "w"
        refine fld_of (.inr ⟨x, rfl, by rw [updM_ne (Ne.symm r0x), updM_same]⟩) cl_Tree na_Tree_kids rfl ?_
        walk_at "w"
        refine ⟨Nat.lt_succ_of_le (Nat.le_trans (rk_le _) t.len), t, kids_names hke, ?_⟩
        walk_at "w"
        have hl1 := flat_take_len (fun d => d :: ord acc (some d)) (kidsOf acc none) i
        rw [← ord_eq t] at hl1
        have hl2 := ord_len t none
        have hl3 := beneath_len t (kids_names hke)
        have hl4 := t.len
        refine wm_ext1 (.inl rfl) (by simp only [List.length_map] at *; omega) ?_
        refine ⟨by dsimp only [wipe2, List.set], ?_⟩
        rw [take_succ_get he]
        simp
      · rw [Nat.zero_add] at h
        obtain ⟨_, rfl⟩ := h
        rw [List.length_map, List.take_length, ← ord_eq t]
        exact ⟨_, frz_last (ds := [_, _]) hr00 r0x, q2 acc er2⟩
  · have e2 : subK k .list = false := by cases k <;> first | rfl | exact absurd rfl ek
    rw [e2]
    walk_at "w"
    refine ws_raise1 (wx_of hx.weak) ?_
    walk_at "w"
    refine ⟨_, MLe.of (fun q => ?_), q1 (-1) ?_⟩
    · by_cases e : q = x
      · subst e; exact .inl delM_same
      · exact .inr (delM_ne e).symm
    · unfold treeM
      cases h : lstM M d with
      | none => rfl
      | some es =>
        have := kd_of (lstM_of.mp h)
        rw [hk] at this
        cases this
        exact absurd rfl ek
theorem treeM_new {M : Mu} {x : Addr} {o : MO} (h : M x = none) (ho : ∀ ds, o ≠ .lst ds) (d : DV) : treeM (updM M x o) d = treeM M d := by
  unfold treeM
  rw [lstM_new h ho]
theorem lst_backT {M : Mu} {x : Addr} {o : MO} {d : DV} {es : List DV} (h : M x = none) (ho : ∀ ds, o ≠ .lst ds) (l : LstOf (updM M x o) d es) : LstOf M d es := lstM_of.mp (by rw [← lstM_new h ho]; exact lstM_of.mpr l)
theorem KnT.new {M : Mu} {x : Addr} {o : MO} (h0 : M x = none) (no : ∀ ds, o ≠ .lst ds) {d : DV} (k : KnT M d) : KnT (updM M x o) d :=
  ⟨k.1.new h0, fun es l => by
    obtain ⟨h1, h2⟩ := k.2 es (lst_backT h0 no l)
    exact ⟨h1, fun e he => ⟨(h2 e he).1.new h0, fun es' ee' => ⟨((h2 e he).2 es' ee').1, fun e' he' => (((h2 e he).2 es' ee').2 e' he').new h0⟩⟩⟩⟩
/-- Tree(..) -/
theorem we_tree {a : Ad} {Z : Zn} {ρ : Ro} {M : Mu} {tx : TA} {Q2 : DQ} {E : XK} {E2 : XK2} (hx : XcOk Z E2 E) (h : WA Z tx ρ M fun es M1 => ∃ d, es = [d] ∧ KnT M1 d ∧ (∀ at_, treeM M1 d = .inl at_ → E2 a.c_NoTree ["at"] [.i at_] M1) ∧ ∀ ps, treeM M1 d = .inr ps → Q2 (treeD a.c_Tree ps) M1) :
    WE Z (tMake a.c_Tree (lift Z.W (sp_tinit a)) [] E tx) ρ M Q2 := we_makeF hx (h.imp fun es M1 ⟨d, ee, hd, q1, q2⟩ x h0 => by
      have no : ∀ ds, MO.ins a.c_Tree [] [] ≠ .lst ds := fun _ h => by cases h
      rw [ee]
      refine ⟨x, d, rfl, updM_same, hd.new h0 no, fun at_ e => ?_, fun ps e => ?_⟩
      · rw [delM_updM h0]
        exact q1 at_ (by rw [← e, treeM_new h0 no])
      · refine ⟨rfl, _, updM_same, trivial, ?_⟩
        rw [updM_upd, delM_updM h0]
        exact q2 ps (by rw [← e, treeM_new h0 no]))
/-- the pairs of a tree -/
theorem kn_over {M : Mu} {ps : Prs} (t : Tr ps) {p : Str × Option Str} (h : p ∈ ps) : Kn M (.s p.1) ∧ Kn M (optD p.2) := by
  have h1 : p.1 ∈ DL.namesOf ps := List.mem_map.mpr ⟨p, h, rfl⟩
  refine ⟨Kn.s (by have := name_len (t.name h1); omega), ?_⟩
  obtain ⟨i, hi⟩ := List.getElem?_of_mem h
  cases e : p.2 with
  | none => exact Kn.n
  | some c =>
    have h2 := (t.pair hi).ov c e
    have h3 : c ∈ DL.namesOf ps := by
      obtain ⟨g, hg, rfl⟩ := List.mem_map.mp h2
      exact List.mem_map.mpr ⟨g, List.mem_of_mem_take hg, rfl⟩
    exact Kn.s (by have := name_len (t.name h3); omega)
theorem KnT.pairs {M : Mu} {d : DV} {ps : Prs} (l : LstOf M d (pairsD ps)) (t : Tr ps) : KnT M d := ⟨⟨⟨.list, kd_of l⟩, fun z e => by
    subst e; rcases l with l | ⟨_, l, _⟩ <;> cases l⟩, fun es l' => by
  have := (lstM_of.mpr l).symm.trans (lstM_of.mpr l')
  cases this
  refine ⟨by have := t.len; simp; omega, fun e he => ?_⟩
  obtain ⟨p, hp, rfl⟩ := List.mem_map.mp he
  refine ⟨Kn.tup, fun es e => ?_⟩
  injection e with e
  subst e
  refine ⟨by simp, fun x hx => ?_⟩
  simp only [List.mem_cons, List.not_mem_nil, or_false] at hx
  rcases hx with rfl | rfl
  · exact (kn_over t hp).1
  · exact (kn_over t hp).2⟩
theorem treeM_ok {M : Mu} {d : DV} {ps : Prs} (l : LstOf M d (pairsD ps)) (t : Tr ps) : treeM M d = .inr ps := by
  unfold treeM
  rw [lstM_of.mpr l]
  exact readP_of (acc := []) t
theorem we_treeR {a : Ad} {Z : Zn} {ρ : Ro} {M : Mu} {tx : TA} {Q2 : DQ} {E : XK} {E2 : XK2} (hx : XcOk Z E2 E) (h : WA Z tx ρ M fun es M1 => ∃ d ps, es = [d] ∧ LstOf M1 d (pairsD ps) ∧ Tr ps ∧ Q2 (treeD a.c_Tree ps) M1) :
    WE Z (tMake a.c_Tree (lift Z.W (sp_tinit a)) [] E tx) ρ M Q2 := we_tree hx (h.imp fun es M1 ⟨d, ps, ee, l, t, q⟩ => by
      refine ⟨d, ee, KnT.pairs l t, fun at_ e => ?_, fun ps' e => ?_⟩
      · rw [treeM_ok l t] at e
        cases e
      · rw [treeM_ok l t] at e
        cases e
        exact q)
def sp_tlen (a : Ad) : Sp2 := fun ds M Q2 _ => ∃ ps, ds = [treeD a.c_Tree ps] ∧ Q2 (.i ((ord ps none).length : Nat)) M
theorem ok_Tree_o___len__ (T : Tx K mg a) : FnOk P w K mg base CX0 3 a.f_Tree_o___len__ a.d_Tree_o___len__ ["self"] (lift ⟨P, w, K⟩ (sp_tlen a)) := by
  refine okD T.F_Tree_o___len__ sc_Tree_o___len__ (fun ds M Q2 E2 h => by obtain ⟨ps, rfl, _⟩ := h; rfl) fun cdv A outer s H E G Fr ds M Q2 E2 hr h => ⟨_, (pss_one (ps_ret (pe_callB (k_len (K := K) rfl) rfl T.z_len bt_len (pa_cons (k_fld (K := K) rfl (pv 0) rfl) pa_nil)))), ?_⟩
  obtain ⟨ps, rfl, q⟩ := h
  have cl_Tree := T.cl_Tree
  have na_Tree_order := T.na_Tree_o_order
  refine ws_start (ρ' := [some _]) rfl ?_
  walk_at "w"
  exact q
def sp_tcolumns (a : Ad) : Sp2 := fun ds M Q2 _ => ∃ ps, ds = [treeD a.c_Tree ps] ∧ Told Q2 M ((ord ps none).map DV.s)
theorem ok_Tree_o_columns (T : Tx K mg a) : FnOk P w K mg base CX0 3 a.f_Tree_o_columns a.d_Tree_o_columns ["self"] (lift ⟨P, w, K⟩ (sp_tcolumns a)) := by
  refine okD T.F_Tree_o_columns sc_Tree_o_columns (fun ds M Q2 E2 h => by obtain ⟨ps, rfl, _⟩ := h; rfl) fun cdv A outer s H E G Fr ds M Q2 E2 hr h => ⟨_, (pss_one (ps_ret (pe_as (pe_callTy (k_list (K := K) rfl) rfl T.z_list bt_list (pa_cons (k_fld (K := K) rfl (pv 0) rfl) pa_nil))))), ?_⟩
  obtain ⟨ps, rfl, q⟩ := h
  have cl_Tree := T.cl_Tree
  have na_Tree_order := T.na_Tree_o_order
  refine ws_start (ρ' := [some _]) rfl ?_
  refine ws_ret (we_asList ?_)
  walk_at "w"
  exact ⟨_, _, rfl, .inl (.inl rfl), q⟩
def sp_tpairs (a : Ad) : Sp2 := fun ds M Q2 _ => ∃ ps, ds = [treeD a.c_Tree ps] ∧ Tr ps ∧ Told Q2 M (pairsD (opr ps))
theorem ok_Tree_o_pairs (T : Tx K mg a) : FnOk P w K mg base CX0 3 a.f_Tree_o_pairs a.d_Tree_o_pairs ["self"] (lift ⟨P, w, K⟩ (sp_tpairs a)) := by
  refine okD T.F_Tree_o_pairs sc_Tree_o_pairs (fun ds M Q2 E2 h => by obtain ⟨ps, rfl, _⟩ := h; rfl) fun cdv A outer s H E G Fr ds M Q2 E2 hr h => ⟨_, (pss_one (ps_ret (pe_as (pe_lc (own := [("column", 1)]) (g := gName 1) rfl sc_Tree_o_pairs.nd (k_ls (K := K) rfl (k_fld (K := K) rfl (pv 0) rfl)) (blkOk_by (N := N_Tree_o_pairs) (own := [("column", 1)]) (sc := defScope s_Tree_o_pairs) (by first | decide +kernel | kernel_rfl)) (fun _ _ _ _ _ => (pg_name (i := 1) sc_Tree_o_pairs.nd rfl (Or.inl rfl))) (fun _ _ _ _ _ => pts_nil) (fun _ _ _ _ _ => (pe_tup (pa_cons (pv 1) (pa_cons (pe_ix (ix_leaf (W := ⟨P, w, K⟩) rfl rfl) (k_fld (K := K) rfl (pv 0) rfl) (pv 1) (fun _ _ => rfl)) pa_nil)))))))), ?_⟩
  obtain ⟨ps, rfl, t, q⟩ := h
  have cl_Tree := T.cl_Tree
  have na_Tree_overs := T.na_Tree_o_overs
  have na_Tree_order := T.na_Tree_o_order
  refine ws_start (ρ' := [some _, none]) rfl ?_
  refine ws_ret (we_asLc (gok_name (by decide)) ?_)
  walk_at "w"
  refine comp_mapT DV.s (fun c => .tup [.s c, optD (overOf ps c)]) (ord ps none) [] (le_size (by have := ord_len t none; have := t.len; simp; omega)) (fun c hc F k2 hk2 => ?_) ?_
  · walk_at "w"
    refine wr_ixS' (ovs_val (ord_names hc)) ?_
    walk_at "w"
    exact hk2
  · rw [List.nil_append]
    have e : pairsD (opr ps) = (ord ps none).map fun c => .tup [.s c, optD (overOf ps c)] := by unfold DL.opr oprs; rw [pairsD, List.map_map]; rfl
    rw [e] at q
    exact q
def sp_want (a : Ad) : Sp2 := fun ds M Q2 E2 => ∃ ps d, ds = [treeD a.c_Tree ps, d] ∧ Tr ps ∧ Kn M d ∧ (∀ c, colT ps d = some c → Q2 .n M) ∧ (colT ps d = none → E2 a.c_NoColumn ["name"] [d] M)
theorem ok_Tree_o_want (T : Tx K mg a) : FnOk P w K mg base (L2.CX P w) 6 a.f_Tree_o_want a.d_Tree_o_want ["self", "column"] (lift ⟨P, w, K⟩ (sp_want a)) := by
  refine okDX T.F_Tree_o_want sc_Tree_o_want (fun ds M Q2 E2 h => by obtain ⟨ps, d, rfl, _⟩ := h; rfl) fun cdv A outer s H E G Fr ds M Q2 E2 hr h hx => ⟨_, (pss_one (ps_if (PW.pt (pw_or (pt_not (pt_val (pe_call (ok_is_name (P := P) (w := w) (K := K) (base := base) T) (hr.mono (by decide)) rfl T.g_is_name T.k_is_name T.b_is_name .nil passZ (pa_cons (pv 1) pa_nil)))) (pw_or1 (pt_cmpR (op_ni_leaf (W := ⟨P, w, K⟩) rfl rfl) (pv 1) (k_fld (K := K) rfl (pv 0) rfl) rfl)))) (pss_one (ps_raise rfl (takes_of rfl rfl rfl rfl) (pmk_oex T.ox_NoColumn T.iC_NoColumn T.tI_NoColumn (ok_NoColumn_o___init__ (P := P) (w := w) (K := K) (base := base) T) (hr.mono (by decide)) T.b_NoColumn_o___init__ .nil passZ rfl T.gc_NoColumn (pa_cons (pv 1) pa_nil)))) pss_nil)), ?_⟩
  obtain ⟨ps, d, rfl, t, hd, q1, q2⟩ := h
  have cl_Tree := T.cl_Tree
  have na_Tree_overs := T.na_Tree_o_overs
  refine ws_start (ρ' := [some _, some _]) rfl ?_
  walk_at "w"
  refine ⟨hd, ?_⟩
  cases e : isNameD d with
  | false =>
    walk_at "w"
    refine ws_raise1 (wx_of hx) ?_
    walk_at "w"
    refine q2 ?_
    cases ec : colT ps d with
    | none => rfl
    | some c =>
      obtain ⟨rfl, hc⟩ := colT_some ec
      rw [show isNameD (.s c) = nameB c from rfl, t.name hc] at e
      cases e
  | true =>
    obtain ⟨c, rfl, _⟩ := isNameD_s e
    walk_at "w"
    refine wr_niOvs ?_
    walk_at "w"
    refine if_nd (fun h => ?_) fun h => ?_
    · walk_at "w"
      refine ws_raise1 (wx_of hx) ?_
      walk_at "w"
      exact q2 (colT_no h)
    · walk_at "w"
      exact q1 c (colT_s h)
def sp_children (a : Ad) : Sp2 := fun ds M Q2 E2 => ∃ ps d, ds = [treeD a.c_Tree ps, d] ∧ Tr ps ∧ ((d = .n ∧ Told Q2 M ((kidsOf ps none).map DV.s)) ∨ (isNonD d = false ∧ Kn M d ∧ (∀ c, colT ps d = some c → Told Q2 M ((kidsOf ps (some c)).map DV.s)) ∧ (colT ps d = none → E2 a.c_NoColumn ["name"] [d] M)))
theorem ok_Tree_o_children (T : Tx K mg a) : FnOk P w K mg base (L2.CX P w) 9 a.f_Tree_o_children a.d_Tree_o_children ["self", "column"] (lift ⟨P, w, K⟩ (sp_children a)) := by
  refine okDX T.F_Tree_o_children sc_Tree_o_children (fun ds M Q2 E2 h => by obtain ⟨ps, d, rfl, _⟩ := h; rfl) fun cdv A outer s H E G Fr ds M Q2 E2 hr h hx => ⟨_, (pss_cons (ps_if (pt_cmpR op_notNA (pv 1) pe_non (nomark _)) (pss_one (ps_expr (pe_meth (pv 0) T.cl_Tree T.m_Tree_o_want (ok_Tree_o_want (P := P) (w := w) (K := K) (base := base) T) (hr.mono (by decide)) T.b_Tree_o_want .nil (passE (takes_of rfl rfl rfl rfl) fun _ _ _ _ h => h) (pa_cons (pv 1) pa_nil)))) pss_nil) (pss_one (ps_ret (pe_as (pe_callTy (k_list (K := K) rfl) rfl T.z_list bt_list (pa_cons (pe_ix (ix_leaf (W := ⟨P, w, K⟩) rfl rfl) (k_fld (K := K) rfl (pv 0) rfl) (pv 1) (fun _ _ => rfl)) pa_nil)))))), ?_⟩
  obtain ⟨ps, d, rfl, t, q⟩ := h
  have cl_Tree := T.cl_Tree
  have na_Tree_kids := T.na_Tree_o_kids
  refine ws_start (ρ' := [some _, some _]) rfl ?_
  rcases q with ⟨rfl, q⟩ | ⟨hn, hd, q1, q2⟩
  · walk_at "w"
    refine we_asList ?_
    walk_at "w"
    refine wr_ixN kds_none ?_
    walk_at "w"
    exact ⟨_, _, rfl, .inl (.inl rfl), q⟩
  · walk_at "w"
    rw [hn]
    walk_at "w"
    refine ⟨t, hd, fun c ec => ?_, q2⟩
    obtain ⟨rfl, hc⟩ := colT_some ec
    walk_at "w"
    refine we_asList ?_
    walk_at "w"
    refine wr_ixS' (kds_val hc) ?_
    walk_at "w"
    exact ⟨_, _, rfl, .inl (.inl rfl), q1 c ec⟩
def sp_teq (a : Ad) : Sp2 := fun ds M Q2 _ => ∃ ps d, ds = [treeD a.c_Tree ps, d] ∧ ((∃ qs, d = treeD a.c_Tree qs ∧ Tr ps ∧ Tr qs ∧ (∀ c ∈ DL.namesOf ps, PyData.strOk c = true) ∧ (∀ c ∈ DL.namesOf qs, PyData.strOk c = true) ∧ Q2 (.b (decide (Teq ps qs))) M) ∨ ∃ k, kdM M d = some k ∧ Q2 (.b false) M)
theorem kit_tree {K : PySem.W.Frag} {mg : Str → Option Value} {a : Ad} (T : Tx K mg a) (k : Kd) : PySem.W.kitOne K (.type k.nm) (.ref a.c_Tree) = some false := by
  cases k
  · exact T.ki_int_Tree
  · exact T.ki_str_Tree
  · exact T.ki_bool_Tree
  · exact T.ki_NoneType_Tree
  · exact T.ki_list_Tree
  · exact T.ki_tuple_Tree
  · exact T.ki_dict_Tree
theorem ok_Tree_o___eq__ (T : Tx K mg a) : FnOk P w K mg base CX0 3 a.f_Tree_o___eq__ a.d_Tree_o___eq__ ["self", "other"] (lift ⟨P, w, K⟩ (sp_teq a)) := by
  refine okD T.F_Tree_o___eq__ sc_Tree_o___eq__ (fun ds M Q2 E2 h => by obtain ⟨ps, d, rfl, _⟩ := h; rfl) fun cdv A outer s H E G Fr ds M Q2 E2 hr h => ⟨_, (pss_one (ps_ret (pe_and (pe_callB (k_isi (K := K) rfl) rfl T.z_isinstance bt_isinstance (pa_cons (pv 1) (pa_cons (pe_glob (v := .ref a.c_Tree) rfl T.gc_Tree rfl) pa_nil))) (pe_and (pe_cmpR (k_eq (K := K) rfl (hu64 hr)) (k_fld (K := K) rfl (pv 0) rfl) (k_fld (K := K) rfl (pv 1) rfl) (nomark _)) (pe_one (pe_cmpR (op_eqF (W := ⟨P, w, K⟩) rfl rfl (huF hr)) (k_fld (K := K) rfl (pv 0) rfl) (k_fld (K := K) rfl (pv 1) rfl) (nomark _))))))), ?_⟩
  obtain ⟨ps, d, rfl, hor⟩ := h
  have cl_Tree := T.cl_Tree
  have na_Tree_overs := T.na_Tree_o_overs
  have na_Tree_order := T.na_Tree_o_order
  refine ws_start (ρ' := [some _, some _]) rfl ?_
  rcases hor with ⟨qs, rfl, t, u, h1, h2, q⟩ | ⟨k, hk, q⟩
  case inr =>
    walk_at "w"
    refine wc_isC hk (kit_tree T k) ?_
    walk_at "w"
    exact q
  walk_at "w"
  refine wc_isi (.own _) (tyD_obj T.eq_Tree (.inl rfl)) T.kt_Tree_Tree ?_
  walk_at "w"
  refine wr_eqB (d := namesD (ord ps none)) (e := namesD (ord qs none)) (.inl rfl) (.inl rfl) (plnL_strs fun z hz => h1 z (ord_names hz)) (plnL_strs fun z hz => h2 z (ord_names hz)) (by show depL _ + 1 ≤ 64; rw [depL_strs]; decide) (by show depL _ + 1 ≤ 64; rw [depL_strs]; decide) fun b hb => ?_
  have hb' : b = true ↔ ord ps none = ord qs none := hb.trans ⟨fun h => sMap_inj (by injection h), fun h => by rw [h]⟩
  walk_at "w"
  refine if_b (fun e => ?_) fun e => ?_
  · have eo := hb'.mp e
    walk_at "w"
    refine wr_eqF (ks := ovV ps) (ls := ovV qs) (.inl (by rw [ovs_vKV])) (.inl (by rw [ovs_vKV])) (ovV_flat ps) (ovV_flat qs) ?_
    rw [if_neg Bool.false_ne_true, eqF_teq t u eo]
    have : decide (Teq ps qs) = decide (∀ c ∈ DL.namesOf ps, overOf ps c = overOf qs c) := by
      unfold Teq
      simp only [eo, true_and]
    rw [this] at q
    exact q
  · have : decide (Teq ps qs) = false := decide_eq_false fun h => by rw [hb'.mpr h.1] at e; cases e
    rw [this] at q
    exact q
def poolM (a : Ad) (W : Wd) (ps : Prs) (x qn qh : Addr) (held : List Bun) (M0 : Mu) : Mu := updM (updM (updM M0 x (.ins a.c_Pool ["shape", "numbers", "held"] [treeD a.c_Tree ps, .r qn, .r qh])) qn (nM W (numsF held 0))) qh (.lst (held.map bunD))
theorem updM_comm {M : Mu} {p q : Addr} {x y : MO} (h : p ≠ q) : updM (updM M p x) q y = updM (updM M q y) p x := by
  funext b
  unfold updM
  by_cases h1 : b = q
  · by_cases h2 : b = p
    · exact absurd (h2.symm.trans h1) h
    · rw [if_pos h1, if_neg h2, if_pos h1]
  · rw [if_neg h1]
    by_cases h2 : b = p
    · rw [if_pos h2, if_pos h2]
    · rw [if_neg h2, if_neg h2, if_neg h1]
def sp_pinit (a : Ad) (W : Wd) : Sp2 := fun ds M Q2 _ => ∃ x ps M0, ds = [.r x, treeD a.c_Tree ps] ∧ M = updM M0 x (.ins a.c_Pool [] []) ∧ M0 x = none ∧
  ∀ qn qh, M0 qn = none → M0 qh = none → x ≠ qn → x ≠ qh → qn ≠ qh → Q2 .n (poolM a W ps x qn qh [] M0)
theorem ok_Pool_o___init__ (T : Tx K mg a) : FnOk P w K mg base CX0 3 a.f_Pool_o___init__ a.d_Pool_o___init__ ["self", "tree"] (lift ⟨P, w, K⟩ (sp_pinit a ⟨P, w, K⟩)) := by
  refine okD T.F_Pool_o___init__ sc_Pool_o___init__ (fun ds M Q2 E2 h => by obtain ⟨x, ps, M0, rfl, _⟩ := h; rfl) fun cdv A outer s H E G Fr ds M Q2 E2 hr h => ⟨_, (pss_cons (k_sfld (K := K) rfl (pv 0) (pv 1) rfl) (pss_cons (k_sfld (K := K) rfl (pv 0) (pe_dnewN (W := ⟨P, w, K⟩) rfl rfl) rfl) (pss_one (k_sfld (K := K) rfl (pv 0) (pe_lstM pa_nil) rfl)))), ?_⟩
  obtain ⟨x, ps, M0, rfl, rfl, hx, q⟩ := h
  have cl_Pool := T.cl_Pool
  have na_Pool_shape := T.na_Pool_o_shape
  have na_Pool_numbers := T.na_Pool_o_numbers
  have na_Pool_held := T.na_Pool_o_held
  refine ws_start (ρ' := [some _, some _]) rfl ?_
  walk_at "w"
  rw [updM_upd]
  refine we_dnewN fun qn hqn => ?_
  obtain ⟨n1, hq0⟩ := updM_none hqn
  have at1 : ∀ o, updM (updM M0 x (.ins a.c_Pool ["shape"] [treeD a.c_Tree ps])) qn o x = some (.ins a.c_Pool ["shape"] [treeD a.c_Tree ps]) := fun o => by rw [updM_ne (Ne.symm n1), updM_same]
  have e1 := at1 (nM ⟨P, w, K⟩ [])
  walk_at "w"
  rw [updM_swap n1]
  intro qh hqh
  obtain ⟨n2, hqh1⟩ := updM_none hqh
  obtain ⟨n3, hqh0⟩ := updM_none hqh1
  have e2 : updM (updM (updM M0 x (.ins a.c_Pool ["shape", "numbers"] [treeD a.c_Tree ps, .r qn])) qn (nM ⟨P, w, K⟩ [])) qh (.lst []) x = some (.ins a.c_Pool ["shape", "numbers"] [treeD a.c_Tree ps, .r qn]) := by
    rw [updM_ne (Ne.symm n3), updM_ne (Ne.symm n1), updM_same]
  walk_at "w"
  have e3 : ∀ o, updM (updM (updM (updM M0 x o) qn (nM ⟨P, w, K⟩ [])) qh (.lst [])) x (.ins a.c_Pool ["shape", "numbers", "held"] [treeD a.c_Tree ps, .r qn, .r qh]) = poolM a ⟨P, w, K⟩ ps x qn qh [] M0 := fun o => by
    rw [updM_comm n3, updM_swap n1]
    rfl
  have z := q qn qh hq0 hqh0 (Ne.symm n1) (Ne.symm n3) (Ne.symm n2)
  rw [← e3 (.ins a.c_Pool ["shape", "numbers"] [treeD a.c_Tree ps, .r qn])] at z
  exact z
/-- a pool in a store -/
theorem pool_x {W : Wd} {ps : Prs} {x qn qh : Addr} {held : List Bun} {M0 : Mu} (h1 : x ≠ qn) (h2 : x ≠ qh) : poolM a W ps x qn qh held M0 x = some (.ins a.c_Pool ["shape", "numbers", "held"] [treeD a.c_Tree ps, .r qn, .r qh]) := by
  unfold poolM
  rw [updM_ne h2, updM_ne h1, updM_same]
theorem pool_n {W : Wd} {ps : Prs} {x qn qh : Addr} {held : List Bun} {M0 : Mu} (h3 : qn ≠ qh) : poolM a W ps x qn qh held M0 qn = some (nM W (numsF held 0)) := by
  unfold poolM
  rw [updM_ne h3, updM_same]
theorem pool_h {W : Wd} {ps : Prs} {x qn qh : Addr} {held : List Bun} {M0 : Mu} : poolM a W ps x qn qh held M0 qh = some (.lst (held.map bunD)) := updM_same
theorem pln_ones : ∀ l : List (Option Nat), plnL (l.map oneD) = true
  | [] => rfl
  | none :: l => by rw [List.map_cons, plnL, pln_ones l]; rfl
  | some n :: l => by rw [List.map_cons, plnL, pln_ones l]; rfl
theorem dep_ones : ∀ l : List (Option Nat), depL (l.map oneD) ≤ 0
  | [] => Nat.le_refl _
  | none :: l => by rw [List.map_cons, depL]; have := dep_ones l; simp only [oneD, DV.dep]; omega
  | some n :: l => by rw [List.map_cons, depL]; have := dep_ones l; simp only [oneD, DV.dep]; omega
theorem pln_nats : ∀ l : List Nat, plnL (l.map fun n => DV.i ((n : Nat) : Int)) = true
  | [] => rfl
  | n :: l => by rw [List.map_cons, plnL, pln_nats l]; rfl
theorem dep_nats : ∀ l : List Nat, depL (l.map fun n => DV.i ((n : Nat) : Int)) ≤ 0
  | [] => Nat.le_refl _
  | n :: l => by rw [List.map_cons, depL]; have := dep_nats l; simp only [DV.dep]; omega
theorem pln_ents : ∀ l : List Ent, plnL (l.map entD) = true
  | [] => rfl
  | e :: l => by
    rw [List.map_cons, plnL, pln_ents l]
    simp [entD, natsD, DV.pln, plnL, pln_nats]
theorem dep_ents : ∀ l : List Ent, depL (l.map entD) ≤ 2
  | [] => Nat.zero_le _
  | e :: l => by
    rw [List.map_cons, depL]
    have h1 := dep_ents l
    have h2 := dep_nats e.2
    have h3 : (entD e).dep ≤ 2 := by
      simp only [entD, natsD, DV.dep, depL]
      omega
    omega
theorem alive_map : ∀ es : List OEnt, (es.filter fun e => decide (none ∉ e.2)).map oentD = (aliveF es).map entD
  | [] => rfl
  | e :: es => by
    have ih := alive_map es
    unfold aliveF at ih ⊢
    rw [List.filter_cons, List.filterMap_cons]
    cases h : allSome e.2 with
    | none =>
      rw [if_neg (by simpa using allSome_none.mp h)]
      exact ih
    | some ns =>
      have h2 : none ∉ e.2 := fun k => by rw [allSome_none.mpr k] at h; cases h
      rw [if_pos (by simpa using h2), List.map_cons, ih]
      show oentD e :: _ = entD (e.1, ns) :: _
      congr 1
      unfold oentD entD
      rw [allSome_some h, onesD_some]
def sp_put (a : Ad) (W : Wd) : Sp2 := fun ds M Q2 _ => ∃ x qn qh ps held M0 c es, ds = [.r x, .s c, .lst (es.map oentD)] ∧ M = poolM a W ps x qn qh held M0 ∧ x ≠ qn ∧ x ≠ qh ∧ qn ≠ qh ∧ held.length < 10000 ∧ es.length ≤ 10000 ∧ (∀ e ∈ es, e.2.length ≤ 1000) ∧ PyData.strOk c = true ∧
  Q2 (oneD (putP held c es).2) (poolM a W ps x qn qh (putP held c es).1 M0)
theorem ok_Pool_o_put (T : Tx K mg a) : FnOk P w K mg base CX0 3 a.f_Pool_o_put a.d_Pool_o_put ["self", "column", "entries"] (lift ⟨P, w, K⟩ (sp_put a ⟨P, w, K⟩)) := by
  refine okD T.F_Pool_o_put sc_Pool_o_put (fun ds M Q2 E2 h => by obtain ⟨x, qn, qh, ps, held, M0, c, es, rfl, _⟩ := h; rfl) fun cdv A outer s H E G Fr ds M Q2 E2 hr h => ⟨_, (pss_cons (ps_setLc (i := 3) (own := [("value", 5), ("parts", 6)]) (g := gTup K 2 (gCons (gName 5) (gCons (gName 6) gNil))) rfl sc_Pool_o_put.nd rfl rfl (sw_true rfl rfl rfl (by decide +kernel)) (k_ls (K := K) rfl (pv 2)) (blkOk_by (N := N_Pool_o_put) (own := [("value", 5), ("parts", 6)]) (sc := defScope s_Pool_o_put) (by first | decide +kernel | kernel_rfl)) (fun _ _ _ _ _ => (k_gtup (K := K) rfl rfl (pgs_cons (pg_name (i := 5) sc_Pool_o_put.nd rfl (Or.inl rfl)) (pgs_cons (pg_name (i := 6) sc_Pool_o_put.nd rfl (Or.inl rfl)) pgs_nil)))) (fun _ _ _ _ _ => (pts_one (pt_cmpR (k_niU (K := K) rfl (hu65 hr)) pe_non (pv 6) rfl))) (fun _ _ _ _ _ => (pe_tup (pa_cons (pv 5) (pa_cons (pv 6) pa_nil))))) (pss_cons (ps_if (pt_cmpR (k_eq (K := K) rfl (hu64 hr)) (pv 3) (pe_lst pa_nil) (nomark _)) (pss_one (ps_ret pe_non)) pss_nil) (pss_cons (ps_set (i := 4) sc_Pool_o_put.nd rfl (Or.inl rfl) (pe_tup (pa_cons (pv 1) (pa_cons (pe_callTy (k_tup (K := K) rfl) rfl T.z_tuple bt_tuple (pa_cons (pv 3) pa_nil)) pa_nil)))) (pss_cons (ps_if (pt_cmpR (op_niN (W := ⟨P, w, K⟩) rfl rfl rfl (hu64 hr)) (pv 4) (k_fld (K := K) rfl (pv 0) rfl) rfl) (pss_cons (ps_asg (pe_callB (k_len (K := K) rfl) rfl T.z_len bt_len (pa_cons (k_fld (K := K) rfl (pv 0) rfl) pa_nil)) (pg_sub (k_fld (K := K) rfl (pv 0) rfl) (pv 4) (set_N (W := ⟨P, w, K⟩) rfl rfl rfl (hu64 hr)))) (pss_one (ps_expr (k_bm (K := K) rfl PySem.F.plainAttrs_list PySem.F.slot_list_append PySem.F.type_list_append mt_append (k_fld (K := K) rfl (pv 0) rfl) (pa_cons (pe_tup (pa_cons (pv 1) (pa_cons (pv 3) pa_nil))) pa_nil))))) pss_nil) (pss_one (ps_ret (pe_ix (ix_N (W := ⟨P, w, K⟩) rfl rfl rfl (hu64 hr)) (k_fld (K := K) rfl (pv 0) rfl) (pv 4) (fun _ _ => rfl)))))))), ?_⟩
  obtain ⟨x, qn, qh, ps, held, M0, c, es, rfl, rfl, h1, h2, h3, hl, hes, hps, hc, q⟩ := h
  have cl_Pool := T.cl_Pool
  have na_Pool_numbers := T.na_Pool_o_numbers
  have na_Pool_held := T.na_Pool_o_held
  refine ws_start (ρ' := [some _, some _, some _, none, none, none, none]) rfl ?_
  have px := pool_x (a := a) (W := ⟨P, w, K⟩) (ps := ps) (held := held) (M0 := M0) h1 h2
  have pn := pool_n (a := a) (W := ⟨P, w, K⟩) (ps := ps) (x := x) (held := held) (M0 := M0) h3
  have ph := pool_h (a := a) (W := ⟨P, w, K⟩) (ps := ps) (x := x) (qn := qn) (qh := qh) (held := held) (M0 := M0)
  walk_at "w"
  refine comp_filT oentD oentD (fun e => decide (none ∉ e.2)) es [] (le_size (by simp; omega)) (fun e he F k2 hk2 => ?_) ?_
  · unfold oentD
    walk_at "w"
    refine wr_niU (.inl rfl) rfl ?_ (by decide) ?_ fun b hb => ?_
    · exact pln_ones _
    · exact Nat.le_trans (dep_ones _) (by decide)
    have eb : b = decide (none ∉ e.2) := by
      rw [ones_none] at hb
      cases b
      · symm
        rw [decide_eq_false_iff_not]
        exact fun k => Bool.false_ne_true (hb.mpr k)
      · symm
        rw [decide_eq_true_eq]
        exact hb.mp rfl
    walk_at "w"
    refine ⟨eb, rfl, fun h => ?_⟩
    walk_at "w"
    exact hk2 h
  rw [List.nil_append, alive_map]
  walk_at "w"
  refine wr_eqB (d := .lst ((aliveF es).map entD)) (e := .lst []) (.inl rfl) (.inl rfl) (pln_ents _) rfl (by show depL _ + 1 ≤ 64; have := dep_ents (aliveF es); omega) (by decide) fun b hb => ?_
  walk_at "w"
  refine if_b (fun eb => ?_) fun eb => ?_
  · have ea : aliveF es = [] := by
      have := hb.mp eb
      injection this with this
      exact List.map_eq_nil_iff.mp this
    have ep : putP held c es = (held, none) := by unfold putP; rw [if_pos ea]
    walk_at "w"
    rw [ep] at q
    exact q
  have ea : aliveF es ≠ [] := fun k => by
    rw [k] at hb
    rw [hb.mpr rfl] at eb
    cases eb
  walk_at "w"
  refine ⟨_, _, _, _, ObjOf.mu px, cl_Pool, na_Pool_numbers, rfl, ?_⟩
  rw [← bunK_D (c, aliveF es)]
  refine wr_inN (neg := true) pn (bunK_depth _) ?_
  have hk : kFind (numsF held 0) (.tup (bunKs (c, aliveF es))) = (whereB held (c, aliveF es) 0).map fun i => DV.i (i : Nat) := nums_find _ _ _
  rw [hk]
  cases hw : whereB held (c, aliveF es) 0 with
  | some i =>
    have ep : putP held c es = (held, some i) := by unfold putP; rw [if_neg ea, hw]
    rw [ep] at q
    refine ⟨_, rfl, ?_⟩
    rw [if_neg (by simp)]
    walk_at "w"
    refine ⟨_, _, _, _, ObjOf.mu px, cl_Pool, na_Pool_numbers, rfl, ?_⟩
    walk_at "w"
    refine wr_ixNk pn (bunK_depth _) (hk.trans (by rw [hw]; rfl)) ?_
    exact q
  | none =>
    have ep : putP held c es = (held ++ [(c, aliveF es)], some held.length) := by unfold putP; rw [if_neg ea, hw]
    rw [ep] at q
    refine ⟨_, rfl, ?_⟩
    rw [if_pos (by simp)]
    walk_at "w"
    refine ⟨_, _, _, _, ObjOf.mu px, cl_Pool, na_Pool_held, rfl, ?_⟩
    walk_at "w"
    refine wc_lenQ (.inl (.inr ⟨qh, rfl, ph⟩)) ?_
    walk_at "w"
    refine ⟨_, _, _, _, ObjOf.mu px, cl_Pool, na_Pool_numbers, rfl, ?_⟩
    walk_at "w"
    refine wset_N pn (bunK_depth _) (hk.trans (by rw [hw]; rfl)) (by rw [nums_len]; omega) ?_
    have qx : updM (poolM a ⟨P, w, K⟩ ps x qn qh held M0) qn (nM ⟨P, w, K⟩ (numsF held 0 ++ [(.tup (bunKs (c, aliveF es)), .i ((held.map bunD).length : Nat))])) x = some (.ins a.c_Pool ["shape", "numbers", "held"] [treeD a.c_Tree ps, .r qn, .r qh]) := by rw [updM_ne h1]; exact px
    have qhh : updM (poolM a ⟨P, w, K⟩ ps x qn qh held M0) qn (nM ⟨P, w, K⟩ (numsF held 0 ++ [(.tup (bunKs (c, aliveF es)), .i ((held.map bunD).length : Nat))])) qh = some (.lst (held.map bunD)) := by rw [updM_ne (Ne.symm h3)]; exact ph
    walk_at "w"
    refine ⟨_, _, _, _, ObjOf.mu qx, cl_Pool, na_Pool_held, rfl, ?_⟩
    walk_at "w"
    refine ⟨tyOk_lst (.inr ⟨qh, rfl, qhh⟩), ?_⟩
    walk_at "w"
    refine wm_appendT qhh (by rw [List.length_map]; omega) ?_
    have es1 : updM (updM (poolM a ⟨P, w, K⟩ ps x qn qh held M0) qn (nM ⟨P, w, K⟩ (numsF held 0 ++ [(.tup (bunKs (c, aliveF es)), .i ((held.map bunD).length : Nat))]))) qh (.lst (held.map bunD ++ [.tup [.s c, .lst ((aliveF es).map entD)]])) = poolM a ⟨P, w, K⟩ ps x qn qh (held ++ [(c, aliveF es)]) M0 := by
      have e1 : numsF (held ++ [(c, aliveF es)]) 0 = numsF held 0 ++ [(.tup (bunKs (c, aliveF es)), .i ((held.map bunD).length : Nat))] := by
        rw [nums_snoc, List.length_map, Nat.zero_add]
        rfl
      unfold poolM
      rw [e1, List.map_append, updM_comm (Ne.symm h3), updM_upd, updM_upd]
      rfl
    rw [es1]
    walk_at "w"
    refine ⟨_, _, _, _, ObjOf.mu (pool_x h1 h2), cl_Pool, na_Pool_numbers, rfl, ?_⟩
    walk_at "w"
    refine wr_ixNk (pool_n h3) (bunK_depth _) (d := .i (held.length : Nat)) ?_ ?_
    · refine (nums_find (c, aliveF es) _ 0).trans ?_
      rw [where_snoc hw, Nat.zero_add]
      rfl
    exact q
def visM (qp qo : Addr) (M0 : Mu) (o : List Nat) : Mu := updM (updM M0 qp (dlM (plF o 0))) qo (.lst (o.map natD))
def sp_visit (n : Nat) : Sp2 := fun ds M Q2 _ => ∃ qh qp qo k d M0 held o, ds = [.r qh, natD k, .r qp, .r qo] ∧ M = visM qp qo M0 o ∧ d < n ∧ d ≤ 8 ∧ qp ≠ qo ∧ qh ≠ qp ∧ qh ≠ qo ∧ M0 qh = some (.lst (held.map bunD)) ∧ held.length ≤ 10000 ∧ deepB held d k ∧ Vis held o ∧ (∀ b ∈ held, b.2.length ≤ 10000 ∧ ∀ e ∈ b.2, e.2.length ≤ 1000) ∧
  Q2 .n (visM qp qo M0 (visF held d k o))
theorem okr_visit (T : Tx K mg a) : ∀ n : Nat, FnOk P w K mg base CX0 (2 * n + 0 + 1) a.f_visit a.d_visit ["held", "number", "places", "order"] (lift ⟨P, w, K⟩ (sp_visit n)) := by
  refine Nat.rec (motive := fun n => FnOk P w K mg base CX0 (2 * n + 0 + 1) a.f_visit a.d_visit ["held", "number", "places", "order"] (lift ⟨P, w, K⟩ (sp_visit n))) (okD T.F_visit sc_visit (fun ds M Q2 E2 h => by obtain ⟨qh, qp, qo, k, d, M0, held, o, rfl, _⟩ := h; rfl) fun cdv A outer s H E G Fr ds M Q2 E2 hr h => by obtain ⟨qh, qp, qo, k, d, M0, held, o, rfl, rfl, hn, hd, h1, h2, h3, hh, hl, hdeep, hv, hs, q⟩ := h; exact absurd hn (Nat.not_lt_zero _)) fun n IH => ?_
  refine okD T.F_visit sc_visit (fun ds M Q2 E2 h => by obtain ⟨qh, qp, qo, k, d, M0, held, o, rfl, _⟩ := h; rfl) fun cdv A outer s H E G Fr ds M Q2 E2 hr h => ⟨_, (pss_cons (ps_if (pt_cmpR (op_in_leaf (W := ⟨P, w, K⟩) rfl rfl) (pv 1) (pv 2) rfl) (pss_one ps_retN) pss_nil) (pss_cons (ps_asg (pe_callB (k_len (K := K) rfl) rfl T.z_len bt_len (pa_cons (pv 3) pa_nil)) (pg_sub (pv 2) (pv 1) (set_leaf (W := ⟨P, w, K⟩) rfl rfl))) (pss_cons (ps_expr (k_bm (K := K) rfl PySem.F.plainAttrs_list PySem.F.slot_list_append PySem.F.type_list_append mt_append (pv 3) (pa_cons (pv 1) pa_nil))) (pss_one (ps_for PassesOwn.never rfl (k_ls (K := K) rfl (pe_ix (k_ix (K := K) rfl) (pe_ix (k_ix (K := K) rfl) (pv 0) (pv 1) (fun _ _ => rfl)) pe_int (fun _ _ => rfl))) (k_gtup (K := K) rfl rfl (pgs_cons (pg_name (i := 4) sc_visit.nd rfl (Or.inl rfl)) (pgs_cons (pg_name (i := 5) sc_visit.nd rfl (Or.inl rfl)) pgs_nil))) (pss_one (ps_for PassesOwn.never rfl (k_seq (K := K) rfl (pv 5)) (pg_name (i := 6) sc_visit.nd rfl (Or.inl rfl)) (pss_one (ps_expr (pe_call IH (hr.mono (by omega)) rfl T.g_visit T.k_visit T.b_visit .nil passZ (pa_cons (pv 0) (pa_cons (pv 6) (pa_cons (pv 2) (pa_cons (pv 3) pa_nil)))))))))))))), ?_⟩
  obtain ⟨qh, qp, qo, k, d, M0, held, o, rfl, rfl, hn, hd, h1, h2, h3, hh, hl, hdeep, hv, hs, q⟩ := h
  refine ws_start (ρ' := [some _, some _, some _, some _, none, none, none]) rfl ?_
  have vp : ∀ o, visM qp qo M0 o qp = some (dlM (plF o 0)) := fun o => by unfold visM; rw [updM_ne h1, updM_same]
  have vo : ∀ o, visM qp qo M0 o qo = some (.lst (o.map natD)) := fun o => updM_same
  have vh : ∀ o, visM qp qo M0 o qh = some (.lst (held.map bunD)) := fun o => by unfold visM; rw [updM_ne h3, updM_ne h2]; exact hh
  walk_at "w"
  refine wr_inF' (k := .num (k : Nat)) (neg := false) (.inr ⟨qp, rfl, vp o⟩) ?_
  rw [pl_val]
  obtain ⟨d, rfl⟩ : ∃ d', d = d' + 1 := by
    cases d with
    | zero => exact absurd hdeep id
    | succ d => exact ⟨d, rfl⟩
  obtain ⟨b, hb, hparts⟩ := hdeep
  refine ⟨_, rfl, ?_⟩
  by_cases hk : k ∈ o
  · have e1 : visF held (d + 1) k o = o := by rw [visF, if_pos hk]
    rw [e1] at q
    have e2 : ((atN o k 0).map natD).isSome = true := by
      rw [Option.isSome_map]
      cases e : atN o k 0 with
      | none => exact absurd hk (atN_none.mp e)
      | some i => rfl
    rw [if_pos (by simpa using e2)]
    refine ws_retN ?_
    exact q
  have e2 : ((atN o k 0).map natD).isSome = false := by rw [atN_none.mpr hk]; rfl
  rw [if_neg (by simp [e2])]
  walk_at "w"
  refine wc_lenQ (.inl (.inr ⟨qo, rfl, vo o⟩)) ?_
  walk_at "w"
  have hlo := hv.len
  refine wset_leaf (k := .num (k : Nat)) (vp o) (by rw [pl_len]; omega) ?_
  rw [show DV.i ((o.map natD).length : Nat) = natD o.length by rw [List.length_map]; rfl, pl_put hk]
  have s1 : updM (visM qp qo M0 o) qp (dlM (plF (o ++ [k]) 0)) qo = some (.lst (o.map natD)) := by rw [updM_ne (Ne.symm h1)]; exact vo o
  walk_at "w"
  refine ⟨tyOk_lst (.inr ⟨qo, rfl, s1⟩), ?_⟩
  walk_at "w"
  refine wm_appendT s1 (by rw [List.length_map]; omega) ?_
  have s2 : updM (updM (visM qp qo M0 o) qp (dlM (plF (o ++ [k]) 0))) qo (.lst (o.map natD ++ [natD k])) = visM qp qo M0 (o ++ [k]) := by
    unfold visM
    rw [updM_comm (Ne.symm h1), updM_upd, updM_upd, List.map_append]
    rfl
  rw [s2]
  have hv2 := hv.snoc hk (get_lt hb)
  have fb := hs b (List.mem_of_getElem? hb)
  walk_at "w"
  refine wr_atN (.inr ⟨qh, rfl, vh _⟩) (by rw [List.getElem?_map, hb]; rfl) ?_
  unfold bunD
  walk_at "w"
  refine loop_SE (β := List Nat) [4, 5, 6] (fun o' => visM qp qo M0 o') (fun i o' => o' = (b.2.take i).foldl (fun o e => e.2.foldl (fun o p => visF held d p o) o) (o ++ [k]) ∧ Vis held o') (b0 := o ++ [k]) ⟨rfl, hv2⟩ (fun i dd o1 hi ho1 => ?_) fun ρ2 o1 hρ ho1 => ?_
  · obtain ⟨e, he, rfl⟩ : ∃ e, b.2[i]? = some e ∧ dd = entD e := by
      rw [List.getElem?_map] at hi
      cases e : b.2[i]? with
      | none => rw [e] at hi; cases hi
      | some x => rw [e] at hi; cases hi; exact ⟨x, rfl, rfl⟩
    have hem := List.mem_of_getElem? he
    obtain ⟨rfl, hv3⟩ := ho1
    unfold entD natsD
    walk_at "w"
    generalize ho1 : (b.2.take i).foldl (fun o e => e.2.foldl (fun o p => visF held d p o) o) (o ++ [k]) = o1 at *
    refine loop_SE (β := List Nat) [6] (fun o' => visM qp qo M0 o') (fun j o' => o' = (e.2.take j).foldl (fun o p => visF held d p o) o1 ∧ Vis held o') (b0 := o1) ⟨rfl, hv3⟩ (fun j dj o2 hj ho2 => ?_) fun ρ2 o2 hρ ho2 => ?_
    · obtain ⟨p, hp, rfl⟩ : ∃ p, e.2[j]? = some p ∧ dj = natD p := by
        rw [List.getElem?_map] at hj
        cases e : e.2[j]? with
        | none => rw [e] at hj; cases hj
        | some x => rw [e] at hj; cases hj; exact ⟨x, rfl, rfl⟩
      have hpm := List.mem_of_getElem? hp
      obtain ⟨rfl, hv4⟩ := ho2
      walk_at "w"
      refine ⟨qh, qp, qo, p, d, M0, held, _, rfl, rfl, by omega, by omega, h1, h2, h3, hh, hl, hparts e hem p hpm, hv4, hs, ?_⟩
      walk_at "w"
      refine ⟨by dsimp only [wipe2, List.set], _, ⟨?_, visF_vis hv4⟩, rfl⟩
      rw [take_succ_get hp, List.foldl_append]
      rfl
    obtain ⟨rfl, hv4⟩ := ho2
    refine ⟨(wipe2_of1 (i := 6) (is := [4, 5, 6]) (by decide) hρ).trans rfl, _, ⟨?_, hv4⟩, rfl⟩
    rw [take_succ_get he, List.foldl_append, ho1, List.length_map, List.take_length]
    rfl
  · obtain ⟨rfl, hv3⟩ := ho1
    have e1 : visF held (d + 1) k o = b.2.foldl (fun o e => e.2.foldl (fun o p => visF held d p o) o) (o ++ [k]) := by rw [visF, if_neg hk, hb]
    rw [e1] at q
    rw [List.length_map, List.take_length]
    exact q
theorem ok_visit (T : Tx K mg a) : FnOk P w K mg base CX0 19 a.f_visit a.d_visit ["held", "number", "places", "order"] (lift ⟨P, w, K⟩ (sp_visit 9)) := okr_visit T 9
def sp_moved : Sp2 := fun ds M Q2 _ => ∃ qp parts o, ds = [natsD parts, .r qp] ∧ M qp = some (dlM (plF o 0)) ∧ (∀ p ∈ parts, p ∈ o) ∧ parts.length ≤ 10000 ∧ Q2 (natsD (movF o parts)) M
theorem ok_moved (T : Tx K mg a) : FnOk P w K mg base CX0 3 a.f_moved a.d_moved ["parts", "places"] (lift ⟨P, w, K⟩ (sp_moved)) := by
  refine okD T.F_moved sc_moved (fun ds M Q2 E2 h => by obtain ⟨qp, parts, o, rfl, _⟩ := h; rfl) fun cdv A outer s H E G Fr ds M Q2 E2 hr h => ⟨_, (pss_one (ps_ret (pe_callTy (k_tup (K := K) rfl) rfl T.z_tuple bt_tuple (pa_cons (pe_lc (own := [("part", 2)]) (g := gName 2) rfl sc_moved.nd (k_seq (K := K) rfl (pv 0)) (blkOk_by (N := N_moved) (own := [("part", 2)]) (sc := defScope s_moved) (by first | decide +kernel | kernel_rfl)) (fun _ _ _ _ _ => (pg_name (i := 2) sc_moved.nd rfl (Or.inl rfl))) (fun _ _ _ _ _ => pts_nil) (fun _ _ _ _ _ => (pe_ix (ix_leaf (W := ⟨P, w, K⟩) rfl rfl) (pv 1) (pv 2) (fun _ _ => rfl)))) pa_nil)))), ?_⟩
  obtain ⟨qp, parts, o, rfl, hm, hall, hl, q⟩ := h
  refine ws_start (ρ' := [some _, some _, none]) rfl ?_
  unfold natsD
  walk_at "w"
  refine comp_mapT natD (fun p => natD ((atN o p 0).getD 0)) parts [] (le_size (by simp; omega)) (fun p hp F k2 hk2 => ?_) ?_
  · walk_at "w"
    obtain ⟨i, hi⟩ : ∃ i, atN o p 0 = some i := by
      cases e : atN o p 0 with
      | none => exact absurd (hall p hp) (atN_none.mp e)
      | some i => exact ⟨i, rfl⟩
    refine wr_ixF (k := .num (p : Nat)) (.inr ⟨qp, rfl, hm⟩) (by rw [pl_val, hi]; rfl) ?_
    rw [hi] at hk2
    exact hk2
  rw [List.nil_append]
  walk_at "w"
  have e1 : DV.tup (parts.map fun p => natD ((atN o p 0).getD 0)) = natsD (movF o parts) := by unfold natsD movF; rw [List.map_map]; rfl
  rw [← e1] at q
  exact q
def topsD : Option (List Nat) → DV
  | none => .n
  | some l => natsD l
def foldD (cF : Addr) (dT : DV) (bs : List Bun) (ts : Option (List Nat)) : DV := .obj cF ["shape", "held", "roots"] [dT, .lst (bs.map bunD), topsD ts]
/-- Fold(..) -/
def sp_finit (a : Ad) : Sp2 := fun ds M Q2 _ => ∃ x d1 d2 d3, ds = [.r x, d1, d2, d3] ∧ M x = some (.ins a.c_Fold [] []) ∧ Q2 .n (updM M x (.ins a.c_Fold ["shape", "held", "roots"] [d1, d2, d3]))
theorem ok_Fold_o___init__ (T : Tx K mg a) : FnOk P w K mg base CX0 3 a.f_Fold_o___init__ a.d_Fold_o___init__ ["self", "tree", "bunches", "tops"] (lift ⟨P, w, K⟩ (sp_finit a)) := by
  refine okD T.F_Fold_o___init__ sc_Fold_o___init__ (fun ds M Q2 E2 h => by obtain ⟨x, d1, d2, d3, rfl, _⟩ := h; rfl) fun cdv A outer s H E G Fr ds M Q2 E2 hr h => ⟨_, (pss_cons (k_sfld (K := K) rfl (pv 0) (pv 1) rfl) (pss_cons (k_sfld (K := K) rfl (pv 0) (pv 2) rfl) (pss_one (k_sfld (K := K) rfl (pv 0) (pv 3) rfl)))), ?_⟩
  obtain ⟨x, d1, d2, d3, rfl, hx, q⟩ := h
  have cl_Fold := T.cl_Fold
  have na_Fold_shape := T.na_Fold_o_shape
  have na_Fold_held := T.na_Fold_o_held
  have na_Fold_roots := T.na_Fold_o_roots
  refine ws_start (ρ' := [some _, some _, some _, some _]) rfl ?_
  walk_at "w"
  rw [updM_upd, updM_upd]
  exact q
theorem we_fold {a : Ad} {Z : Zn} {ρ : Ro} {M : Mu} {tx : TA} {Q2 : DQ} {E : XK} {E2 : XK2} (hx : XcOk Z E2 E) (h : WA Z tx ρ M fun es M1 => ∃ d1 d2 d3, es = [d1, d2, d3] ∧ Q2 (.obj a.c_Fold ["shape", "held", "roots"] [d1, d2, d3]) M1) :
    WE Z (tMake a.c_Fold (lift Z.W (sp_finit a)) [] E tx) ρ M Q2 := we_makeF hx (h.imp fun es M1 ⟨d1, d2, d3, ee, q⟩ x h0 => by
      subst ee
      refine ⟨x, d1, d2, d3, rfl, updM_same, rfl, _, updM_same, trivial, ?_⟩
      rw [updM_upd, delM_updM h0]
      exact q)
def toptD : Option (List (Option Nat)) → DV
  | none => .n
  | some l => onesD l
def sp_pfold (a : Ad) (W : Wd) : Sp2 := fun ds M Q2 _ => ∃ x qn qh ps held M0 d tops, ds = [.r x, toptD tops] ∧ M = poolM a W ps x qn qh held M0 ∧ x ≠ qn ∧ x ≠ qh ∧ qn ≠ qh ∧ d ≤ 8 ∧ held.length ≤ 10000 ∧ (∀ b ∈ held, b.2.length ≤ 10000 ∧ ∀ e ∈ b.2, e.2.length ≤ 1000) ∧
  (∀ l, tops = some l → l.length ≤ 1000 ∧ ∀ p, some p ∈ l → deepB held d p) ∧
  Q2 (foldD a.c_Fold (treeD a.c_Tree ps) (foldP held d (tops.bind allSome)).1 (foldP held d (tops.bind allSome)).2) M
theorem ok_Pool_o_fold (T : Tx K mg a) : FnOk P w K mg base CX0 22 a.f_Pool_o_fold a.d_Pool_o_fold ["self", "tops"] (lift ⟨P, w, K⟩ (sp_pfold a ⟨P, w, K⟩)) := by
  refine okD T.F_Pool_o_fold sc_Pool_o_fold (fun ds M Q2 E2 h => by obtain ⟨x, qn, qh, ps, held, M0, d, tops, rfl, _⟩ := h; rfl) fun cdv A outer s H E G Fr ds M Q2 E2 hr h => ⟨_, (pss_cons (ps_if (PW.pt (pw_or (pt_cmpR op_isNA (pv 1) pe_non (nomark _)) (pw_or1 (pt_cmpR (k_inU (K := K) rfl (hu65 hr)) pe_non (pv 1) rfl)))) (pss_one (ps_ret (pe_make T.mk_Fold (ok_Fold_o___init__ (P := P) (w := w) (K := K) (base := base) T) (hr.mono (by decide)) rfl T.gc_Fold T.b_Fold_o___init__ .nil passZ (pa_cons (k_fld (K := K) rfl (pv 0) rfl) (pa_cons (pe_lst pa_nil) (pa_cons pe_non pa_nil)))))) pss_nil) (pss_cons (ps_set (i := 2) sc_Pool_o_fold.nd rfl (Or.inr rfl) (pe_dnewF (W := ⟨P, w, K⟩) rfl rfl)) (pss_cons (ps_set (i := 3) sc_Pool_o_fold.nd rfl (Or.inl rfl) (pe_lstM pa_nil)) (pss_cons (ps_for PassesOwn.never rfl (k_seq (K := K) rfl (pv 1)) (pg_name (i := 4) sc_Pool_o_fold.nd rfl (Or.inl rfl)) (pss_one (ps_expr (pe_call (ok_visit (P := P) (w := w) (K := K) (base := base) T) (hr.mono (by decide)) rfl T.g_visit T.k_visit T.b_visit .nil passZ (pa_cons (k_fld (K := K) rfl (pv 0) rfl) (pa_cons (pv 4) (pa_cons (pv 2) (pa_cons (pv 3) pa_nil)))))))) (pss_cons (ps_set (i := 5) sc_Pool_o_fold.nd rfl (Or.inl rfl) (pe_lstM pa_nil)) (pss_cons (ps_stop (ps_for PassesOwn.never rfl (k_ls (K := K) rfl (pv 3)) (pg_name (i := 6) sc_Pool_o_fold.nd rfl (Or.inl rfl)) (pss_cons (ps_asg (pe_ix (k_ix (K := K) rfl) (k_fld (K := K) rfl (pv 0) rfl) (pv 6) (fun _ _ => rfl)) (k_gtup (K := K) rfl rfl (pgs_cons (pg_name (i := 7) sc_Pool_o_fold.nd rfl (Or.inl rfl)) (pgs_cons (pg_name (i := 8) sc_Pool_o_fold.nd rfl (Or.inl rfl)) pgs_nil)))) (pss_one (ps_expr (k_bm (K := K) rfl PySem.F.plainAttrs_list PySem.F.slot_list_append PySem.F.type_list_append mt_append (pv 5) (pa_cons (pe_tup (pa_cons (pv 7) (pa_cons (pe_lc (own := [("value", 9), ("parts", 10)]) (g := gTup K 2 (gCons (gName 9) (gCons (gName 10) gNil))) rfl sc_Pool_o_fold.nd (k_ls (K := K) rfl (pv 8)) (blkOk_by (N := N_Pool_o_fold) (own := [("value", 9), ("parts", 10)]) (sc := defScope s_Pool_o_fold) (by first | decide +kernel | kernel_rfl)) (fun _ _ _ _ _ => (k_gtup (K := K) rfl rfl (pgs_cons (pg_name (i := 9) sc_Pool_o_fold.nd rfl (Or.inl rfl)) (pgs_cons (pg_name (i := 10) sc_Pool_o_fold.nd rfl (Or.inl rfl)) pgs_nil)))) (fun _ _ _ _ _ => pts_nil) (fun _ _ _ _ _ => (pe_tup (pa_cons (pv 9) (pa_cons (pe_call (ok_moved (P := P) (w := w) (K := K) (base := base) T) (hr.mono (by decide)) rfl T.g_moved T.k_moved T.b_moved .nil passZ (pa_cons (pv 10) (pa_cons (pv 2) pa_nil))) pa_nil))))) pa_nil))) pa_nil))))))) (pss_one (ps_stop (ps_ret (pe_make T.mk_Fold (ok_Fold_o___init__ (P := P) (w := w) (K := K) (base := base) T) (hr.mono (by decide)) rfl T.gc_Fold T.b_Fold_o___init__ .nil passZ (pa_cons (k_fld (K := K) rfl (pv 0) rfl) (pa_cons (pv 5) (pa_cons (pe_call (ok_moved (P := P) (w := w) (K := K) (base := base) T) (hr.mono (by decide)) rfl T.g_moved T.k_moved T.b_moved .nil passZ (pa_cons (pv 1) (pa_cons (pv 2) pa_nil))) pa_nil))))))))))))), ?_⟩
  obtain ⟨x, qn, qh, ps, held, M0, d, tops, rfl, rfl, h1, h2, h3, hd, hl, hs, ht, q⟩ := h
  have cl_Pool := T.cl_Pool
  have na_Pool_shape := T.na_Pool_o_shape
  have na_Pool_held := T.na_Pool_o_held
  refine ws_start (ρ' := [some _, some _, none, none, none, none, none, none, none, none, none]) rfl ?_
  have px := pool_x (a := a) (W := ⟨P, w, K⟩) (ps := ps) (held := held) (M0 := M0) h1 h2
  have ph := pool_h (a := a) (W := ⟨P, w, K⟩) (ps := ps) (x := x) (qn := qn) (qh := qh) (held := held) (M0 := M0)
  refine ws_weakR ?_
  walk_at "w"
  cases tops with
  | none =>
    refine if_tt rfl (if_tt rfl ?_)
    refine ws_ret (we_fold xcF ?_)
    walk_at "w"
    refine ⟨_, _, _, _, ObjOf.mu px, cl_Pool, na_Pool_shape, rfl, ?_⟩
    walk_at "w"
    exact ⟨_, _, _, rfl, _, MLe.rfl, q⟩
  | some ts =>
    refine if_ff rfl ?_
    rw [show toptD (some ts) = .tup (ts.map oneD) from rfl]
    walk_at "w"
    refine wr_inU (.inl rfl) rfl (pln_ones _) (by decide) (Nat.le_trans (dep_ones _) (by decide)) fun b hb => ?_
    rw [ones_none] at hb
    walk_at "w"
    refine if_b (fun eb => ?_) fun eb => ?_
    · have e1 : allSome ts = none := allSome_none.mpr (hb.mp eb)
      have e2 : (some ts).bind allSome = none := e1
      rw [e2] at q
      refine ws_ret (we_fold xcF ?_)
      walk_at "w"
      refine ⟨_, _, _, _, ObjOf.mu px, cl_Pool, na_Pool_shape, rfl, ?_⟩
      walk_at "w"
      exact ⟨_, _, _, rfl, _, MLe.rfl, q⟩
    cases hns : allSome ts with
    | none => rw [hb.mpr (allSome_none.mp hns)] at eb; cases eb
    | some ns =>
    obtain ⟨ht1, ht2⟩ := ht ts rfl
    have e2 : (some ts).bind allSome = some ns := hns
    rw [e2] at q
    have ets := allSome_some hns
    subst ets
    rw [show DV.tup ((ns.map some).map oneD) = DV.tup (ns.map natD) from onesD_some ns]
    refine ws_next ?_
    walk_at "w"
    refine we_dnewF fun qp hqp => ?_
    walk_at "w"
    intro qo hqo0
    obtain ⟨n1, hqo⟩ := updM_none hqo0
    have n1' := Ne.symm n1
    have nhp : qh ≠ qp := fun e => by rw [← e, ph] at hqp; cases hqp
    have nxp : x ≠ qp := fun e => by rw [← e, px] at hqp; cases hqp
    have nho : qh ≠ qo := fun e => by rw [← e, ph] at hqo; cases hqo
    have nxo : x ≠ qo := fun e => by rw [← e, px] at hqo; cases hqo
    have vx : ∀ o, visM qp qo (poolM a ⟨P, w, K⟩ ps x qn qh held M0) o x = some (.ins a.c_Pool ["shape", "numbers", "held"] [treeD a.c_Tree ps, .r qn, .r qh]) := fun o => by unfold visM; rw [updM_ne nxo, updM_ne nxp]; exact px
    rw [show updM (updM (poolM a ⟨P, w, K⟩ ps x qn qh held M0) qp (dlM [])) qo (.lst []) = visM qp qo (poolM a ⟨P, w, K⟩ ps x qn qh held M0) [] from rfl]
    walk_at "w"
    refine loop_K (β := List Nat) [4] (fun o => visM qp qo (poolM a ⟨P, w, K⟩ ps x qn qh held M0) o) (fun i o => o = (ns.take i).foldl (fun o p => visF held d p o) [] ∧ Vis held o) (b0 := []) ⟨rfl, List.nodup_nil, fun _ h => by cases h⟩ (fun i dd o hi ho => ?_) fun o ho => ?_
    · obtain ⟨p, hp, rfl⟩ : ∃ p, ns[i]? = some p ∧ dd = natD p := by
        rw [List.getElem?_map] at hi
        cases e : ns[i]? with
        | none => rw [e] at hi; cases hi
        | some x => rw [e] at hi; cases hi; exact ⟨x, rfl, rfl⟩
      have hpm := List.mem_of_getElem? hp
      obtain ⟨rfl, hv⟩ := ho
      walk_at "w"
      refine ⟨_, _, _, _, ObjOf.mu (vx _), cl_Pool, na_Pool_held, rfl, ?_⟩
      walk_at "w"
      refine ⟨qh, qp, qo, p, d, _, held, _, rfl, rfl, by omega, by omega, n1', nhp, nho, ph, hl, ht2 p (List.mem_map.mpr ⟨p, hpm, rfl⟩), hv, hs, ?_⟩
      walk_at "w"
      refine ⟨by dsimp only [wipe2, List.set], _, ⟨?_, visF_vis hv⟩, rfl⟩
      rw [take_succ_get hp, List.foldl_append]
      rfl
    rw [List.length_map, List.take_length] at ho
    obtain ⟨eo, hv⟩ := ho
    walk_at "w"
    intro qb hqb
    walk_at "w"
    refine ws_stop ?_
    obtain ⟨nb1, hqb1⟩ := updM_none hqb
    obtain ⟨nb2, hqb2⟩ := updM_none hqb1
    have e5 : updM (visM qp qo (poolM a ⟨P, w, K⟩ ps x qn qh held M0) o) qb (.lst []) = updM (updM (updM (poolM a ⟨P, w, K⟩ ps x qn qh held M0) qp (dlM (plF o 0))) qb (.lst [])) qo (.lst (o.map natD)) := updM_comm (Ne.symm nb1)
    have hqo2 : updM (updM (poolM a ⟨P, w, K⟩ ps x qn qh held M0) qp (dlM (plF o 0))) qb (.lst []) qo = none := by rw [updM_ne (Ne.symm nb1), updM_ne n1]; exact hqo
    rw [e5]
    refine ws_frzL 3 rfl updM_same ?_
    rw [delM_updM hqo2]
    have vok : VisOk held ns [] o := by rw [eo]; exact vis_all fun p hp => ht2 p (List.mem_map.mpr ⟨p, hp, rfl⟩)
    have hlo := hv.len
    have hqb1' : updM (poolM a ⟨P, w, K⟩ ps x qn qh held M0) qp (dlM (plF o 0)) qb = none := hqb1
    generalize hPM : poolM a ⟨P, w, K⟩ ps x qn qh held M0 = PM at *
    have vx2 : ∀ bs, updM (updM PM qp (dlM (plF o 0))) qb (.lst bs) x = some (.ins a.c_Pool ["shape", "numbers", "held"] [treeD a.c_Tree ps, .r qn, .r qh]) := fun bs => by
      rw [updM_ne (fun e => by rw [e, hqb2] at px; cases px), updM_ne nxp]; exact px
    have vh2 : ∀ bs, updM (updM PM qp (dlM (plF o 0))) qb (.lst bs) qh = some (.lst (held.map bunD)) := fun bs => by
      rw [updM_ne (fun e => by rw [e, hqb2] at ph; cases ph), updM_ne nhp]; exact ph
    have vp2 : ∀ bs, updM (updM PM qp (dlM (plF o 0))) qb (.lst bs) qp = some (dlM (plF o 0)) := fun bs => by
      rw [updM_ne (Ne.symm nb2), updM_same]
    walk_at "w"
    refine loop_K (β := List Bun) [6, 7, 8, 9, 10] (fun bs => updM (updM PM qp (dlM (plF o 0))) qb (.lst (bs.map bunD))) (fun i bs => bs = (o.take i).filterMap fun k => (held[k]?).map (movB o)) (b0 := []) rfl (fun i dd bs hi hbs => ?_) fun bs hbs => ?_
    · obtain ⟨k, hk, rfl⟩ : ∃ k, o[i]? = some k ∧ dd = natD k := by
        rw [List.getElem?_map] at hi
        cases e : o[i]? with
        | none => rw [e] at hi; cases hi
        | some x => rw [e] at hi; cases hi; exact ⟨x, rfl, rfl⟩
      have hkm := List.mem_of_getElem? hk
      obtain ⟨b, hb⟩ : ∃ b, held[k]? = some b := ⟨_, List.getElem?_eq_getElem (hv.2 k hkm)⟩
      have hbm := List.mem_of_getElem? hb
      have hbl : bs.length ≤ 10000 := by
        rw [hbs]
        have := List.length_filterMap_le (fun k => (held[k]?).map (movB o)) (o.take i)
        rw [List.length_take] at this
        omega
      obtain ⟨hs1, hs2⟩ := hs b hbm
      have hcl := vok.cld k hkm (List.not_mem_nil) b hb
      walk_at "w"
      refine ⟨_, _, _, _, ObjOf.mu (vx2 _), cl_Pool, na_Pool_held, rfl, ?_⟩
      walk_at "w"
      refine wr_atN (.inr ⟨qh, rfl, vh2 _⟩) (by rw [List.getElem?_map, hb]; rfl) ?_
      rw [show bunD b = .tup [.s b.1, .lst (b.2.map entD)] from rfl]
      walk_at "w"
      refine comp_mapT entD (fun e => entD (e.1, movF o e.2)) b.2 [] (le_size (by simp; omega)) (fun e he F k2 hk2 => ?_) ?_
      · rw [show entD e = .tup [.i e.1, natsD e.2] from rfl]
        have := hs2 e he
        walk_at "w"
        refine ⟨qp, e.2, o, rfl, vp2 _, hcl e he, by omega, ?_⟩
        walk_at "w"
        exact hk2
      rw [List.nil_append]
      walk_at "w"
      refine ⟨by dsimp only [wipe2, List.set], bs ++ [movB o b], ?_, ?_⟩
      · rw [take_succ_get hk, List.filterMap_append, hbs]
        simp [hb]
      · rw [List.map_append, List.map_singleton]
        unfold movB bunD
        rw [List.map_map]
        rfl
    rw [List.length_map, List.take_length] at hbs
    refine ws_stop ?_
    refine ws_frzL 5 rfl updM_same ?_
    rw [delM_updM hqb1']
    refine ws_ret (we_fold xcF ?_)
    walk_at "w"
    refine ⟨_, _, _, _, ObjOf.mu (by rw [updM_ne nxp]; exact px), cl_Pool, na_Pool_shape, rfl, ?_⟩
    walk_at "w"
    refine ⟨qp, ns, o, rfl, updM_same, vok.all, by rw [List.length_map] at ht1; omega, ?_⟩
    walk_at "w"
    refine ⟨_, _, _, rfl, PM, MLe.dropN hqp, ?_⟩
    rw [hbs, eo]
    exact q
theorem zip2_get {α β : Type} {f : α → DV} {g : β → DV} : ∀ {xs : List α} {ys : List β} {i : Nat} {d : DV}, (zip2D (xs.map f) (ys.map g))[i]? = some d → ∃ x y, xs[i]? = some x ∧ ys[i]? = some y ∧ d = .tup [f x, g y]
  | [], ys, i, d, h => by simp [zip2D] at h
  | x :: xs, [], i, d, h => by simp [zip2D] at h
  | x :: xs, y :: ys, 0, d, h => by
    simp [zip2D] at h
    exact ⟨x, y, rfl, rfl, h.symm⟩
  | x :: xs, y :: ys, i + 1, d, h => by
    have h2 : (zip2D (xs.map f) (ys.map g))[i]? = some d := by simpa [zip2D] using h
    obtain ⟨a, b, h3, h4, h5⟩ := zip2_get h2
    exact ⟨a, b, by simpa using h3, by simpa using h4, h5⟩
def sp_ispart : Sp2 := fun ds M Q2 _ => ∃ parts cs raw, ds = [natsD parts, .lst (cs.map DV.s), .i (cs.length : Nat), .lst (raw.map bunD)] ∧ cs.length ≤ 1000 ∧ raw.length ≤ 10000 ∧ PartR raw cs parts ∧ Q2 (.b true) M
theorem ok_is_part (T : Tx K mg a) : FnOk P w K mg base CX0 6 a.f_is_part a.d_is_part ["thing", "columns", "many", "bunches"] (lift ⟨P, w, K⟩ (sp_ispart)) := by
  refine okD T.F_is_part sc_is_part (fun ds M Q2 E2 h => by obtain ⟨parts, cs, raw, rfl, _⟩ := h; rfl) fun cdv A outer s H E G Fr ds M Q2 E2 hr h => ⟨_, (pss_cons (ps_if (PW.pt (pw_or (pt_not (pt_val (pe_callB (k_isi (K := K) rfl) rfl T.z_isinstance bt_isinstance (pa_cons (pv 0) (pa_cons (pe_bltn (v := .ty "tuple") rfl T.z_tuple bt_tuple rfl) pa_nil))))) (pw_or1 (pt_cmpR (k_ne (K := K) rfl (hu64 hr)) (pe_callB (k_len (K := K) rfl) rfl T.z_len bt_len (pa_cons (pv 0) pa_nil)) (pv 2) (nomark _))))) (pss_one (ps_ret pe_bl)) pss_nil) (pss_cons (ps_for PassesOwn.never rfl (pi_zip2 (K := K) rfl rfl T.z_zip (pa_cons (pv 0) (pa_cons (pv 1) pa_nil))) (k_gtup (K := K) rfl rfl (pgs_cons (pg_name (i := 4) sc_is_part.nd rfl (Or.inl rfl)) (pgs_cons (pg_name (i := 5) sc_is_part.nd rfl (Or.inl rfl)) pgs_nil))) (pss_cons (ps_if (PW.pt (pw_or (pt_not (pt_val (pe_call (ok_is_value (P := P) (w := w) (K := K) (base := base) T) (hr.mono (by decide)) rfl T.g_is_value T.k_is_value T.b_is_value .nil passZ (pa_cons (pv 4) pa_nil)))) (pw_or1 (pt_not (pt_chain op_le op_lt pe_int (pv 4) (pe_callB (k_len (K := K) rfl) rfl T.z_len bt_len (pa_cons (pv 3) pa_nil))))))) (pss_one (ps_ret pe_bl)) pss_nil) (pss_cons (ps_set (i := 6) sc_is_part.nd rfl (Or.inl rfl) (pe_ix (k_ix (K := K) rfl) (pv 3) (pv 4) (fun _ _ => rfl))) (pss_one (ps_if (PW.pt (pw_or (pt_not (pt_val (pe_callB (k_isi (K := K) rfl) rfl T.z_isinstance bt_isinstance (pa_cons (pv 6) (pa_cons (pe_bltn (v := .ty "tuple") rfl T.z_tuple bt_tuple rfl) pa_nil))))) (pw_or (pt_cmpR (k_ne (K := K) rfl (hu64 hr)) (pe_callB (k_len (K := K) rfl) rfl T.z_len bt_len (pa_cons (pv 6) pa_nil)) pe_int (nomark _)) (pw_or1 (pt_cmpR (k_ne (K := K) rfl (hu64 hr)) (pe_ix (k_ix (K := K) rfl) (pv 6) pe_int (fun _ _ => rfl)) (pv 5) (nomark _)))))) (pss_one (ps_ret pe_bl)) pss_nil))))) (pss_one (ps_ret pe_bl)))), ?_⟩
  obtain ⟨parts, cs, raw, rfl, hc, hr1, hp, q⟩ := h
  refine ws_start (ρ' := [some _, some _, some _, some _, none, none, none]) rfl ?_
  have hlen := hp.len
  unfold natsD
  walk_at "w"
  rw [decV]
  refine if_ff (by rw [decide_eq_true (by rw [hlen])]; rfl) ?_
  walk_at "w"
  refine wi_zip2 ?_
  walk_at "w"
  refine ⟨_, _, _, _, rfl, .inr rfl, .inl rfl, ?_⟩
  refine loop_KF [4, 5, 6] (fun _ => True) trivial (fun i d hi _ => ?_) fun _ => ?_
  · obtain ⟨p, c, h1, h2, rfl⟩ := zip2_get hi
    obtain ⟨b, hb, rfl⟩ := hp.get h1 h2
    have hpl := get_lt hb
    walk_at "w"
    refine ⟨.i (p : Nat), .int, rfl, rfl, true, rfl, ?_⟩
    refine if_ff rfl ?_
    walk_at "w"
    refine wr_atN (.inl rfl) (by rw [List.getElem?_map, hb]; rfl) ?_
    rw [show bunD b = .tup [.s b.1, .lst (b.2.map entD)] from rfl]
    walk_at "w"
    exact ⟨by dsimp only [wipe2, List.set], rfl, trivial⟩
  · walk_at "w"
    exact q
def lastD : Option Int → DV
  | none => .n
  | some i => .i i
def lastF (es : List Ent) : Option Int := es.getLast?.map Prod.fst
theorem last_lt {es : List Ent} {i : Nat} {e : Ent} {v : Int} (h : es.Pairwise (fun e f => e.1 < f.1)) (he : es[i]? = some e) (hl : lastF (es.take i) = some v) : v < e.1 := by
  have h2 : es.take (i + 1) = es.take i ++ [e] := take_succ_get he
  have h3 := h.sublist (List.take_sublist (i + 1) es)
  rw [h2, List.pairwise_append] at h3
  unfold lastF at hl
  rw [Option.map_eq_some_iff] at hl
  obtain ⟨f, hf, rfl⟩ := hl
  exact h3.2.2 f (List.mem_of_getLast? hf) e List.mem_cons_self
theorem lastF_snoc (es : List Ent) (e : Ent) : lastF (es ++ [e]) = some e.1 := by unfold lastF; simp
def sp_isbunch (a : Ad) : Sp2 := fun ds M Q2 _ => ∃ ps b raw, ds = [treeD a.c_Tree ps, bunD b, .lst (raw.map bunD)] ∧ Tr ps ∧ raw.length ≤ 10000 ∧ b.1 ∈ namesOf ps ∧ EntR raw (kidsOf ps (some b.1)) b.2 ∧ b.2.length ≤ 10000 ∧ Q2 (.b true) M
theorem ok_is_bunch (T : Tx K mg a) : FnOk P w K mg base CX0 12 a.f_is_bunch a.d_is_bunch ["tree", "thing", "bunches"] (lift ⟨P, w, K⟩ (sp_isbunch a)) := by
  refine okD T.F_is_bunch sc_is_bunch (fun ds M Q2 E2 h => by obtain ⟨ps, b, raw, rfl, _⟩ := h; rfl) fun cdv A outer s H E G Fr ds M Q2 E2 hr h => ⟨_, (pss_cons (ps_if (PW.pt (pw_or (pt_not (pt_val (pe_callB (k_isi (K := K) rfl) rfl T.z_isinstance bt_isinstance (pa_cons (pv 1) (pa_cons (pe_bltn (v := .ty "tuple") rfl T.z_tuple bt_tuple rfl) pa_nil))))) (pw_or (pt_cmpR (k_ne (K := K) rfl (hu64 hr)) (pe_callB (k_len (K := K) rfl) rfl T.z_len bt_len (pa_cons (pv 1) pa_nil)) pe_int (nomark _)) (pw_or (pt_not (pt_val (pe_call (ok_is_name (P := P) (w := w) (K := K) (base := base) T) (hr.mono (by decide)) rfl T.g_is_name T.k_is_name T.b_is_name .nil passZ (pa_cons (pe_ix (k_ix (K := K) rfl) (pv 1) pe_int (fun _ _ => rfl)) pa_nil)))) (pw_or1 (pt_cmpR (k_ni (K := K) rfl (hu65 hr)) (pe_ix (k_ix (K := K) rfl) (pv 1) pe_int (fun _ _ => rfl)) (pe_meth0 (pv 0) T.cl_Tree T.m_Tree_o_columns (ok_Tree_o_columns (P := P) (w := w) (K := K) (base := base) T) (hr.mono (by decide)) T.b_Tree_o_columns .nil passZ) rfl)))))) (pss_one (ps_ret pe_bl)) pss_nil) (pss_cons (ps_if (pt_not (pt_val (pe_callB (k_isi (K := K) rfl) rfl T.z_isinstance bt_isinstance (pa_cons (pe_ix (k_ix (K := K) rfl) (pv 1) pe_int (fun _ _ => rfl)) (pa_cons (pe_bltn (v := .ty "list") rfl T.z_list bt_list rfl) pa_nil))))) (pss_one (ps_ret pe_bl)) pss_nil) (pss_cons (ps_set (i := 3) sc_is_bunch.nd rfl (Or.inl rfl) (pe_meth (pv 0) T.cl_Tree T.m_Tree_o_children (ok_Tree_o_children (P := P) (w := w) (K := K) (base := base) T) (hr.mono (by decide)) T.b_Tree_o_children .nil passF (pa_cons (pe_ix (k_ix (K := K) rfl) (pv 1) pe_int (fun _ _ => rfl)) pa_nil))) (pss_cons (ps_set (i := 4) sc_is_bunch.nd rfl (Or.inl rfl) pe_non) (pss_cons (ps_for PassesOwn.never rfl (k_ls (K := K) rfl (pe_ix (k_ix (K := K) rfl) (pv 1) pe_int (fun _ _ => rfl))) (pg_name (i := 5) sc_is_bunch.nd rfl (Or.inl rfl)) (pss_cons (ps_if (PW.pt (pw_or (pt_not (pt_val (pe_callB (k_isi (K := K) rfl) rfl T.z_isinstance bt_isinstance (pa_cons (pv 5) (pa_cons (pe_bltn (v := .ty "tuple") rfl T.z_tuple bt_tuple rfl) pa_nil))))) (pw_or (pt_cmpR (k_ne (K := K) rfl (hu64 hr)) (pe_callB (k_len (K := K) rfl) rfl T.z_len bt_len (pa_cons (pv 5) pa_nil)) pe_int (nomark _)) (pw_or1 (pt_not (pt_val (pe_call (ok_is_value (P := P) (w := w) (K := K) (base := base) T) (hr.mono (by decide)) rfl T.g_is_value T.k_is_value T.b_is_value .nil passZ (pa_cons (pe_ix (k_ix (K := K) rfl) (pv 5) pe_int (fun _ _ => rfl)) pa_nil)))))))) (pss_one (ps_ret pe_bl)) pss_nil) (pss_cons (ps_if (PW.pt (pw_or (PW.pt (pw_and (pt_cmpR op_notNA (pv 4) pe_non (nomark _)) (pw_and1 (pt_cmpR op_le (pe_ix (k_ix (K := K) rfl) (pv 5) pe_int (fun _ _ => rfl)) (pv 4) (nomark _))))) (pw_or1 (pt_not (pt_val (pe_call (ok_is_part (P := P) (w := w) (K := K) (base := base) T) (hr.mono (by decide)) rfl T.g_is_part T.k_is_part T.b_is_part .nil passZ (pa_cons (pe_ix (k_ix (K := K) rfl) (pv 5) pe_int (fun _ _ => rfl)) (pa_cons (pv 3) (pa_cons (pe_callB (k_len (K := K) rfl) rfl T.z_len bt_len (pa_cons (pv 3) pa_nil)) (pa_cons (pv 2) pa_nil)))))))))) (pss_one (ps_ret pe_bl)) pss_nil) (pss_one (ps_set (i := 4) sc_is_bunch.nd rfl (Or.inl rfl) (pe_ix (k_ix (K := K) rfl) (pv 5) pe_int (fun _ _ => rfl))))))) (pss_one (ps_ret pe_bl))))))), ?_⟩
  obtain ⟨ps, b, raw, rfl, t, hr1, hb1, hbE, hb2, q⟩ := h
  refine ws_start (ρ' := [some _, some _, some _, none, none, none]) rfl ?_
  rw [show bunD b = .tup [.s b.1, .lst (b.2.map entD)] from rfl]
  walk_at "w"
  have hnb := t.name hb1
  have hnl := name_len hnb
  refine ⟨Kn.s (by omega), true, by rw [show isNameD (.s b.1) = nameB b.1 from rfl, hnb], ?_⟩
  refine if_ff rfl ?_
  walk_at "w"
  refine if_ff (by rw [decide_eq_true ((ord_mem t).mpr hb1)]; rfl) ?_
  walk_at "w"
  refine ⟨t, .inr ⟨rfl, Kn.s (by omega), fun c hc => ?_, fun h => ?_⟩⟩
  rotate_left
  · rw [colT_s hb1] at h; cases h
  rw [colT_s hb1] at hc
  cases hc
  walk_at "w"
  have hkl : (kidsOf ps (some b.1)).length ≤ 1000 := by
    have h2 := t.len
    have h3 : (kidsOf ps (some b.1)).length ≤ ps.length := by
      unfold kidsOf
      rw [List.length_map]
      exact List.length_filter_le _ _
    omega
  refine loop_V (β := Option Int) [5] (fun last => [some (treeD a.c_Tree ps), some (.tup [.s b.1, .lst (b.2.map entD)]), some (.lst (raw.map bunD)), some (.lst ((kidsOf ps (some b.1)).map DV.s)), some (lastD last), none]) (fun _ _ => M) (fun i last => last = lastF (b.2.take i)) 0 (n := 0) (b0 := none) rfl rfl (fun i d m last hi hm hI => ?_) fun m last hm hI => ?_
  · obtain ⟨e, he, rfl⟩ : ∃ e, b.2[i]? = some e ∧ d = entD e := by
      rw [List.getElem?_map] at hi
      cases e : b.2[i]? with
      | none => rw [e] at hi; cases hi
      | some x => rw [e] at hi; cases hi; exact ⟨x, rfl, rfl⟩
    have hem := List.mem_of_getElem? he
    have hpe := hbE.2 e hem
    rw [show entD e = .tup [.i e.1, natsD e.2] from rfl]
    walk_at "w"
    refine ⟨.i e.1, .int, rfl, rfl, true, rfl, ?_⟩
    refine if_ff rfl ?_
    walk_at "w"
    cases last with
    | none =>
      refine if_ff rfl ?_
      walk_at "w"
      refine ⟨hkl, hr1, hpe, true, rfl, ?_⟩
      refine if_ff rfl ?_
      walk_at "w"
      refine ⟨0, some e.1, by dsimp only [wipe2, List.set]; rfl, Nat.zero_le _, ?_, rfl⟩
      rw [take_succ_get he, lastF_snoc]
    | some v =>
      have hv := last_lt hbE.1 he hI.symm
      refine if_tt rfl ?_
      rw [show lastD (some v) = .i v from rfl]
      walk_at "w"
      walk_at "w"
      refine ⟨hkl, hr1, hpe, true, rfl, ?_⟩
      refine if_ff rfl ?_
      walk_at "w"
      refine ⟨0, some e.1, by dsimp only [wipe2, List.set]; rfl, Nat.zero_le _, ?_, rfl⟩
      rw [take_succ_get he, lastF_snoc]
  · walk_at "w"
    exact q
def sp_atplaces : Sp2 := fun ds M Q2 _ => ∃ (q : Addr) (found : List (Option Nat)) (parts : List Nat), ds = [.r q, natsD parts] ∧ M q = some (.lst (found.map oneD)) ∧ (∀ p ∈ parts, p < found.length) ∧ parts.length ≤ 1000 ∧ Q2 (onesD (parts.map fun p => (found[p]?).getD none)) M
theorem ok_at_places (T : Tx K mg a) : FnOk P w K mg base CX0 3 a.f_at_places a.d_at_places ["found", "parts"] (lift ⟨P, w, K⟩ (sp_atplaces)) := by
  refine okD T.F_at_places sc_at_places (fun ds M Q2 E2 h => by obtain ⟨q, found, parts, rfl, _⟩ := h; rfl) fun cdv A outer s H E G Fr ds M Q2 E2 hr h => ⟨_, (pss_one (ps_ret (pe_callTy (k_tup (K := K) rfl) rfl T.z_tuple bt_tuple (pa_cons (pe_lc (own := [("part", 2)]) (g := gName 2) rfl sc_at_places.nd (k_seq (K := K) rfl (pv 1)) (blkOk_by (N := N_at_places) (own := [("part", 2)]) (sc := defScope s_at_places) (by first | decide +kernel | kernel_rfl)) (fun _ _ _ _ _ => (pg_name (i := 2) sc_at_places.nd rfl (Or.inl rfl))) (fun _ _ _ _ _ => pts_nil) (fun _ _ _ _ _ => (pe_ix (k_ix (K := K) rfl) (pv 0) (pv 2) (fun _ _ => rfl)))) pa_nil)))), ?_⟩
  obtain ⟨q, found, parts, rfl, hm, hp, hl, k⟩ := h
  refine ws_start (ρ' := [some _, some _, none]) rfl ?_
  unfold natsD
  walk_at "w"
  refine comp_mapT natD (fun p => oneD ((found[p]?).getD none)) parts [] (le_size (by simp; omega)) (fun p hpm F k2 hk2 => ?_) ?_
  · walk_at "w"
    have := hp p hpm
    refine wr_atN (.inr ⟨q, rfl, hm⟩) (e := oneD ((found[p]?).getD none)) ?_ ?_
    · rw [List.getElem?_map, List.getElem?_eq_getElem this]
      rfl
    exact hk2
  rw [List.nil_append]
  walk_at "w"
  rw [show DV.tup (parts.map fun p => oneD ((found[p]?).getD none)) = onesD (parts.map fun p => (found[p]?).getD none) by unfold onesD; rw [List.map_map]; rfl]
  exact k
theorem enum_getM {α : Type} {f : α → DV} {xs : List α} {i : Nat} {d : DV} (h : (enumD (xs.map f))[i]? = some d) : ∃ x, xs[i]? = some x ∧ d = .tup [.i (i : Nat), f x] := by
  unfold enumD at h
  rw [List.getElem?_mapIdx, List.getElem?_map] at h
  cases e : xs[i]? with
  | none => rw [e] at h; cases h
  | some x => rw [e] at h; cases h; exact ⟨x, rfl, rfl⟩
theorem pool_out {a : Ad} {W : Wd} {ps : Prs} {x qn qh qf : Addr} {held : List Bun} {M0 : Mu} {o : MO} (h1 : qf ≠ x) (h2 : qf ≠ qn) (h3 : qf ≠ qh) : updM (poolM a W ps x qn qh held M0) qf o = poolM a W ps x qn qh held (updM M0 qf o) := by
  unfold poolM
  rw [updM_comm (Ne.symm h3), updM_comm (Ne.symm h2), updM_comm (Ne.symm h1)]
theorem pool_get {a : Ad} {W : Wd} {ps : Prs} {x qn qh qf : Addr} {held : List Bun} {M0 : Mu} (h1 : qf ≠ x) (h2 : qf ≠ qn) (h3 : qf ≠ qh) : poolM a W ps x qn qh held M0 qf = M0 qf := by
  unfold poolM
  rw [updM_ne h3, updM_ne h2, updM_ne h1]
def sp_foldof (a : Ad) : Sp2 := fun ds M Q2 _ => ∃ ps m raw tops, ds = [treeD a.c_Tree ps, .lst (raw.map bunD), topsD tops] ∧ Tr ps ∧ m ≤ 1000 ∧ RawOk ps m raw ∧ (∀ l, tops = some l → PartR raw (kidsOf ps none) l) ∧
  (∀ bs ts, FoldOk ps m bs ts → rowsT bs ts = rowsT raw tops → (bs, ts) = foldT ps raw tops → Q2 (foldD a.c_Fold (treeD a.c_Tree ps) bs ts) M)
theorem ok_fold_of (T : Tx K mg a) : FnOk P w K mg base (L2.CX P w) 25 a.f_fold_of a.d_fold_of ["tree", "bunches", "tops"] (lift ⟨P, w, K⟩ (sp_foldof a)) := by
  refine okDX T.F_fold_of sc_fold_of (fun ds M Q2 E2 h => by obtain ⟨ps, m, raw, tops, rfl, _⟩ := h; rfl) fun cdv A outer s H E G Fr ds M Q2 E2 hr h hx => ⟨_, (pss_cons (ps_if (pt_not (pt_val (pe_callB (k_isi (K := K) rfl) rfl T.z_isinstance bt_isinstance (pa_cons (pv 1) (pa_cons (pe_bltn (v := .ty "list") rfl T.z_list bt_list rfl) pa_nil))))) (pss_one (ps_raise rfl (takes_of rfl rfl rfl rfl) (pmk_oex T.ox_NoFold T.iC_NoFold T.tI_NoFold (ok_NoFold_o___init__ (P := P) (w := w) (K := K) (base := base) T) (hr.mono (by decide)) T.b_NoFold_o___init__ .nil passZ rfl T.gc_NoFold (pa_cons pe_int pa_nil)))) pss_nil) (pss_cons (ps_for (passes_of rfl) rfl (k_enum (K := K) rfl rfl T.z_enumerate (pa_cons (pv 1) pa_nil)) (k_gtup (K := K) rfl rfl (pgs_cons (pg_name (i := 3) sc_fold_of.nd rfl (Or.inl rfl)) (pgs_cons (pg_name (i := 4) sc_fold_of.nd rfl (Or.inl rfl)) pgs_nil))) (pss_one (ps_if (pt_not (pt_val (pe_call (ok_is_bunch (P := P) (w := w) (K := K) (base := base) T) (hr.mono (by decide)) rfl T.g_is_bunch T.k_is_bunch T.b_is_bunch .nil passZ (pa_cons (pv 0) (pa_cons (pv 4) (pa_cons (pv 1) pa_nil)))))) (pss_one (ps_raise rfl (takes_of rfl rfl rfl rfl) (pmk_oex T.ox_NoFold T.iC_NoFold T.tI_NoFold (ok_NoFold_o___init__ (P := P) (w := w) (K := K) (base := base) T) (hr.mono (by decide)) T.b_NoFold_o___init__ .nil passZ rfl T.gc_NoFold (pa_cons (pv 3) pa_nil)))) pss_nil))) (pss_cons (ps_set (i := 5) sc_fold_of.nd rfl (Or.inl rfl) (pe_meth0 (pv 0) T.cl_Tree T.m_Tree_o_children (ok_Tree_o_children (P := P) (w := w) (K := K) (base := base) T) (hr.mono (by decide)) T.bx1_Tree_o_children.choose_spec.2 T.bx1_Tree_o_children.choose_spec.1 (passE (takes_of rfl rfl rfl rfl) fun _ _ _ _ h => h))) (pss_cons (ps_stop (ps_if (PW.pt (pw_and (pt_cmpR op_notNA (pv 2) pe_non (nomark _)) (pw_and1 (pt_not (pt_val (pe_call (ok_is_part (P := P) (w := w) (K := K) (base := base) T) (hr.mono (by decide)) rfl T.g_is_part T.k_is_part T.b_is_part .nil passZ (pa_cons (pv 2) (pa_cons (pv 5) (pa_cons (pe_callB (k_len (K := K) rfl) rfl T.z_len bt_len (pa_cons (pv 5) pa_nil)) (pa_cons (pv 1) pa_nil)))))))))) (pss_one (ps_raise rfl (takes_of rfl rfl rfl rfl) (pmk_oex T.ox_NoFold T.iC_NoFold T.tI_NoFold (ok_NoFold_o___init__ (P := P) (w := w) (K := K) (base := base) T) (hr.mono (by decide)) T.b_NoFold_o___init__ .nil passZ rfl T.gc_NoFold (pa_cons (pe_callB (k_len (K := K) rfl) rfl T.z_len bt_len (pa_cons (pv 1) pa_nil)) pa_nil)))) pss_nil)) (pss_cons (ps_set (i := 6) sc_fold_of.nd rfl (Or.inl rfl) (pe_make T.mk_Pool (ok_Pool_o___init__ (P := P) (w := w) (K := K) (base := base) T) (hr.mono (by decide)) rfl T.gc_Pool T.b_Pool_o___init__ .nil passZ (pa_cons (pv 0) pa_nil))) (pss_cons (ps_stop (ps_set (i := 7) sc_fold_of.nd rfl (Or.inr rfl) (pe_op op_mulA (pe_lst (pa_cons pe_non pa_nil)) (pe_callB (k_len (K := K) rfl) rfl T.z_len bt_len (pa_cons (pv 1) pa_nil))))) (pss_cons (ps_for (passes_of rfl) rfl (k_rvd (K := K) rfl rfl T.z_reversed (pa_cons (pe_meth0 (pv 0) T.cl_Tree T.m_Tree_o_columns (ok_Tree_o_columns (P := P) (w := w) (K := K) (base := base) T) (hr.mono (by decide)) T.b_Tree_o_columns .nil passZ) pa_nil)) (pg_name (i := 8) sc_fold_of.nd rfl (Or.inl rfl)) (pss_one (ps_for (passes_of rfl) rfl (k_enum (K := K) rfl rfl T.z_enumerate (pa_cons (pv 1) pa_nil)) (k_gtup (K := K) rfl rfl (pgs_cons (pg_name (i := 3) sc_fold_of.nd rfl (Or.inl rfl)) (pgs_cons (k_gtup (K := K) rfl rfl (pgs_cons (pg_name (i := 9) sc_fold_of.nd rfl (Or.inl rfl)) (pgs_cons (pg_name (i := 10) sc_fold_of.nd rfl (Or.inl rfl)) pgs_nil))) pgs_nil))) (pss_one (ps_if (pt_cmpR (k_eq (K := K) rfl (hu64 hr)) (pv 9) (pv 8) (nomark _)) (pss_one (ps_asg (pe_meth (pv 6) T.cl_Pool T.m_Pool_o_put (ok_Pool_o_put (P := P) (w := w) (K := K) (base := base) T) (hr.mono (by decide)) T.b_Pool_o_put .nil passZ (pa_cons (pv 8) (pa_cons (pe_lc (own := [("value", 11), ("parts", 12)]) (g := gTup K 2 (gCons (gName 11) (gCons (gName 12) gNil))) rfl sc_fold_of.nd (k_ls (K := K) rfl (pv 10)) (blkOk_by (N := N_fold_of) (own := [("value", 11), ("parts", 12)]) (sc := defScope s_fold_of) (by first | decide +kernel | kernel_rfl)) (fun _ _ _ _ _ => (k_gtup (K := K) rfl rfl (pgs_cons (pg_name (i := 11) sc_fold_of.nd rfl (Or.inl rfl)) (pgs_cons (pg_name (i := 12) sc_fold_of.nd rfl (Or.inl rfl)) pgs_nil)))) (fun _ _ _ _ _ => pts_nil) (fun _ _ _ _ _ => (pe_tup (pa_cons (pv 11) (pa_cons (pe_call (ok_at_places (P := P) (w := w) (K := K) (base := base) T) (hr.mono (by decide)) rfl T.g_at_places T.k_at_places T.b_at_places .nil passZ (pa_cons (pv 7) (pa_cons (pv 12) pa_nil))) pa_nil))))) pa_nil))) (pg_sub (pv 7) (pv 3) set_list))) pss_nil))))) (pss_cons (ps_if (pt_cmpR op_isNA (pv 2) pe_non (nomark _)) (pss_one (ps_ret (pe_meth (pv 6) T.cl_Pool T.m_Pool_o_fold (ok_Pool_o_fold (P := P) (w := w) (K := K) (base := base) T) (hr.mono (by decide)) T.b_Pool_o_fold .nil passZ (pa_cons pe_non pa_nil)))) pss_nil) (pss_one (ps_ret (pe_meth (pv 6) T.cl_Pool T.m_Pool_o_fold (ok_Pool_o_fold (P := P) (w := w) (K := K) (base := base) T) (hr.mono (by decide)) T.b_Pool_o_fold .nil passZ (pa_cons (pe_call (ok_at_places (P := P) (w := w) (K := K) (base := base) T) (hr.mono (by decide)) rfl T.g_at_places T.k_at_places T.b_at_places .nil passZ (pa_cons (pv 7) (pa_cons (pv 2) pa_nil))) pa_nil)))))))))))), ?_⟩
  obtain ⟨ps, m, raw, tops, rfl, t, hm0, hr, ht, q⟩ := h
  refine ws_start (ρ' := [some _, some _, some _, none, none, none, none, none, none, none, none, none, none]) rfl ?_
  have J := foldB_J t hr.h
  have hsz : ∀ b ∈ (foldB ps raw).1, b.2.length ≤ 10000 ∧ ∀ e ∈ b.2, e.2.length ≤ 1000 := fun b hb => by
    obtain ⟨_, h2, h3⟩ := J.hok b hb
    refine ⟨by omega, fun e he => ?_⟩
    have h4 := (h2.2 e he).len
    have h5 := kids_le (ps := ps) (o := some b.1)
    have h6 := t.len
    omega
  have hdeep : ∀ l, tops = some l → ∀ p ∈ l, ∀ n, (foldB ps raw).2[p]? = some (some n) → deepB (foldB ps raw).1 8 n := fun l hl p hp n e => by
    obtain ⟨b, hb, _⟩ := (ht l hl).mem hp
    have g := foldB_gd t hr.h hb
    unfold Gd fAt at g
    rw [e] at g
    obtain ⟨_, g1, _⟩ := g
    exact J.hok.deep t g1
  have hd : 8 ≤ 8 := Nat.le_refl _
  have q : (foldB ps raw).1.length ≤ 10000 → Q2 (foldD a.c_Fold (treeD a.c_Tree ps) (foldP (foldB ps raw).1 8 ((tops.map fun l => l.map fun p => ((foldB ps raw).2[p]?).getD none).bind allSome)).1 (foldP (foldB ps raw).1 8 ((tops.map fun l => l.map fun p => ((foldB ps raw).2[p]?).getD none).bind allSome)).2) M := fun hl => q _ _ (foldT_ok t hr.h hl ht).1 (foldT_ok t hr.h hl ht).2 rfl
  refine ws_weakR ?_
  walk_at "w"
  refine loop_KF [3, 4] (fun _ => True) trivial (fun i d hi _ => ?_) fun _ => ?_
  · obtain ⟨b, hb, rfl⟩ := enum_getM hi
    have hbm := List.mem_of_getElem? hb
    obtain ⟨b1, b2, b3⟩ := hr.bun b hbm
    have hl := hr.len
    walk_at "w"
    refine ⟨t, by omega, b1, b2, by omega, true, rfl, ?_⟩
    refine if_ff rfl ?_
    walk_at "w"
    exact ⟨by dsimp only [wipe2, List.set], rfl, trivial⟩
  walk_at "w"
  refine ⟨t, .inl ⟨rfl, ?_⟩⟩
  walk_at "w"
  have hkl : (kidsOf ps none).length ≤ 1000 := by
    have h2 := t.len
    have h3 : (kidsOf ps none).length ≤ ps.length := by
      unfold kidsOf
      rw [List.length_map]
      exact List.length_filter_le _ _
    omega
  have hl := hr.len
  refine ws_stopC (fun ρ' M' => ρ' = [some (treeD a.c_Tree ps), some (.lst (raw.map bunD)), some (topsD tops), none, none, some (.lst ((kidsOf ps none).map DV.s)), none, none, none, none, none, none, none] ∧ M' = M) ?_ ?_
  · cases tops with
    | none =>
      walk_at "w"
      exact ⟨rfl, rfl⟩
    | some l =>
      walk_at "w"
      refine ⟨hkl, by omega, ht l rfl, true, rfl, ?_⟩
      refine if_ff rfl ?_
      walk_at "w"
      exact ⟨rfl, rfl⟩
  rintro ρ' M' ⟨rfl, rfl⟩
  walk_at "w"
  refine we_make xcF ?_
  walk_at "w"
  intro x hx0
  refine ⟨x, ps, M', rfl, rfl, hx0, fun qn qh g1 g2 g3 g4 g5 => ⟨rfl, ?_⟩⟩
  walk_at "w"
  refine ws_stop (ws_asg (we_op ?_))
  refine we_lst (wa_cons (we_c (wa_nil ⟨by decide, ?_⟩)))
  refine we_cb (wa_cons (we_var rfl (wa_nil (wc_lenQ (.inl (.inl rfl)) ?_))))
  refine wr_mulM (.inl rfl) (by omega) (by rw [List.length_map]; omega) (by rw [List.length_map]; simp; exact le_size (by omega)) fun qf hqf => ?_
  rw [List.length_map, Int.toNat_natCast, show [DV.v V.non] = [DV.n] from rfl, rep_flat]
  have nfx : qf ≠ x := fun e => by rw [e, pool_x g3 g4] at hqf; cases hqf
  have nfn : qf ≠ qn := fun e => by rw [e, pool_n g5] at hqf; cases hqf
  have nfh : qf ≠ qh := fun e => by rw [e, pool_h] at hqf; cases hqf
  rw [pool_out nfx nfn nfh, show List.replicate raw.length DV.n = (List.replicate raw.length (none : Option Nat)).map oneD by rw [List.map_replicate]; rfl]
  walk_at "w"
  refine wi_rev ?_
  walk_at "w"
  rw [← List.map_reverse]
  have hol : (ord ps none).reverse.length ≤ 8 := by rw [List.length_reverse]; exact Nat.le_trans (ord_len t none) t.len
  refine loop_K (β := FSt) [8, 3, 9, 10, 11, 12] (fun st => poolM a ⟨P, w, K⟩ ps x qn qh st.1 (updM M' qf (.lst (st.2.map oneD)))) (fun i st => st = ((ord ps none).reverse.take i).foldl (colB raw) ([], List.replicate raw.length none) ∧ st.1.length ≤ i * 1000 ∧ st.2.length = raw.length) (b0 := ([], List.replicate raw.length none)) ⟨rfl, Nat.zero_le _, List.length_replicate⟩ (fun i dd st hi hst => ?_) fun st hst => ?_
  · obtain ⟨c, hc, rfl⟩ := map_getS hi
    have hkb : ∀ o, (kidsOf ps o).length ≤ 8 := fun o => Nat.le_trans kids_le t.len
    have hi8 : i < 8 := by have := get_lt hc; omega
    obtain ⟨est, hs1, hs2⟩ := hst
    walk_at "w"
    refine loop_SE (β := FSt) [3, 9, 10, 11, 12] (fun st => poolM a ⟨P, w, K⟩ ps x qn qh st.1 (updM M' qf (.lst (st.2.map oneD)))) (fun j st' => st' = (raw.zipIdx.take j).foldl (stepB c) st ∧ st'.1.length ≤ i * 1000 + j ∧ st'.2.length = raw.length) (b0 := st) ⟨rfl, hs1, hs2⟩ (fun j dj st' hj hst' => ?_) fun ρ2 st' hρ hst' => ?_
    · obtain ⟨b, hb, rfl⟩ := enum_getM hj
      obtain ⟨est', hs1', hs2'⟩ := hst'
      have hjl := get_lt hb
      have hz : raw.zipIdx[j]? = some (b, j) := by rw [List.getElem?_zipIdx, hb]; simp
      rw [show bunD b = .tup [.s b.1, .lst (b.2.map entD)] from rfl]
      walk_at "w"
      have hbm := List.mem_of_getElem? hb
      obtain ⟨b1, b2, b3⟩ := hr.bun b hbm
      have hkc := hkb (some b.1)
      refine if_d (fun h => ?_) fun h => ?_
      · have hbc : b.1 = c := by injection h
        walk_at "w"
        refine ⟨⟨_, _, ObjOf.mu (pool_x g3 g4), rfl⟩, ?_⟩
        walk_at "w"
        refine comp_mapT entD (fun e => oentD (e.1, e.2.map fun p => (st'.2[p]?).getD none)) b.2 [] (le_size (by simp; omega)) (fun e he F k2 hk2 => ?_) ?_
        · rw [show entD e = .tup [.i e.1, natsD e.2] from rfl]
          walk_at "w"
          have hpe := b2.2 e he
          have hpl := hpe.len
          refine ⟨qf, st'.2, e.2, rfl, by rw [pool_get nfx nfn nfh, updM_same], fun p hp => by rw [hs2']; exact hpe.lt hp, by omega, ?_⟩
          walk_at "w"
          exact hk2
        rw [List.nil_append]
        walk_at "w"
        rw [show b.2.map (fun e => oentD (e.1, e.2.map fun p => (st'.2[p]?).getD none)) = (oents st'.2 b.2).map oentD by unfold oents; rw [List.map_map]; rfl]
        refine ⟨x, qn, qh, ps, st'.1, _, c, oents st'.2 b.2, rfl, rfl, g3, g4, g5, by omega, by unfold oents; rw [List.length_map]; omega, fun e he => ?_, nameB_ok (t.name (hbc ▸ b1)), ?_⟩
        · unfold oents at he
          obtain ⟨e', he', rfl⟩ := List.mem_map.mp he
          have hpl := (b2.2 e' he').len
          show (e'.2.map _).length ≤ 1000
          rw [List.length_map]
          omega
        walk_at "w"
        refine wset_list (j := j) (by rw [pool_get nfx nfn nfh, updM_same]) ?_ ?_
        · rw [List.length_map]; unfold ixN; rw [if_pos (by omega), if_pos (by omega)]; simp
        have esb : stepB c st' (b, j) = ((putP st'.1 c (oents st'.2 b.2)).1, st'.2.set j (putP st'.1 c (oents st'.2 b.2)).2) := if_pos hbc
        have esl := stepB_len (c := c) (st := st') (bi := (b, j))
        refine ⟨by dsimp only [wipe2, List.set], stepB c st' (b, j), ⟨?_, by omega, by rw [esl.2, hs2']⟩, ?_⟩
        · rw [take_succ_get hz, List.foldl_append, ← est']
          rfl
        · rw [esb, pool_out nfx nfn nfh, updM_upd, List.map_set]
      · have hbc : ¬ b.1 = c := fun e => h (by rw [e])
        refine ws_next ?_
        refine ⟨by dsimp only [wipe2, List.set], st', ⟨?_, by omega, hs2'⟩, rfl⟩
        rw [take_succ_get hz, List.foldl_append, ← est']
        show st' = stepB c st' (b, j)
        unfold stepB
        rw [if_neg hbc]
    · obtain ⟨est', hs1', hs2'⟩ := hst'
      have e1 : (enumD (raw.map bunD)).length = raw.length := by rw [enumD_len, List.length_map]
      rw [e1] at est' hs1'
      rw [show raw.zipIdx.take raw.length = raw.zipIdx by rw [List.take_of_length_le]; simp] at est'
      refine ⟨?_, st', ⟨?_, by omega, hs2'⟩, rfl⟩
      · show (wipe2 ρ2 [3, 9, 10, 11, 12]).set 8 none = _
        rw [hρ]
        rfl
      rw [take_succ_get hc, List.foldl_append, ← est, est']
      rfl
  · obtain ⟨est, hs1, hs2⟩ := hst
    rw [List.length_map, List.take_length] at est
    have est2 : st = foldB ps raw := est
    subst est2
    have hl1 : (foldB ps raw).1.length ≤ 10000 := by rw [List.length_map] at hs1; omega
    have q := q hl1
    have hqf0 : M' qf = none := by rw [pool_get nfx nfn nfh] at hqf; exact hqf
    have hle : ∀ o, MLe (poolM a ⟨P, w, K⟩ ps x qn qh (foldB ps raw).1 (updM M' qf o)) M' := fun o => MLe.of fun z => by
      by_cases e1 : z = x
      · exact .inl (e1 ▸ hx0)
      by_cases e2 : z = qn
      · exact .inl (e2 ▸ g1)
      by_cases e3 : z = qh
      · exact .inl (e3 ▸ g2)
      by_cases e4 : z = qf
      · exact .inl (e4 ▸ hqf0)
      right
      rw [pool_get e1 e2 e3, updM_ne e4]
    walk_at "w"
    cases tops with
    | none =>
      refine if_tt rfl ?_
      walk_at "w"
      refine ⟨⟨_, _, ObjOf.mu (pool_x g3 g4), rfl⟩, ?_⟩
      walk_at "w"
      refine ⟨x, qn, qh, ps, (foldB ps raw).1, _, 8, none, rfl, rfl, g3, g4, g5, hd, hl1, hsz, fun l h => (by cases h), ?_⟩
      walk_at "w"
      exact ⟨_, hle _, q⟩
    | some l =>
      refine if_ff rfl ?_
      walk_at "w"
      refine ⟨⟨_, _, ObjOf.mu (pool_x g3 g4), rfl⟩, ?_⟩
      have hll := (ht l rfl).len
      walk_at "w"
      refine ⟨qf, (foldB ps raw).2, l, rfl, by rw [pool_get nfx nfn nfh, updM_same], fun p hp => by rw [hs2]; exact (ht l rfl).lt hp, by omega, ?_⟩
      walk_at "w"
      refine ⟨x, qn, qh, ps, (foldB ps raw).1, _, 8, some (l.map fun p => ((foldB ps raw).2[p]?).getD none), rfl, rfl, g3, g4, g5, hd, hl1, hsz, fun l' hl' => ?_, ?_⟩
      · cases hl'
        refine ⟨by rw [List.length_map]; omega, fun n hn => ?_⟩
        obtain ⟨p, hp, e⟩ := List.mem_map.mp hn
        refine hdeep l rfl p hp n ?_
        cases e2 : (foldB ps raw).2[p]? with
        | none => rw [e2] at e; cases e
        | some z => rw [e2] at e; exact congrArg some e
      exact ⟨_, hle _, q⟩
def sp_flen (a : Ad) : Sp2 := fun ds M Q2 _ => ∃ dT bs ts, ds = [foldD a.c_Fold dT bs ts] ∧ Q2 (.i (bs.length : Nat)) M
theorem ok_Fold_o___len__ (T : Tx K mg a) : FnOk P w K mg base CX0 3 a.f_Fold_o___len__ a.d_Fold_o___len__ ["self"] (lift ⟨P, w, K⟩ (sp_flen a)) := by
  refine okD T.F_Fold_o___len__ sc_Fold_o___len__ (fun ds M Q2 E2 h => by obtain ⟨dT, bs, ts, rfl, _⟩ := h; rfl) fun cdv A outer s H E G Fr ds M Q2 E2 hr h => ⟨_, (pss_one (ps_ret (pe_callB (k_len (K := K) rfl) rfl T.z_len bt_len (pa_cons (k_fld (K := K) rfl (pv 0) rfl) pa_nil)))), ?_⟩
  obtain ⟨dT, bs, ts, rfl, q⟩ := h
  have cl_Fold := T.cl_Fold
  have na_Fold_held := T.na_Fold_o_held
  refine ws_start (ρ' := [some _]) rfl ?_
  walk_at "w"
  exact q
def sp_ftops (a : Ad) : Sp2 := fun ds M Q2 _ => ∃ dT bs ts, ds = [foldD a.c_Fold dT bs ts] ∧ Q2 (topsD ts) M
theorem ok_Fold_o_tops (T : Tx K mg a) : FnOk P w K mg base CX0 3 a.f_Fold_o_tops a.d_Fold_o_tops ["self"] (lift ⟨P, w, K⟩ (sp_ftops a)) := by
  refine okD T.F_Fold_o_tops sc_Fold_o_tops (fun ds M Q2 E2 h => by obtain ⟨dT, bs, ts, rfl, _⟩ := h; rfl) fun cdv A outer s H E G Fr ds M Q2 E2 hr h => ⟨_, (pss_one (ps_ret (k_fld (K := K) rfl (pv 0) rfl))), ?_⟩
  obtain ⟨dT, bs, ts, rfl, q⟩ := h
  have cl_Fold := T.cl_Fold
  have na_Fold_roots := T.na_Fold_o_roots
  refine ws_start (ρ' := [some _]) rfl ?_
  walk_at "w"
  exact q
def sp_fweight (a : Ad) : Sp2 := fun ds M Q2 _ => ∃ dT bs ts, ds = [foldD a.c_Fold dT bs ts] ∧ bs.length ≤ 10000 ∧ Q2 (.i (bs.map fun b => ((b.2.length : Nat) : Int)).sum) M
theorem ok_Fold_o_weight (T : Tx K mg a) : FnOk P w K mg base CX0 3 a.f_Fold_o_weight a.d_Fold_o_weight ["self"] (lift ⟨P, w, K⟩ (sp_fweight a)) := by
  refine okD T.F_Fold_o_weight sc_Fold_o_weight (fun ds M Q2 E2 h => by obtain ⟨dT, bs, ts, rfl, _⟩ := h; rfl) fun cdv A outer s H E G Fr ds M Q2 E2 hr h => ⟨_, (pss_one (ps_ret (pe_callB (k_sum (K := K) rfl rfl) rfl T.z_sum bt_sum (pa_cons (pe_lc (own := [("column", 1), ("entries", 2)]) (g := gTup K 2 (gCons (gName 1) (gCons (gName 2) gNil))) rfl sc_Fold_o_weight.nd (k_ls (K := K) rfl (k_fld (K := K) rfl (pv 0) rfl)) (blkOk_by (N := N_Fold_o_weight) (own := [("column", 1), ("entries", 2)]) (sc := defScope s_Fold_o_weight) (by first | decide +kernel | kernel_rfl)) (fun _ _ _ _ _ => (k_gtup (K := K) rfl rfl (pgs_cons (pg_name (i := 1) sc_Fold_o_weight.nd rfl (Or.inl rfl)) (pgs_cons (pg_name (i := 2) sc_Fold_o_weight.nd rfl (Or.inl rfl)) pgs_nil)))) (fun _ _ _ _ _ => pts_nil) (fun _ _ _ _ _ => (pe_callB (k_len (K := K) rfl) rfl T.z_len bt_len (pa_cons (pv 2) pa_nil)))) pa_nil)))), ?_⟩
  obtain ⟨dT, bs, ts, rfl, hl, q⟩ := h
  have cl_Fold := T.cl_Fold
  have na_Fold_held := T.na_Fold_o_held
  refine ws_start (ρ' := [some _, none, none]) rfl ?_
  walk_at "w"
  refine comp_mapT bunD (fun b => DV.i ((b.2.length : Nat) : Int)) bs [] (le_size (by simp; omega)) (fun b hb F k2 hk2 => ?_) ?_
  · rw [show bunD b = .tup [.s b.1, .lst (b.2.map entD)] from rfl]
    walk_at "w"
    exact hk2
  rw [List.nil_append]
  walk_at "w"
  refine wc_sum (ns := bs.map fun b => ((b.2.length : Nat) : Int)) (.inl (by rw [List.map_map]; rfl)) ?_
  exact q
def sp_prodat : Sp2 := fun ds M Q2 _ => ∃ d ns parts, ds = [d, natsD parts] ∧ LstOf M d (ns.map natD) ∧ (∀ p ∈ parts, p < ns.length) ∧ (∀ n ∈ ns, n < 2 ^ 64) ∧ Q2 (natD (prodAt ns parts)) M
theorem mulN_snoc (l : List Nat) (k : Nat) : mulN (l ++ [k]) = mulN l * k := by
  unfold mulN
  rw [List.foldl_append]
  rfl
theorem ok_product_at (T : Tx K mg a) : FnOk P w K mg base CX0 3 a.f_product_at a.d_product_at ["numbers", "parts"] (lift ⟨P, w, K⟩ (sp_prodat)) := by
  refine okD T.F_product_at sc_product_at (fun ds M Q2 E2 h => by obtain ⟨d, ns, parts, rfl, _⟩ := h; rfl) fun cdv A outer s H E G Fr ds M Q2 E2 hr h => ⟨_, (pss_cons (ps_set (i := 2) sc_product_at.nd rfl (Or.inl rfl) pe_int) (pss_cons (ps_for PassesOwn.never rfl (k_seq (K := K) rfl (pv 1)) (pg_name (i := 3) sc_product_at.nd rfl (Or.inl rfl)) (pss_one (ps_aug (i := 2) sc_product_at.nd rfl (Or.inl rfl) (pe_ix (k_ix (K := K) rfl) (pv 0) (pv 3) (fun _ _ => rfl)) k_ipMul))) (pss_one (ps_ret (pv 2))))), ?_⟩
  obtain ⟨d, ns, parts, rfl, hl, hp, hn, q⟩ := h
  refine ws_start (ρ' := [some _, some _, none, none]) rfl ?_
  unfold natsD
  walk_at "w"
  refine loop_V (β := Nat) [3] (fun b => [some d, some (.tup (parts.map fun n => DV.i (n : Nat))), some (natD b), none]) (fun _ _ => M) (fun i b => b = prodAt ns (parts.take i)) 0 (n := 0) (b0 := 1) rfl rfl (fun i dd m b hi hm hI => ?_) fun m b hm hI => ?_
  · obtain ⟨p, hpi, rfl⟩ : ∃ p, parts[i]? = some p ∧ dd = natD p := by
      rw [List.getElem?_map] at hi
      cases e : parts[i]? with
      | none => rw [e] at hi; cases hi
      | some x => rw [e] at hi; cases hi; exact ⟨x, rfl, rfl⟩
    have hpl := hp p (List.mem_of_getElem? hpi)
    walk_at "w"
    refine wr_atN (k := p) (e := natD ns[p]) hl (by rw [List.getElem?_map, List.getElem?_eq_getElem hpl]; rfl) ?_
    have h64 := hn _ (List.getElem_mem hpl)
    refine wr_I (i := (b : Nat)) (j := (ns[p] : Nat)) (by unfold CMul; omega) ?_
    refine ⟨0, b * ns[p], by rw [← Int.natCast_mul]; rfl, Nat.zero_le _, ?_, rfl⟩
    subst hI
    unfold prodAt
    rw [take_succ_get hpi, List.map_append, List.map_singleton, mulN_snoc, List.getElem?_eq_getElem hpl]
    rfl
  · rw [List.length_map, List.take_length] at hI
    subst hI
    walk_at "w"
    exact q
theorem enumD_zip {α : Type} (f : α → DV) (xs : List α) : enumD (xs.map f) = xs.zipIdx.map fun x => .tup [.i (x.2 : Nat), f x.1] := by
  unfold enumD
  refine List.ext_getElem? fun i => ?_
  rw [List.getElem?_mapIdx, List.getElem?_map, List.getElem?_map, List.getElem?_zipIdx]
  cases xs[i]? with
  | none => rfl
  | some x => simp
def sp_bycol (a : Ad) : Sp2 := fun ds M Q2 _ => ∃ ps bs ts, ds = [foldD a.c_Fold (treeD a.c_Tree ps) bs ts] ∧ Tr ps ∧ bs.length ≤ 10000 ∧ Told Q2 M ((bycol ps bs).map natD)
theorem ok_by_columns (T : Tx K mg a) : FnOk P w K mg base CX0 6 a.f_by_columns a.d_by_columns ["fold"] (lift ⟨P, w, K⟩ (sp_bycol a)) := by
  refine okD T.F_by_columns sc_by_columns (fun ds M Q2 E2 h => by obtain ⟨ps, bs, ts, rfl, _⟩ := h; rfl) fun cdv A outer s H E G Fr ds M Q2 E2 hr h => ⟨_, (pss_cons (ps_set (i := 1) sc_by_columns.nd rfl (Or.inl rfl) (pe_lstM pa_nil)) (pss_cons (ps_for PassesOwn.never rfl (k_rvd (K := K) rfl rfl T.z_reversed (pa_cons (pe_meth0 (k_fld (K := K) rfl (pv 0) rfl) T.cl_Tree T.m_Tree_o_columns (ok_Tree_o_columns (P := P) (w := w) (K := K) (base := base) T) (hr.mono (by decide)) T.b_Tree_o_columns .nil passZ) pa_nil)) (pg_name (i := 2) sc_by_columns.nd rfl (Or.inr rfl)) (pss_one (ps_expr (k_bm (K := K) rfl PySem.F.plainAttrs_list PySem.F.slot_list_extend PySem.F.type_list_extend mt_extend (pv 1) (pa_cons (pe_lc (own := [("number", 3), ("bunch", 4)]) (g := gTup K 2 (gCons (gName 3) (gCons (gName 4) gNil))) rfl sc_by_columns.nd (k_enum (K := K) rfl rfl T.z_enumerate (pa_cons (k_fld (K := K) rfl (pv 0) rfl) pa_nil)) (blkOk_by (N := N_by_columns) (own := [("number", 3), ("bunch", 4)]) (sc := defScope s_by_columns) (by first | decide +kernel | kernel_rfl)) (fun _ _ _ _ _ => (k_gtup (K := K) rfl rfl (pgs_cons (pg_name (i := 3) sc_by_columns.nd rfl (Or.inl rfl)) (pgs_cons (pg_name (i := 4) sc_by_columns.nd rfl (Or.inl rfl)) pgs_nil)))) (fun _ _ _ _ _ => (pts_one (pt_cmpR (k_eq (K := K) rfl (hu64 hr)) (pe_ix (k_ix (K := K) rfl) (pv 4) pe_int (fun _ _ => rfl)) (pv 2) (nomark _)))) (fun _ _ _ _ _ => (pv 3))) pa_nil))))) (pss_one (ps_ret (pe_as (pv 1)))))), ?_⟩
  obtain ⟨ps, bs, ts, rfl, t, hl, q⟩ := h
  have cl_Fold := T.cl_Fold
  have na_Fold_shape := T.na_Fold_o_shape
  have na_Fold_held := T.na_Fold_o_held
  have cl_Pool := T.cl_Pool
  have na_Pool_shape := T.na_Pool_o_shape
  have na_Pool_held := T.na_Pool_o_held
  refine ws_start (ρ' := [some _, none, none, none, none]) rfl ?_
  walk_at "w"
  intro p hp0
  have h8 : (ord ps none).length ≤ 8 := Nat.le_trans (ord_len t none) t.len
  walk_at "w"
  refine wi_rev ?_
  walk_at "w"
  rw [← List.map_reverse]
  refine loop_K (β := List Nat) [2, 3, 4] (fun b => updM M p (.lst (b.map natD))) (fun i b => b = ((ord ps none).reverse.take i).flatMap (idxB bs) ∧ b.length ≤ i * 10000) (b0 := []) ⟨rfl, Nat.zero_le _⟩ (fun i dd b hi hI => ?_) fun b hI => ?_
  · obtain ⟨c, hc, rfl⟩ := map_getS hi
    obtain ⟨eb, hbl⟩ := hI
    have hil := get_lt hc
    rw [List.length_reverse] at hil
    walk_at "w"
    rw [enumD_zip]
    refine comp_filT (fun x : Bun × Nat => .tup [.i (x.2 : Nat), bunD x.1]) (fun x => natD x.2) (fun x => decide (x.1.1 = c)) bs.zipIdx [] (le_size (by simp; omega)) (fun x hx F k2 hk2 => ?_) ?_
    · rw [show bunD x.1 = .tup [.s x.1.1, .lst (x.1.2.map entD)] from rfl]
      walk_at "w"
      refine ⟨by simp, rfl, fun h => ?_⟩
      walk_at "w"
      exact hk2 h
    rw [List.nil_append]
    walk_at "w"
    have hzl := idxB_len (bs := bs) (c := c)
    have e1 : (bs.zipIdx.filter fun x => decide (x.1.1 = c)).map (fun x => natD x.2) = (idxB bs c).map natD := by unfold idxB; rw [List.map_map]; rfl
    rw [e1]
    refine wm_ext1 (.inl rfl) (by simp only [List.length_map]; omega) ?_
    refine ⟨rfl, b ++ idxB bs c, ⟨?_, by rw [List.length_append]; omega⟩, by rw [List.map_append]⟩
    rw [eb, take_succ_get hc, List.flatMap_append, List.flatMap_singleton]
  · obtain ⟨eb, hbl⟩ := hI
    rw [List.length_map, List.take_length] at eb
    subst eb
    refine ws_ret (we_asVar ?_)
    walk_at "w"
    exact ⟨p, M, _, rfl, rfl, hp0, q⟩
theorem sum_nat {α : Type} (f : α → Nat) : ∀ l : List α, (l.map fun e => ((f e : Nat) : Int)).sum = (((l.map f).sum : Nat) : Int)
  | [] => rfl
  | x :: l => by rw [List.map_cons, List.sum_cons, sum_nat f l, List.map_cons, List.sum_cons, Int.natCast_add]
def sp_counts (a : Ad) : Sp2 := fun ds M Q2 _ => ∃ ps m bs ts, ds = [foldD a.c_Fold (treeD a.c_Tree ps) bs ts] ∧ Tr ps ∧ m ≤ 1000 ∧ FoldOk ps m bs ts ∧ (∀ k, k < bs.length → (rowsB bs k).length < 2 ^ 64) ∧ Told Q2 M ((cntL bs).map natD)
theorem ok_counts_of (T : Tx K mg a) : FnOk P w K mg base CX0 9 a.f_counts_of a.d_counts_of ["fold"] (lift ⟨P, w, K⟩ (sp_counts a)) := by
  refine okD T.F_counts_of sc_counts_of (fun ds M Q2 E2 h => by obtain ⟨ps, m, bs, ts, rfl, _⟩ := h; rfl) fun cdv A outer s H E G Fr ds M Q2 E2 hr h => ⟨_, (pss_cons (ps_set (i := 1) sc_counts_of.nd rfl (Or.inr rfl) (pe_op op_mulA (pe_lst (pa_cons pe_int pa_nil)) (pe_callB (k_len (K := K) rfl) rfl T.z_len bt_len (pa_cons (k_fld (K := K) rfl (pv 0) rfl) pa_nil)))) (pss_cons (ps_for PassesOwn.never rfl (k_ls (K := K) rfl (pe_call (ok_by_columns (P := P) (w := w) (K := K) (base := base) T) (hr.mono (by decide)) rfl T.g_by_columns T.k_by_columns T.b_by_columns .nil passZ (pa_cons (pv 0) pa_nil))) (pg_name (i := 2) sc_counts_of.nd rfl (Or.inl rfl)) (pss_one (ps_asg (pe_callB (k_sum (K := K) rfl rfl) rfl T.z_sum bt_sum (pa_cons (pe_lc (own := [("value", 3), ("parts", 4)]) (g := gTup K 2 (gCons (gName 3) (gCons (gName 4) gNil))) rfl sc_counts_of.nd (k_ls (K := K) rfl (pe_ix (k_ix (K := K) rfl) (pe_ix (k_ix (K := K) rfl) (k_fld (K := K) rfl (pv 0) rfl) (pv 2) (fun _ _ => rfl)) pe_int (fun _ _ => rfl))) (blkOk_by (N := N_counts_of) (own := [("value", 3), ("parts", 4)]) (sc := defScope s_counts_of) (by first | decide +kernel | kernel_rfl)) (fun _ _ _ _ _ => (k_gtup (K := K) rfl rfl (pgs_cons (pg_name (i := 3) sc_counts_of.nd rfl (Or.inl rfl)) (pgs_cons (pg_name (i := 4) sc_counts_of.nd rfl (Or.inl rfl)) pgs_nil)))) (fun _ _ _ _ _ => pts_nil) (fun _ _ _ _ _ => (pe_call (ok_product_at (P := P) (w := w) (K := K) (base := base) T) (hr.mono (by decide)) rfl T.g_product_at T.k_product_at T.b_product_at .nil passZ (pa_cons (pv 1) (pa_cons (pv 4) pa_nil))))) pa_nil)) (pg_sub (pv 1) (pv 2) set_list)))) (pss_one (ps_ret (pe_as (pv 1)))))), ?_⟩
  obtain ⟨ps, m, bs, ts, rfl, t, hm0, fo, h64, q⟩ := h
  have cl_Fold := T.cl_Fold
  have na_Fold_held := T.na_Fold_o_held
  have cl_Pool := T.cl_Pool
  have na_Pool_held := T.na_Pool_o_held
  refine ws_start (ρ' := [some _, none, none, none, none]) rfl ?_
  have hl := fo.len
  walk_at "w"
  refine wr_mulM (.inl rfl) (by omega) (by omega) (by simp; exact le_size (by omega)) fun q0 hq0 => ?_
  rw [Int.toNat_natCast, rep_flat, show List.replicate bs.length (DV.i 0) = (List.replicate bs.length 0).map natD by rw [List.map_replicate]; rfl]
  walk_at "w"
  refine ⟨t, hl, told_f ⟨_, rfl, ?_⟩⟩
  refine loop_K (β := List Nat) [2, 3, 4] (fun ns => updM M q0 (.lst (ns.map natD))) (fun i ns => CntI bs ((bycol ps bs).take i) ns) (b0 := List.replicate bs.length 0) (cnt_nil bs) (fun i dd ns hi hI => ?_) fun ns hI => ?_
  · obtain ⟨k, hk, rfl⟩ : ∃ k, (bycol ps bs)[i]? = some k ∧ dd = natD k := by
      rw [List.getElem?_map] at hi
      cases e : (bycol ps bs)[i]? with
      | none => rw [e] at hi; cases hi
      | some x => rw [e] at hi; cases hi; exact ⟨x, rfl, rfl⟩
    have hkl := (bycol_mem t fo.hok).mp (List.mem_of_getElem? hk)
    have hb : bs[k]? = some bs[k] := List.getElem?_eq_getElem hkl
    have hstep := cnt_step t fo.hok hk hI
    obtain ⟨b1, b2, b3⟩ := fo.hok _ (List.getElem_mem hkl)
    have hn64 : ∀ n ∈ ns, n < 2 ^ 64 := fun n hn => by
      rcases hI.le n hn with rfl | ⟨k', h1, rfl⟩
      · decide
      · exact h64 k' h1
    have hlen := hI.len
    walk_at "w"
    refine wr_atN (k := k) (.inl rfl) (by rw [List.getElem?_map, hb]; rfl) ?_
    rw [show bunD bs[k] = .tup [.s bs[k].1, .lst (bs[k].2.map entD)] from rfl]
    walk_at "w"
    refine comp_mapT entD (fun e => natD (prodAt ns e.2)) bs[k].2 [] (le_size (by simp; omega)) (fun e he F k2 hk2 => ?_) ?_
    · rw [show entD e = .tup [.i e.1, natsD e.2] from rfl]
      walk_at "w"
      refine ⟨_, ns, e.2, rfl, .inr ⟨q0, rfl, updM_same⟩, fun p hp => by rw [hlen]; exact (b2.2 e he).lt hp, hn64, ?_⟩
      exact hk2
    rw [List.nil_append]
    walk_at "w"
    refine wc_sum (ns := bs[k].2.map fun e => ((prodAt ns e.2 : Nat) : Int)) (.inl (by rw [List.map_map]; rfl)) ?_
    rw [sum_nat]
    walk_at "w"
    refine wset_list (j := k) updM_same (by rw [List.length_map, hlen]; unfold ixN; rw [if_pos (by omega), if_pos (by omega)]; simp) ?_
    refine ⟨by dsimp only [wipe2, List.set], cntStep bs ns k, hstep, ?_⟩
    unfold cntStep
    rw [updM_upd, List.map_set, hb]
    rfl
  · rw [List.length_map, List.take_length] at hI
    have e := cnt_all t fo.hok hI
    subst e
    refine ws_ret (we_asVar ?_)
    walk_at "w"
    exact ⟨q0, M, _, rfl, rfl, hq0, q⟩
def sp_fcount (a : Ad) : Sp2 := fun ds M Q2 _ => ∃ ps m bs ts, ds = [foldD a.c_Fold (treeD a.c_Tree ps) bs ts] ∧ Tr ps ∧ m ≤ 1000 ∧ FoldOk ps m bs ts ∧ (∀ k, k < bs.length → (rowsB bs k).length < 2 ^ 64) ∧ Q2 (natD (rowsT bs ts).length) M
theorem ok_Fold_o_count (T : Tx K mg a) : FnOk P w K mg base CX0 12 a.f_Fold_o_count a.d_Fold_o_count ["self"] (lift ⟨P, w, K⟩ (sp_fcount a)) := by
  refine okD T.F_Fold_o_count sc_Fold_o_count (fun ds M Q2 E2 h => by obtain ⟨ps, m, bs, ts, rfl, _⟩ := h; rfl) fun cdv A outer s H E G Fr ds M Q2 E2 hr h => ⟨_, (pss_cons (ps_if (pt_cmpR op_isNA (k_fld (K := K) rfl (pv 0) rfl) pe_non (nomark _)) (pss_one (ps_ret pe_int)) pss_nil) (pss_one (ps_ret (pe_call (ok_product_at (P := P) (w := w) (K := K) (base := base) T) (hr.mono (by decide)) rfl T.g_product_at T.k_product_at T.b_product_at .nil passZ (pa_cons (pe_call (ok_counts_of (P := P) (w := w) (K := K) (base := base) T) (hr.mono (by decide)) rfl T.g_counts_of T.k_counts_of T.b_counts_of .nil passZ (pa_cons (pv 0) pa_nil)) (pa_cons (k_fld (K := K) rfl (pv 0) rfl) pa_nil)))))), ?_⟩
  obtain ⟨ps, m, bs, ts, rfl, t, hm0, fo, h64, q⟩ := h
  have cl_Fold := T.cl_Fold
  have na_Fold_roots := T.na_Fold_o_roots
  refine ws_start (ρ' := [some _]) rfl ?_
  walk_at "w"
  cases ts with
  | none =>
    refine if_tt rfl ?_
    walk_at "w"
    exact q
  | some l =>
    refine if_ff rfl ?_
    have hl := fo.tops l rfl
    walk_at "w"
    refine ⟨ps, m, bs, some l, rfl, t, hm0, fo, h64, told_f ?_⟩
    walk_at "w"
    refine ⟨_, cntL bs, l, rfl, .inl rfl, fun p hp => by unfold cntL; rw [List.length_map, List.length_range]; exact hl.lt hp, fun n hn => ?_, ?_⟩
    · unfold cntL at hn
      obtain ⟨k, hk, rfl⟩ := List.mem_map.mp hn
      exact h64 k (List.mem_range.mp hk)
    rw [count_eq (ps := ps) (m := m) hl]
    exact q
def prodL (l : List (List (List Int))) : List (List Int) := l.foldl (fun found rs => found.flatMap fun r => rs.map (r ++ ·)) [[]]
theorem prodL_go : ∀ (l : List (List (List Int))) (f : List (List Int)), l.foldl (fun found rs => found.flatMap fun r => rs.map (r ++ ·)) f = f.flatMap fun r => (prodR l).map (r ++ ·)
  | [], f => by
    induction f with
    | nil => rfl
    | cons r f ih => rw [List.flatMap_cons, ← ih]; simp [prodR]
  | rs :: l, f => by
    rw [List.foldl_cons, prodL_go l]
    rw [List.flatMap_assoc]
    refine flat_cong fun r _ => ?_
    rw [List.flatMap_map, prodR, List.map_flatMap]
    refine flat_cong fun s _ => ?_
    rw [List.map_map]
    exact List.map_congr_left fun z _ => List.append_assoc ..
theorem prodL_eq (l : List (List (List Int))) : prodL l = prodR l := by
  unfold prodL
  rw [prodL_go]
  simp
theorem prodL_snoc (l : List (List (List Int))) (rs : List (List Int)) : prodL (l ++ [rs]) = (prodL l).flatMap fun r => rs.map (r ++ ·) := by
  unfold prodL
  rw [List.foldl_append]
  rfl
theorem entRows_app (R : Nat → List (List Int)) (es fs : List Ent) : entRows R (es ++ fs) = entRows R es ++ entRows R fs := by unfold entRows; rw [List.flatMap_append]
theorem mulN_pos : ∀ {l : List Nat}, (∀ x ∈ l, 1 ≤ x) → 1 ≤ mulN l
  | [], _ => Nat.le_refl _
  | k :: l, h => by
    rw [mulN_cons]
    exact Nat.mul_le_mul (h k List.mem_cons_self) (mulN_pos fun x hx => h x (List.mem_cons_of_mem _ hx))
theorem mulN_app (l m : List Nat) : mulN (l ++ m) = mulN l * mulN m := by
  induction l with
  | nil => rw [List.nil_append, show mulN [] = 1 from rfl, Nat.one_mul]
  | cons k l ih => rw [List.cons_append, mulN_cons, mulN_cons, ih, Nat.mul_assoc]
theorem mulN_mem {l : List Nat} (h : ∀ x ∈ l, 1 ≤ x) {x : Nat} (hx : x ∈ l) : x ≤ mulN l := by
  induction l with
  | nil => cases hx
  | cons k l ih =>
    rw [mulN_cons]
    have h1 := mulN_pos fun x hx => h x (List.mem_cons_of_mem _ hx)
    have h2 := h k List.mem_cons_self
    rcases List.mem_cons.mp hx with rfl | hx
    · exact Nat.le_mul_of_pos_right _ h1
    · exact Nat.le_trans (ih (fun x hx => h x (List.mem_cons_of_mem _ hx)) hx) (Nat.le_mul_of_pos_left _ h2)
theorem mulN_take {l : List Nat} (h : ∀ x ∈ l, 1 ≤ x) (i : Nat) : mulN (l.take i) ≤ mulN l := by
  have e : mulN l = mulN (l.take i) * mulN (l.drop i) := by rw [← mulN_app, List.take_append_drop]
  rw [e]
  exact Nat.le_mul_of_pos_right _ (mulN_pos fun x hx => h x (List.mem_of_mem_drop hx))
theorem rowsN_ne {ps : Prs} {m : Nat} {bs : List Bun} (h : HOk ps m bs) (hn : NonE bs) : ∀ {d k : Nat}, deepB bs d k → 1 ≤ (rowsN bs d k).length
  | 0, _, hd => absurd hd id
  | d + 1, k, ⟨b, hb, hp⟩ => by
    rw [rowsN_some hb, entRows_len]
    have hbm := List.mem_of_getElem? hb
    obtain ⟨e, es, hes⟩ : ∃ e es, b.2 = e :: es := by
      cases he : b.2 with
      | nil => exact absurd he (hn b hbm)
      | cons e es => exact ⟨e, es, rfl⟩
    rw [hes, List.map_cons, List.sum_cons]
    have h1 : 1 ≤ mulN (e.2.map fun p => (rowsN bs d p).length) := mulN_pos fun x hx => by
      obtain ⟨p, hpp, rfl⟩ := List.mem_map.mp hx
      exact rowsN_ne h hn (hp e (by rw [hes]; exact List.mem_cons_self) p hpp)
    omega
theorem deepB_mono {bs : List Bun} : ∀ {d d' k : Nat}, d ≤ d' → deepB bs d k → deepB bs d' k
  | 0, _, _, _, h => absurd h id
  | d + 1, 0, _, hl, _ => absurd hl (by omega)
  | d + 1, d' + 1, k, hl, ⟨b, hb, hp⟩ => ⟨b, hb, fun e he p hpp => deepB_mono (by omega) (hp e he p hpp)⟩
theorem rowsB_ne {ps : Prs} {m : Nat} {bs : List Bun} (t : Tr ps) (h : HOk ps m bs) (hn : NonE bs) {k : Nat} {b : Bun} (hb : bs[k]? = some b) : 1 ≤ (rowsB bs k).length := rowsN_ne h hn (deepB_mono (by decide) (h.deep t hb))
/-- what is known so far -/
def rowsD (rs : List (List Int)) : DV := .lst (rs.map rowD)
def knwD (bs : List Bun) (l : List Nat) : KVs := l.map fun k => (.num (k : Nat), rowsD (rowsB bs k))
theorem knw_val (bs : List Bun) (k : Nat) : ∀ l : List Nat, valL (knwD bs l) (.num (k : Nat)) = if k ∈ l then some (rowsD (rowsB bs k)) else none
  | [] => rfl
  | c :: l => by
    have ih := knw_val bs k l
    unfold knwD at ih ⊢
    rw [List.map_cons]
    by_cases h : c = k
    · subst h
      rw [valL_pos rfl, if_pos List.mem_cons_self]
    · rw [valL_neg (fun e => h (by injection e with e; exact Int.ofNat.inj e)), ih]
      by_cases h2 : k ∈ l
      · rw [if_pos h2, if_pos (List.mem_cons_of_mem _ h2)]
      · rw [if_neg h2, if_neg (fun h3 => (List.mem_cons.mp h3).elim (fun e => h e.symm) h2)]
theorem knw_put (bs : List Bun) (k : Nat) (l : List Nat) : putL (knwD bs l) (.num (k : Nat)) (rowsD (rowsB bs k)) = knwD bs (if k ∈ l then l else l ++ [k]) := by
  unfold putL
  rw [valL_any, knw_val]
  by_cases h : k ∈ l
  · rw [if_pos h, if_pos h]
    simp only [Option.isSome_some, if_true]
    unfold knwD
    rw [List.map_map]
    refine List.map_congr_left fun c _ => ?_
    show (if Leaf.num ((c : Nat) : Int) = Leaf.num ((k : Nat) : Int) then _ else _) = _
    by_cases e : c = k
    · subst e; rw [if_pos rfl]
    · rw [if_neg (fun e2 => e (by injection e2 with e2; exact Int.ofNat.inj e2))]
  · rw [if_neg h, if_neg h]
    simp only [Option.isSome_none]
    unfold knwD
    rw [List.map_append]
    rfl
theorem told_weak {Q2 : DQ} {M1 M2 : Mu} {ds : List DV} (h : Told Q2 M2 ds) (hl : MLe M1 M2) (hn : ∀ q, M1 q = none → M2 q = none) : Told (fun d M1 => ∃ M2, MLe M1 M2 ∧ Q2 d M2) M1 ds := by
  rcases h with h | h
  · exact .inl ⟨_, hl, h⟩
  · exact .inr fun q hq => ⟨_, hl.upd2, h q (hn q hq)⟩
def sp_partsat (a : Ad) : Sp2 := fun ds M Q2 _ => ∃ dT bs ts k b v, ds = [foldD a.c_Fold dT bs ts, natD k, .i v] ∧ bs[k]? = some b ∧ Q2 (topsD (partsAt b.2 v)) M
theorem ok_parts_at (T : Tx K mg a) : FnOk P w K mg base CX0 3 a.f_parts_at a.d_parts_at ["fold", "number", "value"] (lift ⟨P, w, K⟩ (sp_partsat a)) := by
  refine okD T.F_parts_at sc_parts_at (fun ds M Q2 E2 h => by obtain ⟨dT, bs, ts, k, b, v, rfl, _⟩ := h; rfl) fun cdv A outer s H E G Fr ds M Q2 E2 hr h => ⟨_, (pss_cons (ps_for PassesOwn.never rfl (k_ls (K := K) rfl (pe_ix (k_ix (K := K) rfl) (pe_ix (k_ix (K := K) rfl) (k_fld (K := K) rfl (pv 0) rfl) (pv 1) (fun _ _ => rfl)) pe_int (fun _ _ => rfl))) (k_gtup (K := K) rfl rfl (pgs_cons (pg_name (i := 3) sc_parts_at.nd rfl (Or.inl rfl)) (pgs_cons (pg_name (i := 4) sc_parts_at.nd rfl (Or.inl rfl)) pgs_nil))) (pss_one (ps_if (pt_cmpR (k_eq (K := K) rfl (hu64 hr)) (pv 3) (pv 2) (nomark _)) (pss_one (ps_ret (pv 4))) pss_nil))) (pss_one (ps_ret pe_non))), ?_⟩
  obtain ⟨dT, bs, ts, k, b, v, rfl, hb, q⟩ := h
  have cl_Fold := T.cl_Fold
  have na_Fold_held := T.na_Fold_o_held
  have cl_Pool := T.cl_Pool
  have na_Pool_held := T.na_Pool_o_held
  refine ws_start (ρ' := [some _, some _, some _, none, none]) rfl ?_
  walk_at "w"
  refine wr_atN (k := k) (.inl rfl) (by rw [List.getElem?_map, hb]; rfl) ?_
  rw [show bunD b = .tup [.s b.1, .lst (b.2.map entD)] from rfl]
  walk_at "w"
  refine loop_KF [3, 4] (fun i => (b.2.take i).find? (fun e => decide (e.1 = v)) = none) rfl (fun i d hi hI => ?_) fun hI => ?_
  · obtain ⟨e, he, rfl⟩ : ∃ e, b.2[i]? = some e ∧ d = entD e := by
      rw [List.getElem?_map] at hi
      cases e : b.2[i]? with
      | none => rw [e] at hi; cases hi
      | some x => rw [e] at hi; cases hi; exact ⟨x, rfl, rfl⟩
    rw [show entD e = .tup [.i e.1, natsD e.2] from rfl]
    walk_at "w"
    rw [decV]
    refine if_d (fun h => ?_) fun h => ?_
    · have ep : partsAt b.2 v = some e.2 := by
        unfold partsAt
        have e1 : b.2 = b.2.take (i + 1) ++ b.2.drop (i + 1) := (List.take_append_drop _ _).symm
        rw [e1, take_succ_get he, List.append_assoc, List.find?_append, hI, Option.none_or, List.singleton_append, List.find?_cons, decide_eq_true h]
        rfl
      walk_at "w"
      rw [ep] at q
      exact q
    · walk_at "w"
      refine ⟨by dsimp only [wipe2, List.set], rfl, ?_⟩
      rw [take_succ_get he, List.find?_append, hI, Option.none_or, List.find?_cons, decide_eq_false h]
      rfl
  · have ep : partsAt b.2 v = none := by
      rw [List.length_map, List.take_length] at hI
      unfold partsAt
      rw [hI]
      rfl
    rw [ep] at q
    walk_at "w"
    exact q
def colAt (bs : List Bun) (p : Nat) : Str := match bs[p]? with
  | some b => b.1
  | none => ""
theorem colAt_eq {bs : List Bun} {p : Nat} {b : Bun} (h : bs[p]? = some b) : colAt bs p = b.1 := by unfold colAt; rw [h]
theorem parts_ok {raw : List Bun} {cs : List Str} {es : List Ent} {v : Int} {l : List Nat} (h : EntR raw cs es) (e : partsAt es v = some l) : PartR raw cs l := by
  unfold partsAt at e
  rw [Option.map_eq_some_iff] at e
  obtain ⟨x, hx, rfl⟩ := e
  exact h.2 x (List.mem_of_find?_eq_some hx)
theorem all_parts {ps : Prs} {bs : List Bun} {cs : List Str} {val : Str → Int} {l : List Nat} (h : PartR bs cs l) : (l.map fun p => decide (blkV ps val (colAt bs p) ∈ rowsB bs p)).all id = true ↔ ∀ (i p : Nat) (c : Str), l[i]? = some p → cs[i]? = some c → blkV ps val c ∈ rowsB bs p := by
  rw [List.all_eq_true]
  constructor
  · intro g i p c h1 h2
    obtain ⟨b, hb, rfl⟩ := h.get h1 h2
    have := g _ (List.mem_map.mpr ⟨p, List.mem_of_getElem? h1, rfl⟩)
    rw [id, decide_eq_true_eq, colAt_eq hb] at this
    exact this
  · intro g x hx
    obtain ⟨p, hp, rfl⟩ := List.mem_map.mp hx
    obtain ⟨i, hi⟩ := List.getElem?_of_mem hp
    have hil : i < cs.length := by rw [← h.len]; exact get_lt hi
    obtain ⟨b, hb, e⟩ := h.get hi (List.getElem?_eq_getElem hil)
    rw [id, decide_eq_true_eq, colAt_eq hb, e]
    exact g i p _ hi (List.getElem?_eq_getElem hil)
def sp_holds (a : Ad) (n : Nat) : Sp2 := fun ds M Q2 _ => ∃ ps m bs ts k b val kv, ds = [foldD a.c_Fold (treeD a.c_Tree ps) bs ts, natD k, dlD kv] ∧ rk ps (some b.1) < n ∧ Tr ps ∧ (∀ c ∈ DL.namesOf ps, valL kv (.text c) = some (.i (val c))) ∧ HOk ps m bs ∧ bs[k]? = some b ∧ Q2 (.b (decide (blkV ps val b.1 ∈ rowsB bs k))) M
theorem okr_holds (T : Tx K mg a) : ∀ n : Nat, FnOk P w K mg base CX0 (2 * n + 3 + 1) a.f_holds a.d_holds ["fold", "number", "values"] (lift ⟨P, w, K⟩ (sp_holds a n)) := by
  refine Nat.rec (motive := fun n => FnOk P w K mg base CX0 (2 * n + 3 + 1) a.f_holds a.d_holds ["fold", "number", "values"] (lift ⟨P, w, K⟩ (sp_holds a n))) (okD T.F_holds sc_holds (fun ds M Q2 E2 h => by obtain ⟨ps, m, bs, ts, k, b, val, kv, rfl, _⟩ := h; rfl) fun cdv A outer s H E G Fr ds M Q2 E2 hr h => by obtain ⟨ps, m, bs, ts, k, b, val, kv, rfl, hn, t, hv, hok, hb, q⟩ := h; exact absurd hn (Nat.not_lt_zero _)) fun n IH => ?_
  refine okD T.F_holds sc_holds (fun ds M Q2 E2 h => by obtain ⟨ps, m, bs, ts, k, b, val, kv, rfl, _⟩ := h; rfl) fun cdv A outer s H E G Fr ds M Q2 E2 hr h => ⟨_, (pss_cons (ps_set (i := 3) sc_holds.nd rfl (Or.inl rfl) (pe_call (ok_parts_at (P := P) (w := w) (K := K) (base := base) T) (hr.mono (by omega)) rfl T.g_parts_at T.k_parts_at T.b_parts_at .nil passZ (pa_cons (pv 0) (pa_cons (pv 1) (pa_cons (pe_ix (ix_leaf (W := ⟨P, w, K⟩) rfl rfl) (pv 2) (pe_ix (k_ix (K := K) rfl) (pe_ix (k_ix (K := K) rfl) (k_fld (K := K) rfl (pv 0) rfl) (pv 1) (fun _ _ => rfl)) pe_int (fun _ _ => rfl)) (fun _ _ => rfl)) pa_nil))))) (pss_one (ps_ret (pe_and (pe_cmpR op_notNA (pv 3) pe_non (nomark _)) (pe_one (pe_callB (k_all (K := K) rfl rfl) rfl T.z_all bt_all (pa_cons (pe_lc (own := [("part", 4)]) (g := gName 4) rfl sc_holds.nd (k_seq (K := K) rfl (pv 3)) (blkOk_by (N := N_holds) (own := [("part", 4)]) (sc := defScope s_holds) (by first | decide +kernel | kernel_rfl)) (fun _ _ _ _ _ => (pg_name (i := 4) sc_holds.nd rfl (Or.inl rfl))) (fun _ _ _ _ _ => pts_nil) (fun _ _ _ _ _ => (pe_call IH (hr.mono (by omega)) rfl T.g_holds T.k_holds T.b_holds .nil passZ (pa_cons (pv 0) (pa_cons (pv 4) (pa_cons (pv 2) pa_nil)))))) pa_nil))))))), ?_⟩
  obtain ⟨ps, m, bs, ts, k, b, val, kv, rfl, hn, t, hv, hok, hb, q⟩ := h
  have cl_Fold := T.cl_Fold
  have na_Fold_held := T.na_Fold_o_held
  have cl_Pool := T.cl_Pool
  have na_Pool_held := T.na_Pool_o_held
  refine ws_start (ρ' := [some _, some _, some _, none, none]) rfl ?_
  obtain ⟨b1, b2, b3⟩ := hok b (List.mem_of_getElem? hb)
  have h8 := t.len
  have hkl := kids_le (ps := ps) (o := some b.1)
  walk_at "w"
  refine wr_atN (k := k) (.inl rfl) (by rw [List.getElem?_map, hb]; rfl) ?_
  rw [show bunD b = .tup [.s b.1, .lst (b.2.map entD)] from rfl]
  walk_at "w"
  refine wr_ixS' (hv b.1 b1) ?_
  walk_at "w"
  have hiff := holds_iff t hok (val := val) hb
  refine ⟨_, bs, ts, k, b, val b.1, rfl, hb, ?_⟩
  cases ep : partsAt b.2 (val b.1) with
  | none =>
    rw [show topsD none = .n from rfl]
    have e1 : decide (blkV ps val b.1 ∈ rowsB bs k) = false := decide_eq_false fun h => by
      obtain ⟨l, h1, _⟩ := hiff.mp h
      rw [ep] at h1
      cases h1
    rw [e1] at q
    walk_at "w"
    exact q
  | some l =>
    have hpl := parts_ok b2 ep
    have e1 : decide (blkV ps val b.1 ∈ rowsB bs k) = (l.map fun p => decide (blkV ps val (colAt bs p) ∈ rowsB bs p)).all id := by
      rw [Bool.eq_iff_iff, decide_eq_true_eq, all_parts hpl, hiff]
      constructor
      · rintro ⟨l', h1, h2⟩
        rw [ep] at h1
        cases h1
        exact h2
      · exact fun h => ⟨l, ep, h⟩
    rw [e1] at q
    rw [show topsD (some l) = .tup (l.map natD) from rfl]
    have hll := hpl.len
    walk_at "w"
    refine comp_mapT natD (fun p => .b (decide (blkV ps val (colAt bs p) ∈ rowsB bs p))) l [] (le_size (by simp; omega)) (fun p hp F k2 hk2 => ?_) ?_
    · walk_at "w"
      obtain ⟨b', hb', hc'⟩ := hpl.mem hp
      have hrk := rk_kid t hc'
      rw [colAt_eq hb'] at hk2
      refine ⟨ps, m, bs, ts, p, b', val, kv, rfl, by omega, t, hv, hok, hb', ?_⟩
      exact hk2
    rw [List.nil_append]
    walk_at "w"
    refine wc_all (bs := l.map fun p => decide (blkV ps val (colAt bs p) ∈ rowsB bs p)) (.inl (by rw [List.map_map]; rfl)) ?_
    exact q
theorem ok_holds (T : Tx K mg a) : FnOk P w K mg base CX0 22 a.f_holds a.d_holds ["fold", "number", "values"] (lift ⟨P, w, K⟩ (sp_holds a 9)) := okr_holds T 9
def sp_fhas (a : Ad) : Sp2 := fun ds M Q2 E2 => ∃ ps m bs ts d, ds = [foldD a.c_Fold (treeD a.c_Tree ps) bs ts, d] ∧ Tr ps ∧ m ≤ 1000 ∧ FoldOk ps m bs ts ∧ KnR M d ∧ (isRowD d (ps.length : Nat) = false → E2 a.c_NoRow ["at"] [.i 0] M) ∧ ∀ r, d = rowD r → r.length = ps.length → Q2 (.b (decide (r ∈ rowsT bs ts))) M
theorem ok_Fold_o_has (T : Tx K mg a) : FnOk P w K mg base (L2.CX P w) 25 a.f_Fold_o_has a.d_Fold_o_has ["self", "row"] (lift ⟨P, w, K⟩ (sp_fhas a)) := by
  refine okDX T.F_Fold_o_has sc_Fold_o_has (fun ds M Q2 E2 h => by obtain ⟨ps, m, bs, ts, d, rfl, _⟩ := h; rfl) fun cdv A outer s H E G Fr ds M Q2 E2 hr h hx => ⟨_, (pss_cons (ps_expr (pe_call (ok_want_row (P := P) (w := w) (K := K) (base := base) T) (hr.mono (by decide)) rfl T.g_want_row T.k_want_row T.bx1_want_row.choose_spec.2 T.bx1_want_row.choose_spec.1 (passE (takes_of rfl rfl rfl rfl) fun _ _ _ _ h => h) (pa_cons (pv 1) (pa_cons (pe_callB (call_lenO T.fl_Tree T.il_Tree (ok_Tree_o___len__ (P := P) (w := w) (K := K) (base := base) T) (hr.mono (by decide)) T.b_Tree_o___len__ passZ) rfl T.z_len bt_len (pa_cons (k_fld (K := K) rfl (pv 0) rfl) pa_nil)) pa_nil)))) (pss_cons (ps_if (pt_cmpR op_isNA (k_fld (K := K) rfl (pv 0) rfl) pe_non (nomark _)) (pss_one (ps_ret pe_bl)) pss_nil) (pss_cons (ps_set (i := 2) sc_Fold_o_has.nd rfl (Or.inr rfl) (pe_dictZ (W := ⟨P, w, K⟩) rfl rfl rfl rfl rfl T.z_dict rfl T.z_zip (pa_cons (pe_meth0 (k_fld (K := K) rfl (pv 0) rfl) T.cl_Tree T.m_Tree_o_columns (ok_Tree_o_columns (P := P) (w := w) (K := K) (base := base) T) (hr.mono (by decide)) T.b_Tree_o_columns .nil passZ) (pa_cons (pv 1) pa_nil)))) (pss_one (ps_ret (pe_callB (k_all (K := K) rfl rfl) rfl T.z_all bt_all (pa_cons (pe_lc (own := [("number", 3)]) (g := gName 3) rfl sc_Fold_o_has.nd (k_seq (K := K) rfl (k_fld (K := K) rfl (pv 0) rfl)) (blkOk_by (N := N_Fold_o_has) (own := [("number", 3)]) (sc := defScope s_Fold_o_has) (by first | decide +kernel | kernel_rfl)) (fun _ _ _ _ _ => (pg_name (i := 3) sc_Fold_o_has.nd rfl (Or.inl rfl))) (fun _ _ _ _ _ => pts_nil) (fun _ _ _ _ _ => (pe_call (ok_holds (P := P) (w := w) (K := K) (base := base) T) (hr.mono (by decide)) rfl T.g_holds T.k_holds T.b_holds .nil passZ (pa_cons (pv 0) (pa_cons (pv 3) (pa_cons (pv 2) pa_nil)))))) pa_nil))))))), ?_⟩
  obtain ⟨ps, m, bs, ts, d, rfl, t, hm0, fo, hd, q1, q2⟩ := h
  have cl_Fold := T.cl_Fold
  have na_Fold_shape := T.na_Fold_o_shape
  have na_Fold_roots := T.na_Fold_o_roots
  refine ws_start (ρ' := [some _, some _, none, none]) rfl ?_
  have h8 := t.len
  have hol := len_ord t
  walk_at "w"
  refine wc_lenO xcF (.inl rfl) ⟨_, rfl, _, rfl, by omega, by omega, ?_⟩
  rw [hol]
  walk_at "w"
  refine ⟨hd, fun e1 => ?_, q1⟩
  obtain ⟨r, rfl, lr⟩ := isRowD_of e1
  have q := q2 r rfl (by omega)
  walk_at "w"
  cases ts with
  | none =>
    refine if_tt rfl ?_
    walk_at "w"
    rw [show decide (r ∈ rowsT bs none) = false from decide_eq_false (by simp [rowsT])] at q
    exact q
  | some l =>
    refine if_ff rfl ?_
    have hl := fo.tops l rfl
    have hll := hl.len
    have hkl := kids_le (ps := ps) (o := none)
    have hrv : (ord ps none).map (valR (ord ps none) r) = r := map_valR (ord_nodup t none) (by omega)
    have e1 : decide (r ∈ rowsT bs (some l)) = (l.map fun p => decide (blkV ps (valR (ord ps none) r) (colAt bs p) ∈ rowsB bs p)).all id := by
      rw [Bool.eq_iff_iff, decide_eq_true_eq, all_parts hl, ← has_iff t fo.hok hl, hrv]
      rfl
    rw [e1] at q
    walk_at "w"
    refine we_dictZ rfl ?_
    walk_at "w"
    refine ⟨_, _, ord ps none, r.map DV.i, rfl, .inl rfl, .inr rfl, by omega, ord_nodup t none, ?_⟩
    walk_at "w"
    refine comp_mapT natD (fun p => .b (decide (blkV ps (valR (ord ps none) r) (colAt bs p) ∈ rowsB bs p))) l [] (le_size (by simp; omega)) (fun p hp F k2 hk2 => ?_) ?_
    · walk_at "w"
      obtain ⟨b', hb', hc'⟩ := hl.mem hp
      have hrk := rk8 t (kids_names hc')
      rw [colAt_eq hb'] at hk2
      refine ⟨ps, m, bs, some l, p, b', valR (ord ps none) r, _, rfl, by omega, t, fun c hc => ?_, fo.hok, hb', ?_⟩
      · obtain ⟨v, hv⟩ := lookI_some (cs := ord ps none) (row := r) (by omega) ((ord_mem t).mpr hc)
        rw [val_zip]
        unfold valR
        rw [hv]
        rfl
      exact hk2
    rw [List.nil_append]
    walk_at "w"
    refine wc_all (bs := l.map fun p => decide (blkV ps (valR (ord ps none) r) (colAt bs p) ∈ rowsB bs p)) (.inl (by rw [List.map_map]; rfl)) ?_
    exact q
def sp_fbunches (a : Ad) : Sp2 := fun ds M Q2 _ => ∃ dT bs ts, ds = [foldD a.c_Fold dT bs ts] ∧ bs.length ≤ 10000 ∧ Q2 (.lst (bs.map bunD)) M
theorem ok_Fold_o_bunches (T : Tx K mg a) : FnOk P w K mg base CX0 3 a.f_Fold_o_bunches a.d_Fold_o_bunches ["self"] (lift ⟨P, w, K⟩ (sp_fbunches a)) := by
  refine okD T.F_Fold_o_bunches sc_Fold_o_bunches (fun ds M Q2 E2 h => by obtain ⟨dT, bs, ts, rfl, _⟩ := h; rfl) fun cdv A outer s H E G Fr ds M Q2 E2 hr h => ⟨_, (pss_one (ps_ret (pe_lc (own := [("column", 1), ("entries", 2)]) (g := gTup K 2 (gCons (gName 1) (gCons (gName 2) gNil))) rfl sc_Fold_o_bunches.nd (k_ls (K := K) rfl (k_fld (K := K) rfl (pv 0) rfl)) (blkOk_by (N := N_Fold_o_bunches) (own := [("column", 1), ("entries", 2)]) (sc := defScope s_Fold_o_bunches) (by first | decide +kernel | kernel_rfl)) (fun _ _ _ _ _ => (k_gtup (K := K) rfl rfl (pgs_cons (pg_name (i := 1) sc_Fold_o_bunches.nd rfl (Or.inl rfl)) (pgs_cons (pg_name (i := 2) sc_Fold_o_bunches.nd rfl (Or.inl rfl)) pgs_nil)))) (fun _ _ _ _ _ => pts_nil) (fun _ _ _ _ _ => (pe_tup (pa_cons (pv 1) (pa_cons (pe_callTy (k_list (K := K) rfl) rfl T.z_list bt_list (pa_cons (pv 2) pa_nil)) pa_nil))))))), ?_⟩
  obtain ⟨dT, bs, ts, rfl, hl, q⟩ := h
  have cl_Fold := T.cl_Fold
  have na_Fold_held := T.na_Fold_o_held
  refine ws_start (ρ' := [some _, none, none]) rfl ?_
  walk_at "w"
  refine comp_mapT bunD bunD bs [] (le_size (by simp; omega)) (fun b hb F k2 hk2 => ?_) ?_
  · rw [show bunD b = .tup [.s b.1, .lst (b.2.map entD)] from rfl] at hk2 ⊢
    walk_at "w"
    exact hk2
  exact q
def foldTxt (c n : Nat) : Str := txI (c : Nat) ++ " rows in " ++ txI (n : Nat) ++ " bunches"
def sp_fstr (a : Ad) : Sp2 := fun ds M Q2 _ => ∃ ps m bs ts, ds = [foldD a.c_Fold (treeD a.c_Tree ps) bs ts] ∧ Tr ps ∧ m ≤ 1000 ∧ FoldOk ps m bs ts ∧ (∀ k, k < bs.length → (rowsB bs k).length < 2 ^ 64) ∧ (rowsT bs ts).length < 2 ^ 64 ∧ Q2 (.s (foldTxt (rowsT bs ts).length bs.length)) M
theorem emp_app (x : Str) : Str.empty ++ x = x := by
  show (⟨#[] ++ x.cps⟩ : Str) = x
  rw [Array.empty_append]
theorem ok_Fold_o___str__ (T : Tx K mg a) : FnOk P w K mg base CX0 15 a.f_Fold_o___str__ a.d_Fold_o___str__ ["self"] (lift ⟨P, w, K⟩ (sp_fstr a)) := by
  refine okD T.F_Fold_o___str__ sc_Fold_o___str__ (fun ds M Q2 E2 h => by obtain ⟨ps, m, bs, ts, rfl, _⟩ := h; rfl) fun cdv A outer s H E G Fr ds M Q2 E2 hr h => ⟨_, (pss_one (ps_ret (pe_joinedD (PJ.cons (pe_fmt (pe_meth0 (pv 0) T.cl_Fold T.m_Fold_o_count (ok_Fold_o_count (P := P) (w := w) (K := K) (base := base) T) (hr.mono (by decide)) T.b_Fold_o_count .nil passZ)) (PJ.cons pe_str (PJ.cons (pe_fmt (pe_callB (k_len (K := K) rfl) rfl T.z_len bt_len (pa_cons (k_fld (K := K) rfl (pv 0) rfl) pa_nil))) (PJ.cons pe_str PJ.nil))))))), ?_⟩
  obtain ⟨ps, m, bs, ts, rfl, t, hm0, fo, h64, ht64, q⟩ := h
  have cl_Fold := T.cl_Fold
  have na_Fold_held := T.na_Fold_o_held
  refine ws_start (ρ' := [some _]) rfl ?_
  have hl := fo.len
  have l1 := txI_len ht64
  have l2 := txI_len (n := bs.length) (by omega)
  walk_at "w"
  refine we_joined (we_fmtI ?_)
  walk_at "w"
  refine ⟨ps, m, bs, ts, rfl, t, hm0, fo, h64, ?_⟩
  refine ⟨_, rfl, log_lt ht64, _, rfl, ?_, we_c ⟨_, rfl, ?_, we_fmtI ?_⟩⟩
  · rw [emp_app]; exact le_size (by omega)
  · rw [emp_app, len_app]
    have : (Str.ofString " rows in ").length = 9 := by decide +kernel
    exact le_size (by omega)
  walk_at "w"
  refine ⟨log_lt (by omega), _, rfl, ?_, we_c ⟨_, rfl, ?_, ?_⟩⟩
  · rw [emp_app, len_app, len_app]
    have : (Str.ofString " rows in ").length = 9 := by decide +kernel
    exact le_size (by omega)
  · rw [emp_app, len_app, len_app, len_app]
    have : (Str.ofString " rows in ").length = 9 := by decide +kernel
    have : (Str.ofString " bunches").length = 8 := by decide +kernel
    exact le_size (by omega)
  rw [emp_app]
  exact q
theorem natsD_inj {x y : List Nat} (h : natsD x = natsD y) : x = y := by
  unfold natsD at h
  injection h with h
  induction x generalizing y with
  | nil => cases y with
    | nil => rfl
    | cons _ _ => cases h
  | cons n x ih => cases y with
    | nil => cases h
    | cons m y =>
      rw [List.map_cons, List.map_cons] at h
      injection h with h1 h2
      injection h1 with h1
      injection h1 with h1
      rw [ih h2, Int.ofNat.inj h1]
theorem map_inj' {α : Type} {f : α → DV} (hf : ∀ {x y}, f x = f y → x = y) : ∀ {x y : List α}, x.map f = y.map f → x = y
  | [], [], _ => rfl
  | [], _ :: _, h => by cases h
  | _ :: _, [], h => by cases h
  | a :: x, b :: y, h => by
    rw [List.map_cons, List.map_cons] at h
    injection h with h1 h2
    rw [hf h1, map_inj' hf h2]
theorem entD_inj {x y : Ent} (h : entD x = entD y) : x = y := by
  unfold entD at h
  injection h with h
  injection h with h1 h2
  injection h2 with h2 _
  injection h1 with h1
  injection h1 with h1
  exact Prod.ext h1 (natsD_inj h2)
theorem bunD_inj {x y : Bun} (h : bunD x = bunD y) : x = y := by
  unfold bunD at h
  injection h with h
  injection h with h1 h2
  injection h2 with h2 _
  injection h1 with h1
  injection h1 with h1
  injection h2 with h2
  exact Prod.ext h1 (map_inj' entD_inj h2)
theorem topsD_inj {x y : Option (List Nat)} (h : topsD x = topsD y) : x = y := by
  cases x with
  | none => cases y with
    | none => rfl
    | some _ => cases h
  | some x => cases y with
    | none => cases h
    | some y => rw [natsD_inj h]
theorem pln_buns : ∀ l : List Bun, (∀ b ∈ l, PyData.strOk b.1 = true) → plnL (l.map bunD) = true
  | [], _ => rfl
  | b :: l, h => by
    rw [List.map_cons, plnL, pln_buns l fun b hb => h b (List.mem_cons_of_mem _ hb)]
    simp [bunD, DV.pln, plnL, pln_ents, h b List.mem_cons_self]
theorem dep_buns : ∀ l : List Bun, depL (l.map bunD) ≤ 4
  | [] => Nat.zero_le _
  | b :: l => by
    rw [List.map_cons, depL]
    have h1 := dep_buns l
    have h2 := dep_ents b.2
    have h3 : (bunD b).dep ≤ 4 := by
      simp only [bunD, DV.dep, depL]
      omega
    omega
theorem pln_tops : ∀ ts : Option (List Nat), (topsD ts).pln = true
  | none => rfl
  | some l => pln_nats l
theorem dep_tops : ∀ ts : Option (List Nat), (topsD ts).dep ≤ 1
  | none => Nat.zero_le _
  | some l => by
    have := dep_nats l
    show depL _ + 1 ≤ 1
    omega
theorem HOk.str {ps : Prs} {m : Nat} {bs : List Bun} (t : Tr ps) (h : HOk ps m bs) : ∀ b ∈ bs, PyData.strOk b.1 = true := fun b hb => nameB_ok (t.name (h b hb).1)
def sp_feq (a : Ad) : Sp2 := fun ds M Q2 _ => ∃ ps bs ts d, ds = [foldD a.c_Fold (treeD a.c_Tree ps) bs ts, d] ∧
  ((∃ qs m m' bs' ts', d = foldD a.c_Fold (treeD a.c_Tree qs) bs' ts' ∧ Tr ps ∧ Tr qs ∧ HOk ps m bs ∧ HOk qs m' bs' ∧ Q2 (.b (decide (Teq ps qs ∧ bs = bs' ∧ ts = ts'))) M) ∨
   (∃ k, kdM M d = some k ∧ Q2 (.b false) M) ∨ ∃ qs, d = treeD a.c_Tree qs ∧ Q2 (.b false) M)
theorem kit_fold {K : PySem.W.Frag} {mg : Str → Option Value} {a : Ad} (T : Tx K mg a) (k : Kd) : PySem.W.kitOne K (.type k.nm) (.ref a.c_Fold) = some false := by
  cases k
  · exact T.ki_int_Fold
  · exact T.ki_str_Fold
  · exact T.ki_bool_Fold
  · exact T.ki_NoneType_Fold
  · exact T.ki_list_Fold
  · exact T.ki_tuple_Fold
  · exact T.ki_dict_Fold
theorem ok_Fold_o___eq__ (T : Tx K mg a) : FnOk P w K mg base CX0 6 a.f_Fold_o___eq__ a.d_Fold_o___eq__ ["self", "other"] (lift ⟨P, w, K⟩ (sp_feq a)) := by
  refine okD T.F_Fold_o___eq__ sc_Fold_o___eq__ (fun ds M Q2 E2 h => by obtain ⟨ps, bs, ts, d, rfl, _⟩ := h; rfl) fun cdv A outer s H E G Fr ds M Q2 E2 hr h => ⟨_, (pss_cons (ps_if (pt_not (pt_val (pe_callB (k_isi (K := K) rfl) rfl T.z_isinstance bt_isinstance (pa_cons (pv 1) (pa_cons (pe_glob (v := .ref a.c_Fold) rfl T.gc_Fold rfl) pa_nil))))) (pss_one (ps_ret pe_bl)) pss_nil) (pss_one (ps_ret (pe_and (pe_cmpR (op_own_eq T.eq_Tree (ok_Tree_o___eq__ (P := P) (w := w) (K := K) (base := base) T) (hr.mono (by decide)) T.b_Tree_o___eq__ passZ) (k_fld (K := K) rfl (pv 0) rfl) (k_fld (K := K) rfl (pv 1) rfl) (nomark _)) (pe_and (pe_cmpR (k_eq (K := K) rfl (hu64 hr)) (k_fld (K := K) rfl (pv 0) rfl) (k_fld (K := K) rfl (pv 1) rfl) (nomark _)) (pe_one (pe_cmpR (k_eq (K := K) rfl (hu64 hr)) (k_fld (K := K) rfl (pv 0) rfl) (k_fld (K := K) rfl (pv 1) rfl) (nomark _)))))))), ?_⟩
  obtain ⟨ps, bs, ts, d, rfl, hor⟩ := h
  have cl_Fold := T.cl_Fold
  have na_Fold_shape := T.na_Fold_o_shape
  have na_Fold_held := T.na_Fold_o_held
  have na_Fold_roots := T.na_Fold_o_roots
  refine ws_start (ρ' := [some _, some _]) rfl ?_
  rcases hor with ⟨qs, m, m', bs', ts', rfl, t, u, h1, h2, q⟩ | ⟨k, hk, q⟩ | ⟨qs, rfl, q⟩
  case inr.inl =>
    walk_at "w"
    refine wc_isC hk (kit_fold T k) ?_
    walk_at "w"
    exact q
  case inr.inr =>
    walk_at "w"
    refine wc_isi (.own _) (tyD_obj T.eq_Tree (.inl rfl)) T.ki_Tree_Fold ?_
    walk_at "w"
    exact q
  walk_at "w"
  refine wc_isi (.own _) (tyD_obj T.eq_Fold (.inl rfl)) T.kt_Fold_Fold ?_
  walk_at "w"
  refine wr_own xcF (.inl rfl) (tyD_obj T.eq_Tree (.inl rfl)) T.nf_Tree_Tree ⟨_, _, rfl, .inl ⟨_, rfl, t, u, fun c hc => nameB_ok (t.name hc), fun c hc => nameB_ok (u.name hc), _, rfl, ?_⟩⟩
  refine ⟨_, rfl, ?_⟩
  rw [if_neg Bool.false_ne_true]
  have no : ¬ (Teq ps qs ∧ bs = bs' ∧ ts = ts') → Q2 (.b false) M := fun h => by
    rw [decide_eq_false h] at q
    exact q
  refine if_d (fun h3 => ?_) fun h3 => no fun h => h3 h.1
  walk_at "w"
  refine wr_eqB (d := .lst (bs.map bunD)) (e := .lst (bs'.map bunD)) (.inl rfl) (.inl rfl) (pln_buns _ (HOk.str t h1)) (pln_buns _ (HOk.str u h2)) (by show depL _ + 1 ≤ 64; have := dep_buns bs; omega) (by show depL _ + 1 ≤ 64; have := dep_buns bs'; omega) fun b hb => ?_
  refine ⟨_, rfl, ?_⟩
  refine if_b (fun e => ?_) fun e => ?_
  · have eb : bs = bs' := map_inj' bunD_inj (by have := hb.mp e; injection this)
    walk_at "w"
    refine wr_eqB (d := topsD ts) (e := topsD ts') (.inl rfl) (.inl rfl) (pln_tops _) (pln_tops _) (by have := dep_tops ts; omega) (by have := dep_tops ts'; omega) fun c hc => ?_
    have ec : c = decide (Teq ps qs ∧ bs = bs' ∧ ts = ts') := by
      rw [Bool.eq_iff_iff, decide_eq_true_eq, hc]
      exact ⟨fun h => ⟨h3, eb, topsD_inj h⟩, fun h => by rw [h.2.2]⟩
    rw [ec]
    exact q
  · refine no fun h => ?_
    rw [hb.mpr (by rw [h.2.1])] at e
    cases e
def sp_rowsat (a : Ad) (n : Nat) : Sp2 := fun ds M Q2 _ => ∃ qk ps m bs ts k d M0 l, ds = [foldD a.c_Fold (treeD a.c_Tree ps) bs ts, natD k, .r qk] ∧ M = updM M0 qk (dlM (knwD bs l)) ∧ d < n ∧ Tr ps ∧ m ≤ 1000 ∧ HOk ps m bs ∧ NonE bs ∧ bs.length ≤ 10000 ∧ deepB bs d k ∧ (rowsB bs k).length ≤ 100000 ∧ Vis bs l ∧ ∀ l', Vis bs l' → Q2 (rowsD (rowsB bs k)) (updM M0 qk (dlM (knwD bs l')))
def sp_rop (a : Ad) (n : Nat) : Sp2 := fun ds M Q2 _ => ∃ qk ps m bs ts parts d M0 l, ds = [foldD a.c_Fold (treeD a.c_Tree ps) bs ts, natsD parts, .r qk] ∧ M = updM M0 qk (dlM (knwD bs l)) ∧ d < n ∧ Tr ps ∧ m ≤ 1000 ∧ HOk ps m bs ∧ NonE bs ∧ bs.length ≤ 10000 ∧ (∀ p ∈ parts, deepB bs d p) ∧ (prodR (parts.map (rowsB bs))).length ≤ 100000 ∧ parts.length ≤ 8 ∧ Vis bs l ∧ ∀ l', Vis bs l' → Told Q2 (updM M0 qk (dlM (knwD bs l'))) ((prodR (parts.map (rowsB bs))).map rowD)
theorem mem_le_sum {l : List Nat} {x : Nat} (h : x ∈ l) : x ≤ l.sum := by
  induction l with
  | nil => cases h
  | cons y l ih =>
    rw [List.sum_cons]
    rcases List.mem_cons.mp h with rfl | h
    · omega
    · have := ih h; omega
theorem ent_le {R : Nat → List (List Int)} {es : List Ent} {e : Ent} (h : e ∈ es) : (prodR (e.2.map R)).length ≤ (entRows R es).length := by
  rw [entRows_len, prodR_len, List.map_map]
  exact mem_le_sum (List.mem_map.mpr ⟨e, h, rfl⟩)
theorem ent_take {R : Nat → List (List Int)} {es : List Ent} (i : Nat) : (entRows R (es.take i)).length ≤ (entRows R es).length := by
  have : entRows R es = entRows R (es.take i) ++ entRows R (es.drop i) := by rw [← entRows_app, List.take_append_drop]
  rw [this, List.length_append]
  omega
theorem deepB_at {bs : List Bun} {d k : Nat} (h : deepB bs d k) : ∃ b, bs[k]? = some b := by
  cases d with
  | zero => exact absurd h id
  | succ d => obtain ⟨b, hb, _⟩ := h; exact ⟨b, hb⟩
theorem prodL_wide {n : Nat} : ∀ {l : List (List (List Int))}, (∀ rs ∈ l, ∀ r ∈ rs, r.length ≤ n) → ∀ r ∈ prodR l, r.length ≤ n * l.length
  | [], _, r, hr => by
    rw [prodR, List.mem_singleton] at hr
    rw [hr]; exact Nat.zero_le _
  | rs :: l, h, r, hr => by
    rw [prodR] at hr
    simp only [List.mem_flatMap, List.mem_map] at hr
    obtain ⟨x, hx, y, hy, rfl⟩ := hr
    have h1 := h rs List.mem_cons_self x hx
    have h2 := prodL_wide (fun rs hrs => h rs (List.mem_cons_of_mem _ hrs)) y hy
    rw [List.length_append, List.length_cons, Nat.mul_add, Nat.mul_one]
    omega
theorem rows_w8 {ps : Prs} {m : Nat} {bs : List Bun} (t : Tr ps) (h : HOk ps m bs) {k : Nat} {b : Bun} (hb : bs[k]? = some b) : ∀ r ∈ rowsB bs k, r.length ≤ 8 := fun r hr => by
  have := rows_wide t h hb r hr
  have := ord_kid_len t (h b (List.mem_of_getElem? hb)).1
  omega
theorem okz_rows_at (T : Tx K mg a) (h0 : ∀ ds M Q2 E2, ¬ (sp_rowsat a 0) ds M Q2 E2) : FnOk P w K mg base CX0 (1) a.f_rows_at a.d_rows_at ["fold", "number", "known"] (lift ⟨P, w, K⟩ (sp_rowsat a 0)) := by
  refine okD T.F_rows_at sc_rows_at (fun ds M Q2 E2 h => absurd h (h0 ds M Q2 E2)) fun cdv A outer s H E G Fr ds M Q2 E2 hr h => absurd h (h0 ds M Q2 E2)
theorem oki_rows_at (T : Tx K mg a) (n lv : Nat) (IH : FnOk P w K mg base CX0 (lv) a.f_rows_of_parts a.d_rows_of_parts ["fold", "parts", "known"] (lift ⟨P, w, K⟩ (sp_rop a n))) : FnOk P w K mg base CX0 (lv + 3) a.f_rows_at a.d_rows_at ["fold", "number", "known"] (lift ⟨P, w, K⟩ (sp_rowsat a (n + 1))) := by
  refine okD T.F_rows_at sc_rows_at (fun ds M Q2 E2 h => by obtain ⟨qk, ps, m, bs, ts, k, d, M0, l, rfl, _⟩ := h; rfl) fun cdv A outer s H E G Fr ds M Q2 E2 hr h => ⟨_, (pss_cons (ps_if (pt_cmpR (op_ni_leaf (W := ⟨P, w, K⟩) rfl rfl) (pv 1) (pv 2) rfl) (pss_cons (ps_set (i := 3) sc_rows_at.nd rfl (Or.inl rfl) (pe_lstM pa_nil)) (pss_cons (ps_for PassesOwn.never rfl (k_ls (K := K) rfl (pe_ix (k_ix (K := K) rfl) (pe_ix (k_ix (K := K) rfl) (k_fld (K := K) rfl (pv 0) rfl) (pv 1) (fun _ _ => rfl)) pe_int (fun _ _ => rfl))) (k_gtup (K := K) rfl rfl (pgs_cons (pg_name (i := 4) sc_rows_at.nd rfl (Or.inr rfl)) (pgs_cons (pg_name (i := 5) sc_rows_at.nd rfl (Or.inl rfl)) pgs_nil))) (pss_one (ps_expr (k_bm (K := K) rfl PySem.F.plainAttrs_list PySem.F.slot_list_extend PySem.F.type_list_extend mt_extend (pv 3) (pa_cons (pe_lc (own := [("rest", 6)]) (g := gName 6) rfl sc_rows_at.nd (k_ls (K := K) rfl (pe_call IH (hr.mono (by omega)) rfl T.g_rows_of_parts T.k_rows_of_parts T.b_rows_of_parts .nil passZ (pa_cons (pv 0) (pa_cons (pv 5) (pa_cons (pv 2) pa_nil))))) (blkOk_by (N := N_rows_at) (own := [("rest", 6)]) (sc := defScope s_rows_at) (by first | decide +kernel | kernel_rfl)) (fun _ _ _ _ _ => (pg_name (i := 6) sc_rows_at.nd rfl (Or.inl rfl))) (fun _ _ _ _ _ => pts_nil) (fun _ _ _ _ _ => (pe_op (k_addT (K := K) rfl) (pe_tup (pa_cons (pv 4) pa_nil)) (pv 6)))) pa_nil))))) (pss_one (ps_stop (ps_asg (pv 3) (pg_sub (pv 2) (pv 1) (set_leaf (W := ⟨P, w, K⟩) rfl rfl))))))) pss_nil) (pss_one (ps_ret (pe_ix (ix_leaf (W := ⟨P, w, K⟩) rfl rfl) (pv 2) (pv 1) (fun _ _ => rfl))))), ?_⟩
  obtain ⟨qk, ps, m, bs, ts, k, d, M0, l, rfl, rfl, hn, t, hm0, hok, hne, hbl, hd, hz, hl, q⟩ := h
  have cl_Fold := T.cl_Fold
  have na_Fold_held := T.na_Fold_o_held
  have cl_Pool := T.cl_Pool
  have na_Pool_held := T.na_Pool_o_held
  refine ws_start (ρ' := [some _, some _, some _, none, none, none, none]) rfl ?_
  obtain ⟨d, rfl⟩ : ∃ d', d = d' + 1 := by
    cases d with
    | zero => exact absurd hd id
    | succ d => exact ⟨d, rfl⟩
  have hd0 := hd
  obtain ⟨b, hb, hp⟩ := hd
  obtain ⟨b1, b2, b3⟩ := hok b (List.mem_of_getElem? hb)
  have hreq := rows_eq t hok hb
  walk_at "w"
  refine wr_inF' (k := .num (k : Nat)) (neg := true) (.inr ⟨qk, rfl, updM_same⟩) ?_
  rw [knw_val]
  refine ⟨_, rfl, ?_⟩
  by_cases hkl : k ∈ l
  · rw [if_pos hkl, if_neg (by simp)]
    walk_at "w"
    refine wr_ixF (k := .num (k : Nat)) (.inr ⟨qk, rfl, updM_same⟩) (by rw [knw_val, if_pos hkl]) ?_
    exact q l hl
  rw [if_neg hkl, if_pos (by simp)]
  walk_at "w"
  intro qf hqf
  obtain ⟨nf, hqf0⟩ := updM_none hqf
  walk_at "w"
  refine wr_atN (k := k) (.inl rfl) (by rw [List.getElem?_map, hb]; rfl) ?_
  rw [show bunD b = .tup [.s b.1, .lst (b.2.map entD)] from rfl]
  walk_at "w"
  refine loop_K (β := List (List Int) × List Nat) [4, 5, 6] (fun st => updM (updM M0 qk (dlM (knwD bs st.2))) qf (.lst (st.1.map rowD))) (fun i st => st.1 = entRows (rowsB bs) (b.2.take i) ∧ Vis bs st.2) (b0 := ([], l)) ⟨rfl, hl⟩ (fun i dd st hi hI => ?_) fun st hI => ?_
  · obtain ⟨e, he, rfl⟩ : ∃ e, b.2[i]? = some e ∧ dd = entD e := by
      rw [List.getElem?_map] at hi
      cases e : b.2[i]? with
      | none => rw [e] at hi; cases hi
      | some x => rw [e] at hi; cases hi; exact ⟨x, rfl, rfl⟩
    have hem := List.mem_of_getElem? he
    obtain ⟨est, hv⟩ := hI
    have hz1 : (prodR (e.2.map (rowsB bs))).length ≤ 100000 := Nat.le_trans (ent_le hem) (by rw [← hreq]; exact hz)
    have hz2 : st.1.length ≤ 100000 := by rw [est]; exact Nat.le_trans (ent_take i) (by rw [← hreq]; exact hz)
    have hel : e.2.length ≤ 8 := by
      have h1 := (b2.2 e hem).len
      have h2 := kids_le (ps := ps) (o := some b.1)
      have h3 := t.len
      omega
    rw [show entD e = .tup [.i e.1, natsD e.2] from rfl]
    walk_at "w"
    refine ⟨qk, ps, m, bs, ts, e.2, d, updM M0 qf (.lst (st.1.map rowD)), st.2, rfl, updM_comm (Ne.symm nf), by omega, t, hm0, hok, hne, hbl, hp e hem, hz1, hel, hv, fun l' hv' => told_f ⟨_, rfl, ?_⟩⟩
    rw [updM_comm nf]
    refine comp_mapT rowD (fun r => rowD (e.1 :: r)) (prodR (e.2.map (rowsB bs))) [] (le_size (by simp; omega)) (fun r hr F k2 hk2 => ?_) ?_
    · have hrw := prodL_wide (n := 8) (l := e.2.map (rowsB bs)) (fun rs hrs => by
        obtain ⟨p, hpp, rfl⟩ := List.mem_map.mp hrs
        obtain ⟨b', hb'⟩ := deepB_at (hp e hem p hpp)
        exact rows_w8 t hok hb') r hr
      rw [List.length_map] at hrw
      rw [show rowD r = .tup (r.map DV.i) from rfl]
      walk_at "w"
      refine wr_tupAdd (by simp; omega) ?_
      exact hk2
    rw [List.nil_append]
    walk_at "w"
    refine wm_ext1 (.inl rfl) (by simp only [List.length_map]; omega) ?_
    refine ⟨by dsimp only [wipe2, List.set], (st.1 ++ (prodR (e.2.map (rowsB bs))).map (e.1 :: ·), l'), ⟨?_, hv'⟩, ?_⟩
    · rw [take_succ_get he, entRows_app, est]
      unfold entRows
      rw [List.flatMap_singleton]
    · rw [List.map_append, List.map_map]
      rfl
  · obtain ⟨est, hv⟩ := hI
    rw [List.length_map, List.take_length, ← hreq] at est
    refine ws_stop ?_
    refine ws_frzL 3 rfl updM_same ?_
    rw [delM_updM (by rw [updM_ne nf]; exact hqf0)]
    have hvl := hv.len
    walk_at "w"
    refine wset_leaf (k := .num (k : Nat)) updM_same (by unfold knwD; rw [List.length_map]; omega) ?_
    rw [updM_upd, est, show DV.lst ((rowsB bs k).map rowD) = rowsD (rowsB bs k) from rfl, knw_put]
    walk_at "w"
    refine wr_ixF (k := .num (k : Nat)) (.inr ⟨qk, rfl, updM_same⟩) (by rw [knw_val, if_pos (by by_cases h : k ∈ st.2 <;> simp [h])]) ?_
    refine q _ ?_
    by_cases h : k ∈ st.2
    · rw [if_pos h]; exact hv
    · rw [if_neg h]; exact hv.snoc h (get_lt hb)
theorem oki_rows_of_parts (T : Tx K mg a) (n lv : Nat) (IH : FnOk P w K mg base CX0 (lv) a.f_rows_at a.d_rows_at ["fold", "number", "known"] (lift ⟨P, w, K⟩ (sp_rowsat a n))) : FnOk P w K mg base CX0 (lv + 3) a.f_rows_of_parts a.d_rows_of_parts ["fold", "parts", "known"] (lift ⟨P, w, K⟩ (sp_rop a n)) := by
  refine okD T.F_rows_of_parts sc_rows_of_parts (fun ds M Q2 E2 h => by obtain ⟨qk, ps, m, bs, ts, parts, d, M0, l, rfl, _⟩ := h; rfl) fun cdv A outer s H E G Fr ds M Q2 E2 hr h => ⟨_, (pss_cons (ps_set (i := 3) sc_rows_of_parts.nd rfl (Or.inl rfl) (pe_lstM (pa_cons (pe_tup pa_nil) pa_nil))) (pss_cons (ps_for PassesOwn.never rfl (k_seq (K := K) rfl (pv 1)) (pg_name (i := 4) sc_rows_of_parts.nd rfl (Or.inl rfl)) (pss_cons (ps_set (i := 5) sc_rows_of_parts.nd rfl (Or.inl rfl) (pe_lstM pa_nil)) (pss_cons (ps_for PassesOwn.never rfl (k_ls (K := K) rfl (pv 3)) (pg_name (i := 6) sc_rows_of_parts.nd rfl (Or.inr rfl)) (pss_one (ps_expr (k_bm (K := K) rfl PySem.F.plainAttrs_list PySem.F.slot_list_extend PySem.F.type_list_extend mt_extend (pv 5) (pa_cons (pe_lc (own := [("rest", 7)]) (g := gName 7) rfl sc_rows_of_parts.nd (k_ls (K := K) rfl (pe_call IH (hr.mono (by omega)) rfl T.g_rows_at T.k_rows_at T.b_rows_at .nil passZ (pa_cons (pv 0) (pa_cons (pv 4) (pa_cons (pv 2) pa_nil))))) (blkOk_by (N := N_rows_of_parts) (own := [("rest", 7)]) (sc := defScope s_rows_of_parts) (by first | decide +kernel | kernel_rfl)) (fun _ _ _ _ _ => (pg_name (i := 7) sc_rows_of_parts.nd rfl (Or.inl rfl))) (fun _ _ _ _ _ => pts_nil) (fun _ _ _ _ _ => (pe_op (k_addT (K := K) rfl) (pv 6) (pv 7)))) pa_nil))))) (pss_one (ps_set (i := 3) sc_rows_of_parts.nd rfl (Or.inl rfl) (pv 5)))))) (pss_one (ps_ret (pe_as (pv 3)))))), ?_⟩
  obtain ⟨qk, ps, m, bs, ts, parts, d, M0, l, rfl, rfl, hn, t, hm0, hok, hne, hbl, hd, hz, hpl, hl, q⟩ := h
  refine ws_start (ρ' := [some _, some _, some _, none, none, none, none, none]) rfl ?_
  have hR : ∀ x ∈ parts.map fun p => (rowsB bs p).length, 1 ≤ x := fun x hx => by
    obtain ⟨p, hp, rfl⟩ := List.mem_map.mp hx
    obtain ⟨b, hb⟩ := deepB_at (hd p hp)
    exact rowsB_ne t hok hne hb
  have hw8 : ∀ p ∈ parts, ∀ r ∈ rowsB bs p, r.length ≤ 8 := fun p hp => by
    obtain ⟨b, hb⟩ := deepB_at (hd p hp)
    exact rows_w8 t hok hb
  have hmul : mulN (parts.map fun p => (rowsB bs p).length) ≤ 100000 := by
    rw [prodR_len, List.map_map] at hz
    exact hz
  have hpre : ∀ i, (prodL ((parts.take i).map (rowsB bs))).length ≤ 100000 := fun i => by
    rw [prodL_eq, prodR_len, List.map_map, List.map_take]
    exact Nat.le_trans (mulN_take hR i) hmul
  have hone : ∀ p ∈ parts, (rowsB bs p).length ≤ 100000 := fun p hp => Nat.le_trans (mulN_mem hR (List.mem_map.mpr ⟨p, hp, rfl⟩)) hmul
  unfold natsD
  walk_at "w"
  intro q0 hq0
  walk_at "w"
  refine loop_V (β := Addr × List (List Int) × List Nat) [4, 5, 6, 7] (fun b => [some (foldD a.c_Fold (treeD a.c_Tree ps) bs ts), some (.tup (parts.map fun n => DV.i (n : Nat))), some (.r qk), some (.r b.1), none, none, none, none]) (fun _ b => updM (updM M0 qk (dlM (knwD bs b.2.2))) b.1 (.lst (b.2.1.map rowD))) (fun i b => b.2.1 = prodL ((parts.take i).map (rowsB bs)) ∧ Vis bs b.2.2 ∧ b.1 ≠ qk ∧ M0 b.1 = none) 0 (n := 0) (b0 := (q0, [[]], l)) ⟨rfl, hl, (updM_none hq0).1, (updM_none hq0).2⟩ rfl (fun i dd mm b hi hm hI => ?_) fun mm b hm hI => ?_
  · obtain ⟨p, hp, rfl⟩ : ∃ p, parts[i]? = some p ∧ dd = natD p := by
      rw [List.getElem?_map] at hi
      cases e : parts[i]? with
      | none => rw [e] at hi; cases hi
      | some x => rw [e] at hi; cases hi; exact ⟨x, rfl, rfl⟩
    have hpm := List.mem_of_getElem? hp
    obtain ⟨qb, rows, lc⟩ := b
    obtain ⟨erows, hv, nb, hqb⟩ := hI
    dsimp only at erows hv nb hqb
    refine wg_name ?_
    refine ws_frzL 3 rfl updM_same ?_
    rw [delM_updM (by rw [updM_ne nb]; exact hqb)]
    have hrl : rows.length ≤ 100000 := by rw [erows]; exact hpre i
    walk_at "w"
    intro q1 hq1
    obtain ⟨n1, hq10⟩ := updM_none hq1
    walk_at "w"
    refine loop_K (β := List (List Int) × List Nat) [6, 7] (fun st => updM (updM M0 qk (dlM (knwD bs st.2))) q1 (.lst (st.1.map rowD))) (fun j st => st.1 = (rows.take j).flatMap (fun r => (rowsB bs p).map (r ++ ·)) ∧ Vis bs st.2) (b0 := ([], lc)) ⟨rfl, hv⟩ (fun j dj st hj hst => ?_) fun st hst => ?_
    · obtain ⟨r, hr, rfl⟩ := mapD_get hj
      obtain ⟨est, hv2⟩ := hst
      have hlen : (rows.flatMap fun r => (rowsB bs p).map (r ++ ·)).length ≤ 100000 := by
        have := hpre (i + 1)
        rw [take_succ_get hp, List.map_append, List.map_singleton, prodL_snoc, ← erows] at this
        exact this
      have hst1 : st.1.length ≤ 100000 := by
        rw [est]
        refine Nat.le_trans ?_ hlen
        rw [mul_flat, mul_flat, List.length_take]
        exact Nat.mul_le_mul_right _ (by omega)
      have hrw : r.length ≤ 64 := by
        have h1 := prodL_wide (n := 8) (l := (parts.take i).map (rowsB bs)) (fun rs hrs => by
          obtain ⟨p', hpp, rfl⟩ := List.mem_map.mp hrs
          exact hw8 p' (List.mem_of_mem_take hpp)) r (by rw [← prodL_eq, ← erows]; exact List.mem_of_getElem? hr)
        rw [List.length_map, List.length_take] at h1
        omega
      have h1p := hone p hpm
      walk_at "w"
      refine ⟨qk, ps, m, bs, ts, p, d, updM M0 q1 (.lst (st.1.map rowD)), st.2, rfl, updM_comm (Ne.symm n1), hn, t, hm0, hok, hne, hbl, hd p hpm, h1p, hv2, fun l' hv' => ⟨_, rfl, ?_⟩⟩
      rw [updM_comm n1]
      refine comp_mapT rowD (fun s => rowD (r ++ s)) (rowsB bs p) [] (le_size (by simp; omega)) (fun s hs F k2 hk2 => ?_) ?_
      · have := hw8 p hpm s hs
        rw [show rowD r = .tup (r.map DV.i) from rfl, show rowD s = .tup (s.map DV.i) from rfl]
        walk_at "w"
        refine wr_tupAdd (by simp; omega) ?_
        rw [← List.map_append]
        exact hk2
      rw [List.nil_append]
      walk_at "w"
      refine wm_ext1 (.inl rfl) (by simp only [List.length_map]; omega) ?_
      refine ⟨by dsimp only [wipe2, List.set], (st.1 ++ (rowsB bs p).map (r ++ ·), l'), ⟨?_, hv'⟩, ?_⟩
      · rw [take_succ_get hr, List.flatMap_append, est, List.flatMap_singleton]
      · rw [List.map_append, List.map_map]
        rfl
    · obtain ⟨est, hv2⟩ := hst
      rw [List.length_map, List.take_length] at est
      walk_at "w"
      refine ⟨0, (q1, st.1, st.2), by dsimp only [wipe2, List.set], Nat.zero_le _, ⟨?_, hv2, n1, hq10⟩, rfl⟩
      rw [take_succ_get hp, List.map_append, List.map_singleton, prodL_snoc, ← erows]
      exact est
  · obtain ⟨qb, rows, lc⟩ := b
    obtain ⟨erows, hv, nb, hqb⟩ := hI
    dsimp only at erows hv nb hqb
    rw [List.length_map, List.take_length, prodL_eq] at erows
    subst erows
    refine ws_ret (we_asVar ?_)
    walk_at "w"
    exact ⟨qb, _, _, rfl, rfl, by rw [updM_ne nb]; exact hqb, q lc hv⟩
theorem okr_rp (T : Tx K mg a) : ∀ n : Nat, FnOk P w K mg base CX0 (6 * n + 4) a.f_rows_of_parts a.d_rows_of_parts ["fold", "parts", "known"] (lift ⟨P, w, K⟩ (sp_rop a n))
  | 0 => oki_rows_of_parts T 0 1 (okz_rows_at T fun ds M Q2 E2 h => by obtain ⟨_, _, _, _, _, _, _, _, _, _, _, h, _⟩ := h; exact absurd h (Nat.not_lt_zero _))
  | n + 1 => oki_rows_of_parts T (n + 1) _ (oki_rows_at T n _ (okr_rp T n))
theorem ok_rows_of_parts (T : Tx K mg a) : FnOk P w K mg base CX0 58 a.f_rows_of_parts a.d_rows_of_parts ["fold", "parts", "known"] (lift ⟨P, w, K⟩ (sp_rop a 9)) := okr_rp T 9
def sp_unf (a : Ad) : Sp2 := fun ds M Q2 E2 => ∃ (ps : Prs) (m : Nat) (bs : List Bun) (ts : Option (List Nat)) (most : Int), ds = [foldD a.c_Fold (treeD a.c_Tree ps) bs ts, .i most] ∧ Tr ps ∧ m ≤ 1000 ∧ FoldOk ps m bs ts ∧ (∀ k, k < bs.length → (rowsB bs k).length < 2 ^ 64) ∧ most ≤ 100000 ∧ (((rowsT bs ts).length : Int) ≤ most → Told Q2 M ((rowsT bs ts).map rowD)) ∧ (most < ((rowsT bs ts).length : Int) → E2 a.c_TooMany ["many"] [natD (rowsT bs ts).length] M)
theorem ok_unfolded (T : Tx K mg a) : FnOk P w K mg base (L2.CX P w) 61 a.f_unfolded a.d_unfolded ["fold", "most"] (lift ⟨P, w, K⟩ (sp_unf a)) := by
  refine okDX T.F_unfolded sc_unfolded (fun ds M Q2 E2 h => by obtain ⟨ps, m, bs, ts, most, rfl, _⟩ := h; rfl) fun cdv A outer s H E G Fr ds M Q2 E2 hr h hx => ⟨_, (pss_cons (ps_set (i := 2) sc_unfolded.nd rfl (Or.inl rfl) (pe_meth0 (pv 0) T.cl_Fold T.m_Fold_o_count (ok_Fold_o_count (P := P) (w := w) (K := K) (base := base) T) (hr.mono (by decide)) T.b_Fold_o_count .nil passZ)) (pss_cons (ps_if (pt_cmpR op_gt (pv 2) (pv 1) (nomark _)) (pss_one (ps_raise rfl (takes_of rfl rfl rfl rfl) (pmk_oex T.ox_TooMany T.iC_TooMany T.tI_TooMany (ok_TooMany_o___init__ (P := P) (w := w) (K := K) (base := base) T) (hr.mono (by decide)) T.b_TooMany_o___init__ .nil passZ rfl T.gc_TooMany (pa_cons (pv 2) pa_nil)))) pss_nil) (pss_cons (ps_if (pt_cmpR op_isNA (pe_meth0 (pv 0) T.cl_Fold T.m_Fold_o_tops (ok_Fold_o_tops (P := P) (w := w) (K := K) (base := base) T) (hr.mono (by decide)) T.b_Fold_o_tops .nil passZ) pe_non (nomark _)) (pss_one (ps_ret (pe_as (pe_lst pa_nil)))) pss_nil) (pss_one (ps_ret (pe_as (pe_call (ok_rows_of_parts (P := P) (w := w) (K := K) (base := base) T) (hr.mono (by decide)) rfl T.g_rows_of_parts T.k_rows_of_parts T.b_rows_of_parts .nil passZ (pa_cons (pv 0) (pa_cons (pe_meth0 (pv 0) T.cl_Fold T.m_Fold_o_tops (ok_Fold_o_tops (P := P) (w := w) (K := K) (base := base) T) (hr.mono (by decide)) T.b_Fold_o_tops .nil passZ) (pa_cons (pe_dnewF (W := ⟨P, w, K⟩) rfl rfl) pa_nil)))))))))), ?_⟩
  obtain ⟨ps, m, bs, ts, most, rfl, t, hm0, fo, h64, hmo, q1, q2⟩ := h
  refine ws_start (ρ' := [some _, some _, none]) rfl ?_
  refine ws_weakR ?_
  walk_at "w"
  refine ⟨ps, m, bs, ts, rfl, t, hm0, fo, h64, ?_⟩
  unfold natD
  walk_at "w"
  refine if_d (fun h => ?_) fun h => ?_
  · refine ws_raise1 (wx_of hx) ?_
    walk_at "w"
    exact q2 h
  have q := q1 (by omega)
  walk_at "w"
  cases ts with
  | none =>
    refine if_tt rfl ?_
    exact ws_ret (we_as (we_told (we_lstMM (wa_nil ⟨by decide, fun q0 hq0 => ⟨q0, M, [], rfl, rfl, hq0, told_weak q MLe.rfl fun _ h => h⟩⟩))))
  | some l =>
    refine if_ff rfl ?_
    have hl := fo.tops l rfl
    have hll := hl.len
    have hkl := kids_le (ps := ps) (o := none)
    have h8 := t.len
    refine ws_next ?_
    refine ws_ret (we_as ?_)
    walk_at "w"
    refine we_dnewF fun qk hqk => ?_
    walk_at "w"
    refine ⟨qk, ps, m, bs, some l, l, 8, M, [], rfl, rfl, by omega, t, hm0, fo.hok, fo.ne, fo.len, fun p hp => ?_, ?_, by omega, ⟨List.nodup_nil, fun x hx => (by cases hx)⟩, fun l' hl' => ?_⟩
    · obtain ⟨b, hb, _⟩ := hl.mem hp
      exact fo.hok.deep t hb
    · have : ((rowsT bs (some l)).length : Int) ≤ most := by omega
      have e : rowsT bs (some l) = prodR (l.map (rowsB bs)) := rfl
      rw [← e]
      omega
    exact told_weak q (MLe.dropN hqk) fun z hz => (updM_none hz).2
def sp_well : Sp2 := fun ds M Q2 _ => ∃ c k : Int, ds = [.i c, .i k] ∧ ∀ p, M p = none → Q2 (.r p) (updM M p (wl 0))
theorem ok__law_well (T : Tx K mg a) : FnOk P w K mg base CX0 3 a.f__law_well a.d__law_well ["_law_cell", "_law_k"] (lift ⟨P, w, K⟩ (sp_well)) := by
  refine okD T.F__law_well sc__law_well (fun ds M Q2 E2 h => by obtain ⟨c, k, rfl, _⟩ := h; rfl) fun cdv A outer s H E G Fr ds M Q2 E2 hr h => ⟨_, (pss_one (ps_ret (pe_lstM (pa_cons (pe_op op_mulA (pv 0) (pe_callTy call_intQ rfl T.z_int bt_int (pa_cons (pe_cmpR op_ge (pv 0) (pe_op op_pow pe_int pe_int) (nomark _)) pa_nil))) (pa_cons (pe_op op_mod (pe_op (k_add (K := K) rfl) (pe_op op_mod (pv 0) pe_int) (pe_op op_mulA pe_int (pv 1))) pe_int) (pa_cons pe_int pa_nil)))))), ?_⟩
  obtain ⟨c, k, rfl, q⟩ := h
  refine ws_start (ρ' := [some _, some _]) rfl ?_
  refine ws_weakR ?_
  walk_at "w"
  refine fun p hp => ⟨_, MLe.upd (.close ⟨_, _, _, rfl, ?_, ?_, Int.le_refl _, Int.le_refl _⟩), q p hp⟩
  · exact Int.emod_nonneg _ (by decide)
  · exact Int.emod_lt_of_pos _ (by decide)
theorem ok__law_draw (T : Tx K mg a) : FnOk P w K mg base CX0 3 a.f__law_draw a.d__law_draw ["_law_well_here", "_law_top"] (lift ⟨P, w, K⟩ (sp_draw)) := by
  refine okD T.F__law_draw sc__law_draw (fun ds M Q2 E2 h => by obtain ⟨p, top, n, rfl, _⟩ := h; rfl) fun cdv A outer s H E G Fr ds M Q2 E2 hr h => ⟨_, (pss_cons (ps_if (pt_cmpR op_gt (pe_ix (k_ix (K := K) rfl) (pv 0) pe_int (fun _ _ => rfl)) pe_int (nomark _)) (pss_cons (ps_set (i := 2) sc__law_draw.nd rfl (Or.inl rfl) (pe_op op_mod (pe_ix (k_ix (K := K) rfl) (pv 0) pe_int (fun _ _ => rfl)) (pv 1))) (pss_cons (ps_asg (pe_op op_fdiv (pe_ix (k_ix (K := K) rfl) (pv 0) pe_int (fun _ _ => rfl)) (pv 1)) (pg_sub (pv 0) pe_int set_list)) (pss_one (ps_ret (pv 2))))) pss_nil) (pss_cons (ps_asg (pe_op (k_add (K := K) rfl) (pe_ix (k_ix (K := K) rfl) (pv 0) pe_int (fun _ _ => rfl)) pe_int) (pg_sub (pv 0) pe_int set_list)) (pss_cons (ps_set (i := 3) sc__law_draw.nd rfl (Or.inl rfl) (pe_ix (k_ix (K := K) rfl) (pe_lst (pa_cons pe_int (pa_cons pe_int (pa_cons pe_int (pa_cons pe_int (pa_cons pe_int pa_nil)))))) (pe_op op_mod (pe_ix (k_ix (K := K) rfl) (pv 0) pe_int (fun _ _ => rfl)) pe_int) (fun _ _ => rfl))) (pss_cons (ps_set (i := 4) sc__law_draw.nd rfl (Or.inl rfl) (pe_op op_mod (pe_op op_pow (pe_op (k_add (K := K) rfl) (pe_op (k_add (K := K) rfl) (pe_ix (k_ix (K := K) rfl) (pv 0) pe_int (fun _ _ => rfl)) (pe_op op_mulA pe_int (pe_ix (k_ix (K := K) rfl) (pv 0) pe_int (fun _ _ => rfl)))) pe_int) pe_int) (pv 3))) (pss_cons (ps_set (i := 4) sc__law_draw.nd rfl (Or.inl rfl) (pe_op op_mod (pe_op op_mulA (pe_op (k_add (K := K) rfl) (pv 4) (pe_ix (k_ix (K := K) rfl) (pv 0) pe_int (fun _ _ => rfl))) (pe_op (k_add (K := K) rfl) (pe_op op_fdiv (pv 4) pe_int) pe_int)) (pv 3))) (pss_one (ps_ret (pe_op op_mod (pe_op op_fdiv (pv 4) pe_int) (pv 1))))))))), ?_⟩
  obtain ⟨p, top, n, rfl, hm, hn, ht', ht2', q⟩ := h
  refine ws_start (ρ' := [some _, some _, none, none, none]) rfl ?_
  refine ws_weakR (ws_open hm fun ds0 hds => ?_)
  obtain ⟨A0, B, C, rfl, hB, hB2, hC, hC2⟩ := hds
  walk_at "d"
  refine wr_atL (.inr ⟨p, rfl, updM_same⟩) (e := .i A0) rfl ?_
  walk_at "d"
  refine wr_I0 ?_
  refine ex_b (if_b (fun h1 => ?_) fun h1 => ?_)
  · walk_at "d"
    refine wr_atL (.inr ⟨p, rfl, updM_same⟩) (e := .i A0) rfl ?_
    walk_at "d"
    refine wr_I ht' ?_
    walk_at "d"
    refine wr_atL (.inr ⟨p, rfl, updM_same⟩) (e := .i A0) rfl ?_
    walk_at "d"
    refine wr_I ⟨ht', ht2'⟩ ?_
    walk_at "d"
    refine wset_list updM_same (j := 0) rfl ?_
    walk_at "d"
    have g0 := Int.emod_nonneg A0 (by omega : top ≠ 0)
    have g1 := Int.emod_lt_of_pos A0 ht'
    obtain ⟨r, hr'⟩ := nat_of g0
    rw [updM_upd, hr']
    exact ⟨_, MLe.upd (.close ⟨A0 / top, B, C, rfl, hB, hB2, hC, by omega⟩), q r (by omega)⟩
  · walk_at "d"
    refine wr_atL (.inr ⟨p, rfl, updM_same⟩) (e := .i C) rfl ?_
    walk_at "d"
    refine wr_addI ?_
    walk_at "d"
    refine wset_list updM_same (j := 2) rfl ?_
    rw [updM_upd]
    walk_at "d"
    refine we_lst ?_
    walk_at "d"
    refine ⟨by show 5 ≤ sizeLine; decide, ?_⟩
    walk_at "d"
    refine wr_atL (.inr ⟨p, rfl, updM_same⟩) (e := .i (C + 1)) rfl ?_
    walk_at "d"
    refine wr_I (by decide) ?_
    have key : ∃ x : Int, atI [DV.i 2147483629, .i 2147483587, .i 2147483579, .i 2147483563, .i 2147483549] ((C + 1) % 5) = some (.i x) ∧ 0 < x ∧ x ≤ 2147483629 := by
      have h0 : 0 ≤ (C + 1) % 5 := Int.emod_nonneg _ (by decide)
      have h5 : (C + 1) % 5 < 5 := Int.emod_lt_of_pos _ (by decide)
      generalize (C + 1) % 5 = t at h0 h5
      have : t = 0 ∨ t = 1 ∨ t = 2 ∨ t = 3 ∨ t = 4 := by omega
      rcases this with rfl | rfl | rfl | rfl | rfl <;> exact ⟨_, rfl, by decide, by decide⟩
    obtain ⟨x, hx1, hx2, hx3⟩ := key
    refine wr_atL (.inl rfl) hx1 ?_
    walk_at "d"
    refine wr_atL (.inr ⟨p, rfl, updM_same⟩) (e := .i B) rfl ?_
    walk_at "d"
    refine wr_atL (.inr ⟨p, rfl, updM_same⟩) (e := .i (C + 1)) rfl ?_
    refine wr_mulI (.inl ⟨by decide, by decide⟩) ?_
    refine wr_addI ?_
    walk_at "d"
    refine wr_addI ?_
    walk_at "d"
    refine wr_I ⟨by decide, by decide, by omega⟩ ?_
    walk_at "d"
    refine wr_I hx2 ?_
    walk_at "d"
    refine wr_atL (.inr ⟨p, rfl, updM_same⟩) (e := .i (C + 1)) rfl ?_
    refine wr_addI ?_
    walk_at "d"
    refine wr_I ⟨by decide, by decide⟩ ?_
    walk_at "d"
    refine wr_addI ?_
    refine wr_mulI (.inl ?_) ?_
    · have g0 := Int.emod_nonneg ((B + 6701 * (C + 1) + 3) ^ (5 : Int).toNat) (by omega : x ≠ 0)
      have g1 := Int.emod_lt_of_pos ((B + 6701 * (C + 1) + 3) ^ (5 : Int).toNat) hx2
      constructor <;> omega
    walk_at "d"
    refine wr_I hx2 ?_
    walk_at "d"
    refine wr_I ⟨by decide, by decide⟩ ?_
    walk_at "d"
    refine wr_I ht' ?_
    generalize (((B + 6701 * (C + 1) + 3) ^ (5 : Int).toNat % x + (C + 1)) * ((B + 6701 * (C + 1) + 3) ^ (5 : Int).toNat % x / 1013 + 40693) % x / 11) = A1
    have g0 := Int.emod_nonneg A1 (by omega : top ≠ 0)
    have g1 := Int.emod_lt_of_pos A1 ht'
    obtain ⟨r, hr'⟩ := nat_of g0
    rw [hr']
    exact ⟨_, MLe.upd (.close ⟨A0, B, C + 1, rfl, hB, hB2, by omega, by push_cast; omega⟩), q r (by omega)⟩
def sp_names : Sp2 := fun ds M Q2 _ => ∃ (p : Addr) (c : Int) (n : Nat), ds = [.r p, .i c] ∧ M p = some (wl n) ∧ n ≤ 100000000 ∧ 0 ≤ c ∧ c ≤ 26 ∧
  ∀ (q : Addr) (m : Nat) (zs : List Str), q ≠ p → M q = none → m ≤ n + 11 → Nms zs → zs.length = c.toNat → Q2 (.r q) (updM (updM M p (wl m)) q (.lst (zs.map DV.s)))
theorem updM_self {M : Mu} {p : Addr} {o : MO} (h : M p = some o) : updM M p o = M := by
  funext b
  by_cases e : b = p
  · subst e; rw [updM_same, h]
  · rw [updM_ne e]
theorem ok__law_names (T : Tx K mg a) : FnOk P w K mg base CX0 6 a.f__law_names a.d__law_names ["_law_well_here", "_law_count"] (lift ⟨P, w, K⟩ (sp_names)) := by
  refine okD T.F__law_names sc__law_names (fun ds M Q2 E2 h => by obtain ⟨p, c, n, rfl, _⟩ := h; rfl) fun cdv A outer s H E G Fr ds M Q2 E2 hr h => ⟨_, (pss_cons (ps_set (i := 2) sc__law_names.nd rfl (Or.inr rfl) pe_str) (pss_cons (ps_set (i := 3) sc__law_names.nd rfl (Or.inl rfl) (pe_call (ok__law_draw (P := P) (w := w) (K := K) (base := base) T) (hr.mono (by decide)) rfl T.g__law_draw T.k__law_draw T.b__law_draw .nil passZ (pa_cons (pv 0) (pa_cons pe_int pa_nil)))) (pss_cons (ps_set (i := 4) sc__law_names.nd rfl (Or.inl rfl) (pe_ix (k_ix (K := K) rfl) (pe_lst (pa_cons pe_int (pa_cons pe_int (pa_cons pe_int (pa_cons pe_int (pa_cons pe_int (pa_cons pe_int (pa_cons pe_int (pa_cons pe_int pa_nil))))))))) (pe_call (ok__law_draw (P := P) (w := w) (K := K) (base := base) T) (hr.mono (by decide)) rfl T.g__law_draw T.k__law_draw T.b__law_draw .nil passZ (pa_cons (pv 0) (pa_cons pe_int pa_nil))) (fun _ _ => rfl))) (pss_cons (ps_set (i := 5) sc__law_names.nd rfl (Or.inl rfl) (k_bm (K := K) rfl PySem.F.plainAttrs_str PySem.F.slot_str_join PySem.F.type_str_join (k_join (K := K) rfl) pe_str (pa_cons (pe_lc (own := [("_law_k", 9)]) (g := gName 9) rfl sc__law_names.nd (pi_range1 rfl T.z_range (pa_cons pe_int pa_nil)) (blkOk_by (N := N__law_names) (own := [("_law_k", 9)]) (sc := defScope s__law_names) (by first | decide +kernel | kernel_rfl)) (fun _ _ _ _ _ => (pg_name (i := 9) sc__law_names.nd rfl (Or.inl rfl))) (fun _ _ _ _ _ => pts_nil) (fun _ _ _ _ _ => (pe_ix (k_ix (K := K) rfl) (pv 2) (pe_call (ok__law_draw (P := P) (w := w) (K := K) (base := base) T) (hr.mono (by decide)) rfl T.g__law_draw T.k__law_draw T.b__law_draw .nil passZ (pa_cons (pv 0) (pa_cons pe_int pa_nil))) (fun _ _ => rfl)))) pa_nil))) (pss_cons (ps_set (i := 6) sc__law_names.nd rfl (Or.inl rfl) (pe_call (ok__law_draw (P := P) (w := w) (K := K) (base := base) T) (hr.mono (by decide)) rfl T.g__law_draw T.k__law_draw T.b__law_draw .nil passZ (pa_cons (pv 0) (pa_cons pe_int pa_nil)))) (pss_cons (ps_set (i := 7) sc__law_names.nd rfl (Or.inl rfl) (pe_call (ok__law_draw (P := P) (w := w) (K := K) (base := base) T) (hr.mono (by decide)) rfl T.g__law_draw T.k__law_draw T.b__law_draw .nil passZ (pa_cons (pv 0) (pa_cons (pe_op op_sub pe_int (pv 6)) pa_nil)))) (pss_cons (ps_set (i := 8) sc__law_names.nd rfl (Or.inl rfl) (pe_lstM pa_nil)) (pss_cons (ps_for PassesOwn.never rfl (pi_range1 rfl T.z_range (pa_cons (pv 1) pa_nil)) (pg_name (i := 9) sc__law_names.nd rfl (Or.inl rfl)) (pss_cons (ps_set (i := 10) sc__law_names.nd rfl (Or.inl rfl) (pe_ix (k_ix (K := K) rfl) (pv 2) (pe_op op_mod (pe_op (k_add (K := K) rfl) (pv 3) (pe_op op_mulA (pv 4) (pv 9))) pe_int) (fun _ _ => rfl))) (pss_one (ps_expr (k_bm (K := K) rfl PySem.F.plainAttrs_list PySem.F.slot_list_append PySem.F.type_list_append mt_append (pv 8) (pa_cons (pe_op (k_add (K := K) rfl) (pe_op (k_add (K := K) rfl) (pe_slice (k_sl (K := K) rfl) (pv 5) po_none (po_some (pv 6))) (pv 10)) (pe_slice (k_sl (K := K) rfl) (pv 5) (po_some (pv 6)) (po_some (pe_op (k_add (K := K) rfl) (pv 6) (pv 7))))) pa_nil)))))) (pss_one (ps_ret (pv 8))))))))))), ?_⟩
  obtain ⟨p, c, n, rfl, hm, hn, hc0, hc26, q⟩ := h
  refine ws_start (ρ' := [some _, some _, none, none, none, none, none, none, none, none, none]) rfl ?_
  obtain ⟨count, rfl⟩ := nat_of hc0
  have hc : count ≤ 26 := by omega
  rw [← updM_self hm]
  walk_at "w"
  intro b hb
  walk_at "w"
  intro j2 hj2
  obtain ⟨ap, ha1, ha2⟩ := aparts (n := j2) (by omega)
  refine wr_atL (.inl rfl) ha1 ?_
  walk_at "w"
  refine comp_W (fun c => DV.s ⟨#[c]⟩) (fun _ c => isL c) 1 (by decide) (fun i F hi => ?_) fun cs m hl hcs hm => ?_
  · walk_at "w"
    intro r hr
    refine wr_atS (by rw [letters_len]; decide) (letters_get (by omega)) ?_
    exact ⟨r + 97, _, rfl, ⟨by omega, by omega⟩, Nat.le_refl _, rfl⟩
  replace hcs : ∀ c ∈ cs, isL c := fun c hc => by
    obtain ⟨i, hi, rfl⟩ := List.getElem_of_mem hc
    exact hcs i _ (List.getElem?_eq_getElem hi)
  replace hl : cs.length = 7 := hl
  replace hm : m ≤ n + 9 := by omega
  walk_at "w"
  have e0 : cs.map (fun c => DV.s ⟨#[c]⟩) = (cs.map fun c => (⟨#[c]⟩ : Str)).map DV.s := by rw [List.map_map]; rfl
  refine wm_join (ys := cs.map fun c => (⟨#[c]⟩ : Str)) (.inl (by rw [e0])) ?_ ?_
  · have : ((cs.map fun c => (⟨#[c]⟩ : Str)).map (·.length)).sum = 7 := by
      rw [List.map_map, ← hl]
      clear hl hcs e0
      induction cs with
      | nil => rfl
      | cons c cs ih =>
        rw [List.map_cons, List.sum_cons, ih]
        show 1 + cs.length = cs.length + 1
        omega
    rw [this, List.length_map, hl]
    decide
  have e1 : Txt.join (Str.ofString "") (cs.map fun c => (⟨#[c]⟩ : Str)) = ⟨cs.toArray⟩ := join_chars cs
  rw [e1]
  walk_at "w"
  intro spot hs
  walk_at "w"
  intro more hmo
  walk_at "w"
  intro q' hq'
  obtain ⟨nqp, hq0⟩ := updM_none hq'
  walk_at "w"
  refine loop_K [9, 10] (fun j => updM (updM M p (wl (m + 1 + 1))) q' (.lst ((nmsL cs spot more b ap j).map DV.s))) (fun i j => j = i) (b0 := 0) rfl (fun i d j hi hI => ?_) fun j hI => ?_
  · subst hI
    obtain ⟨hi1, rfl⟩ := rangeD_get hi
    replace hi1 : j < count := by simpa using hi1
    have hap : ap ≤ 17 := by
      simp only [List.mem_cons, List.not_mem_nil, or_false] at ha2
      omega
    walk_at "w"
    have e2 : (((b : Nat) : Int) + ((ap : Nat) : Int) * ((j : Nat) : Int)) % 26 = (((b + ap * j) % 26 : Nat) : Int) := by push_cast; rfl
    rw [e2]
    refine wr_atS (by rw [letters_len]; decide) (letters_get (Nat.mod_lt _ (by decide))) ?_
    walk_at "w"
    refine wl_AS (by rw [str_len, hl]; decide) ?_
    rw [cut_to]
    walk_at "w"
    have s1 : (⟨#[(b + ap * j) % 26 + 97]⟩ : Str) = ⟨[ltr b ap j].toArray⟩ := rfl
    have z7 : 100 ≤ sizeLine := by decide
    rw [s1]
    have hsp : spot ≤ 7 := by omega
    have hmo : more ≤ 7 - spot := by omega
    have l1 : (cs.take spot).length = spot := by rw [List.length_take, hl]; omega
    have l2 : ((cs.drop spot).take more).length = more := by rw [List.length_take, List.length_drop, hl]; omega
    refine wr_addS (by rw [str_len, str_len, l1]; exact Nat.le_trans (by simp; omega) z7) ?_
    rw [str_app]
    walk_at "w"
    refine wl_AS (by rw [str_len, hl]; decide) ?_
    rw [cut_mid _ _ _ (by rw [hl]; omega)]
    refine wr_addS (by rw [str_len, str_len, List.length_append, l1, l2]; exact Nat.le_trans (by simp; omega) z7) ?_
    rw [str_app]
    walk_at "d"
    refine wm_app1 (by rw [List.length_map, nmsL_len]; omega) ?_
    refine ⟨by dsimp only [wipe2, List.set], j + 1, rfl, ?_⟩
    rw [nmsL_succ, List.map_append]
    rfl
  · subst hI
    walk_at "w"
    rw [rangeD_len]
    exact q q' _ _ nqp hq0 (by omega) (nmsL_ok hl hcs (by omega) (by omega) ha2 (by simpa using hc)) (by rw [nmsL_len])
theorem names1 {M : Mu} {Q2 : DQ} {E2 : XK2} {p : Addr} {c : Int} {n : Nat} (hn : n ≤ 100000000) (h0 : 0 ≤ c) (h1 : c ≤ 26)
    (h : ∀ (q : Addr) (m : Nat) (zs : List Str), q ≠ p → M q = none → m ≤ n + 11 → Nms zs → zs.length = c.toNat → Q2 (.r q) (updM (updM M p (wl m)) q (.lst (zs.map DV.s)))) : sp_names [.r p, .i c] (updM M p (wl n)) Q2 E2 :=
  ⟨p, c, n, rfl, updM_same, hn, h0, h1, fun q m zs h1 h2 h3 h4 h5 => by
    rw [updM_upd]
    exact h q m zs h1 (by rw [updM_ne h1] at h2; exact h2) h3 h4 h5⟩
def sp_base : Sp2 := fun ds M Q2 _ => ∃ (p : Addr) (n : Nat), ds = [.r p] ∧ M p = some (wl n) ∧ n ≤ 100000000 ∧ ∀ v : Int, Q2 (.i v) (updM M p (wl (n + 4)))
theorem base1 {M : Mu} {Q2 : DQ} {E2 : XK2} {p : Addr} {n : Nat} (hn : n ≤ 100000000) (h : ∀ v : Int, Q2 (.i v) (updM M p (wl (n + 4)))) : sp_base [.r p] (updM M p (wl n)) Q2 E2 := ⟨p, n, rfl, updM_same, hn, fun v => by rw [updM_upd]; exact h v⟩
theorem ok__law_base (T : Tx K mg a) : FnOk P w K mg base CX0 6 a.f__law_base a.d__law_base ["_law_well_here"] (lift ⟨P, w, K⟩ (sp_base)) := by
  refine okD T.F__law_base sc__law_base (fun ds M Q2 E2 h => by obtain ⟨p, n, rfl, _⟩ := h; rfl) fun cdv A outer s H E G Fr ds M Q2 E2 hr h => ⟨_, (pss_cons (ps_set (i := 1) sc__law_base.nd rfl (Or.inl rfl) (pe_op (k_add (K := K) rfl) (pe_op (k_add (K := K) rfl) (pe_op op_mulA (pe_call (ok__law_draw (P := P) (w := w) (K := K) (base := base) T) (hr.mono (by decide)) rfl T.g__law_draw T.k__law_draw T.b__law_draw .nil passZ (pa_cons (pv 0) (pa_cons (pe_op op_pow pe_int pe_int) pa_nil))) (pe_op op_pow pe_int pe_int)) (pe_op op_mulA (pe_call (ok__law_draw (P := P) (w := w) (K := K) (base := base) T) (hr.mono (by decide)) rfl T.g__law_draw T.k__law_draw T.b__law_draw .nil passZ (pa_cons (pv 0) (pa_cons (pe_op op_pow pe_int pe_int) pa_nil))) (pe_op op_pow pe_int pe_int))) (pe_call (ok__law_draw (P := P) (w := w) (K := K) (base := base) T) (hr.mono (by decide)) rfl T.g__law_draw T.k__law_draw T.b__law_draw .nil passZ (pa_cons (pv 0) (pa_cons (pe_op op_pow pe_int pe_int) pa_nil))))) (pss_one (ps_ret (pe_ix (k_ix (K := K) rfl) (pe_lst (pa_cons pe_int (pa_cons (pe_un un_neg pe_int) (pa_cons (pv 1) (pa_cons (pe_op op_sub pe_int (pv 1)) pa_nil))))) (pe_call (ok__law_draw (P := P) (w := w) (K := K) (base := base) T) (hr.mono (by decide)) rfl T.g__law_draw T.k__law_draw T.b__law_draw .nil passZ (pa_cons (pv 0) (pa_cons pe_int pa_nil))) (fun _ _ => rfl))))), ?_⟩
  obtain ⟨p, n, rfl, hm, hn, q⟩ := h
  refine ws_start (ρ' := [some _, none]) rfl ?_
  rw [← updM_self hm]
  walk_at "w"
  intro r1 h1
  walk_at "w"
  intro r2 h2
  walk_at "w"
  intro r3 h3
  walk_at "w"
  intro r4 h4
  refine wr_pickI (.inl rfl) (by omega) (by simpa using h4) fun e he => ?_
  obtain ⟨v, rfl⟩ : ∃ v : Int, e = .i v := by
    simp only [List.mem_cons, List.not_mem_nil, or_false] at he
    rcases he with rfl | rfl | rfl | rfl <;> exact ⟨_, rfl⟩
  exact q v
def sp_pairs : Sp2 := fun ds M Q2 _ => ∃ (p : Addr) (n : Nat) (zs : List Str) (M0 : Mu), ds = [.r p, .lst (zs.map DV.s)] ∧ M = updM M0 p (wl n) ∧ n ≤ 1000000 ∧ zs.length ≤ 8 ∧ Nms zs ∧
  ∀ (m : Nat) (ps : Prs), m ≤ n + zs.length → Tr ps → DL.namesOf ps = zs → Q2 (.lst (pairsD ps)) (updM M0 p (wl m))
theorem pairs1 {M : Mu} {Q2 : DQ} {E2 : XK2} {p : Addr} {n : Nat} {zs : List Str} (hn : n ≤ 1000000) (h8 : zs.length ≤ 8) (hz : Nms zs) (h : ∀ (m : Nat) (ps : Prs), m ≤ n + zs.length → Tr ps → DL.namesOf ps = zs → Q2 (.lst (pairsD ps)) (updM M p (wl m))) :
    sp_pairs [.r p, .lst (zs.map DV.s)] (updM M p (wl n)) Q2 E2 := ⟨p, n, zs, M, rfl, rfl, hn, h8, hz, h⟩
theorem ok__law_pairs (T : Tx K mg a) : FnOk P w K mg base CX0 6 a.f__law_pairs a.d__law_pairs ["_law_well_here", "_law_names_here"] (lift ⟨P, w, K⟩ (sp_pairs)) := by
  refine okD T.F__law_pairs sc__law_pairs (fun ds M Q2 E2 h => by obtain ⟨p, n, zs, M0, rfl, _⟩ := h; rfl) fun cdv A outer s H E G Fr ds M Q2 E2 hr h => ⟨_, (pss_cons (ps_set (i := 2) sc__law_pairs.nd rfl (Or.inl rfl) (pe_lstM pa_nil)) (pss_cons (ps_for PassesOwn.never rfl (k_enum (K := K) rfl rfl T.z_enumerate (pa_cons (pv 1) pa_nil)) (k_gtup (K := K) rfl rfl (pgs_cons (pg_name (i := 3) sc__law_pairs.nd rfl (Or.inl rfl)) (pgs_cons (pg_name (i := 4) sc__law_pairs.nd rfl (Or.inl rfl)) pgs_nil))) (pss_one (ps_expr (k_bm (K := K) rfl PySem.F.plainAttrs_list PySem.F.slot_list_append PySem.F.type_list_append mt_append (pv 2) (pa_cons (pe_tup (pa_cons (pv 4) (pa_cons (pe_ix (k_ix (K := K) rfl) (pe_op (k_add (K := K) rfl) (pe_lst (pa_cons pe_non pa_nil)) (pv 1)) (pe_call (ok__law_draw (P := P) (w := w) (K := K) (base := base) T) (hr.mono (by decide)) rfl T.g__law_draw T.k__law_draw T.b__law_draw .nil passZ (pa_cons (pv 0) (pa_cons (pe_op (k_add (K := K) rfl) (pv 3) pe_int) pa_nil))) (fun _ _ => rfl)) pa_nil))) pa_nil))))) (pss_one (ps_ret (pv 2))))), ?_⟩
  obtain ⟨p, n, zs, M0, rfl, rfl, hn, hl, hz, q⟩ := h
  refine ws_start (ρ' := [some _, some _, none, none, none]) rfl ?_
  walk_at "w"
  intro f hf
  obtain ⟨nf, hf0⟩ := updM_none hf
  walk_at "w"
  refine loop_S (β := Prs) [3, 4] (fun m b => updM (updM M0 p (wl m)) f (.lst (pairsD b))) (fun i b => DL.namesOf b = zs.take i ∧ Tr b) 1 (b0 := []) ⟨rfl, Tr.nil⟩ (fun i d m b hi hm hI => ?_) fun m b hm hI => ?_
  · obtain ⟨e, he, rfl⟩ := enumD_get hi
    obtain ⟨c, hc, rfl⟩ := map_getS he
    obtain ⟨hI1, hI2⟩ := hI
    have hic : i < zs.length := (List.getElem?_eq_some_iff.mp hc).1
    walk_at "w"
    refine wr_addLn (by simp; omega) ?_
    walk_at "w"
    intro r hr
    have hbl : b.length = i := by
      have := congrArg List.length hI1
      rw [names_len, List.length_take] at this
      omega
    have hmem : c ∈ zs := List.mem_of_getElem? hc
    obtain ⟨o, ho, hov⟩ : ∃ o : Option Str, ([DV.n] ++ zs.map DV.s)[r]? = some (optD o) ∧ ∀ x, o = some x → x ∈ DL.namesOf b := by
      cases r with
      | zero => exact ⟨none, rfl, fun x h => by cases h⟩
      | succ r =>
        have hr2 : r < zs.length := by omega
        refine ⟨some zs[r], by simp [List.getElem?_eq_getElem hr2, optD], fun x hx => ?_⟩
        cases hx
        rw [hI1, List.mem_take_iff_getElem]
        exact ⟨r, by omega, rfl⟩
    refine wr_atN (.inl rfl) ho ?_
    walk_at "w"
    refine ⟨by dsimp only [wipe2, List.set], m + 1, b ++ [(c, o)], Nat.le_refl _, ⟨?_, ?_⟩, by simp [pairsD]⟩
    · rw [take_succ_get hc, ← hI1]
      simp [DL.namesOf]
    · refine hI2.snoc (by omega) ⟨hz.nm c hmem, ?_, hov⟩
      rw [hI1]
      intro hm2
      rw [List.mem_take_iff_getElem] at hm2
      obtain ⟨j, hj, e⟩ := hm2
      have h2 := (List.getElem?_eq_some_iff.mp hc).2
      have := (List.getElem_inj hz.nd).mp (e.trans h2.symm)
      omega
  · rw [enumD_len, List.length_map] at hm hI
    obtain ⟨hI1, hI2⟩ := hI
    refine ws_ret (we_frz ?_)
    walk_at "w"
    refine ⟨f, _, rfl, updM_same, trivial, ?_⟩
    rw [delM_updM (by rw [updM_ne nf]; exact hf0)]
    exact q m b (by omega) hI2 (by rw [hI1, List.take_length])
theorem optD_eq (o o' : Option Str) {Z : Zn} {M : Mu} {Q2 : DQ} (h : Q2 (.b (decide (o = o'))) M) : WR Z (rEqA Z.W.K) (optD o) (optD o') M Q2 := by
  have e : decide (optV o = optV o') = decide (o = o') := by
    cases o <;> cases o' <;> simp [optV]
  rw [optD_v, optD_v]
  refine wr_eqS (by cases o <;> cases o' <;> rfl) ?_
  rw [e]
  exact h
def sp_lorder (n : Nat) : Sp2 := fun ds M Q2 _ => ∃ ps o, ds = [.lst (pairsD ps), optD o] ∧ rk ps o < n ∧ Tr ps ∧ Q2 (.lst ((ord ps o).map DV.s)) M
theorem okr__law_order (T : Tx K mg a) : ∀ n : Nat, FnOk P w K mg base CX0 (2 * n + 0 + 1) a.f__law_order a.d__law_order ["_law_pairs_here", "_law_over"] (lift ⟨P, w, K⟩ (sp_lorder n)) := by
  refine Nat.rec (motive := fun n => FnOk P w K mg base CX0 (2 * n + 0 + 1) a.f__law_order a.d__law_order ["_law_pairs_here", "_law_over"] (lift ⟨P, w, K⟩ (sp_lorder n))) (okD T.F__law_order sc__law_order (fun ds M Q2 E2 h => by obtain ⟨ps, o, rfl, _⟩ := h; rfl) fun cdv A outer s H E G Fr ds M Q2 E2 hr h => by obtain ⟨ps, o, rfl, hn, t, q⟩ := h; exact absurd hn (Nat.not_lt_zero _)) fun n IH => ?_
  refine okD T.F__law_order sc__law_order (fun ds M Q2 E2 h => by obtain ⟨ps, o, rfl, _⟩ := h; rfl) fun cdv A outer s H E G Fr ds M Q2 E2 hr h => ⟨_, (pss_cons (ps_set (i := 2) sc__law_order.nd rfl (Or.inl rfl) (pe_lst pa_nil)) (pss_cons (ps_for PassesOwn.never rfl (k_ls (K := K) rfl (pv 0)) (k_gtup (K := K) rfl rfl (pgs_cons (pg_name (i := 3) sc__law_order.nd rfl (Or.inl rfl)) (pgs_cons (pg_name (i := 4) sc__law_order.nd rfl (Or.inl rfl)) pgs_nil))) (pss_one (ps_if (pt_cmpR (k_eq (K := K) rfl (hu64 hr)) (pv 4) (pv 1) (nomark _)) (pss_one (ps_set (i := 2) sc__law_order.nd rfl (Or.inl rfl) (pe_op (k_add (K := K) rfl) (pe_op (k_add (K := K) rfl) (pv 2) (pe_lst (pa_cons (pv 3) pa_nil))) (pe_call IH (hr.mono (by omega)) rfl T.g__law_order T.k__law_order T.b__law_order .nil passZ (pa_cons (pv 0) (pa_cons (pv 3) pa_nil)))))) pss_nil))) (pss_one (ps_ret (pv 2))))), ?_⟩
  obtain ⟨ps, o, rfl, hn, t, q⟩ := h
  refine ws_start (ρ' := [some _, some _, none, none, none]) rfl ?_
  have h8 := t.len
  walk_at "w"
  refine loop_V (β := List Str) [3, 4] (fun b => [some (.lst (pairsD ps)), some (optD o), some (.lst (b.map DV.s)), none, none]) (fun _ _ => M) (fun i b => b = (kidsOf (ps.take i) o).flatMap fun c => c :: ord ps (some c)) 0 (n := 0) (b0 := []) rfl rfl (fun i d m b hi hm hI => ?_) fun m b hm hI => ?_
  · subst hI
    obtain ⟨pr, hpr, rfl⟩ : ∃ pr, ps[i]? = some pr ∧ d = .tup [.s pr.1, optD pr.2] := by
      rw [List.getElem?_map] at hi
      cases e : ps[i]? with
      | none => rw [e] at hi; cases hi
      | some pr => rw [e] at hi; cases hi; exact ⟨pr, rfl, rfl⟩
    have hmem := List.mem_of_getElem? hpr
    have hts : ps.take (i + 1) = ps.take i ++ [pr] := take_succ_get hpr
    walk_at "w"
    refine optD_eq _ _ ?_
    walk_at "w"
    refine if_d (fun h => ?_) fun h => ?_
    · have hk : pr.1 ∈ kidsOf ps o := mem_kids.mpr (by rw [← h]; exact hmem)
      have hl2 := beneath_len t (kids_names hk)
      have hl3 : ((kidsOf (ps.take i) o).flatMap fun c => c :: ord ps (some c)).length ≤ 8 := by
        have h1 := ord_len t o
        rw [ord_eq t] at h1
        have h2 : kidsOf ps o = kidsOf (ps.take i) o ++ kidsOf (ps.drop i) o := by rw [← kids_app, List.take_append_drop]
        rw [h2, List.flatMap_append, List.length_append] at h1
        omega
      have hl4 := ord_len t (some pr.1)
      walk_at "w"
      refine ⟨ps, some pr.1, rfl, by have := rk_kid t hk; omega, t, ?_⟩
      refine wr_addLM (f := DV.s) (by rw [List.length_append]; simp only [List.length_cons, List.length_nil]; omega) ?_
      refine ⟨0, _, by dsimp only [wipe2, List.set], Nat.zero_le _, ?_, rfl⟩
      rw [hts, kidsOf_snoc, if_pos h, List.flatMap_append]
      simp
    · walk_at "w"
      refine ⟨0, _, by dsimp only [wipe2, List.set], Nat.zero_le _, ?_, rfl⟩
      rw [hts, kidsOf_snoc, if_neg h, List.append_nil]
  · subst hI
    rw [List.length_map, List.take_length, ← ord_eq t]
    walk_at "w"
    exact q
theorem ok__law_order (T : Tx K mg a) : FnOk P w K mg base CX0 19 a.f__law_order a.d__law_order ["_law_pairs_here", "_law_over"] (lift ⟨P, w, K⟩ (sp_lorder 9)) := okr__law_order T 9
theorem sum_take (l : List Nat) (i : Nat) : (l.take i).sum ≤ l.sum := by
  have : l.sum = (l.take i).sum + (l.drop i).sum := by rw [← List.sum_append, List.take_append_drop]
  omega
theorem pre_le {ps : Prs} {raw : List Bun} {o : Option Str} {parts : List Nat} (t : Tr ps) (h : HOk ps 3 raw) (hp : PartR raw (kidsOf ps o) parts) (i : Nat) : (prodL ((parts.take i).map (rowsB raw))).length ≤ 6561 := by
  rw [prodL_eq, prodR_len, List.map_map]
  have h1 : mulN ((parts.take i).map (List.length ∘ rowsB raw)) ≤ 3 ^ (((kidsOf ps o).take i).map fun c => (ord ps (some c)).length + 1).sum := by
    refine mulN_le (by decide) (by rw [List.length_map, List.length_map, List.length_take, List.length_take, hp.len]) fun j x d e1 e2 => ?_
    rw [List.getElem?_map, Option.map_eq_some_iff] at e1 e2
    obtain ⟨p, e1, rfl⟩ := e1
    obtain ⟨c, e2, rfl⟩ := e2
    rw [List.getElem?_take] at e1 e2
    by_cases hj : j < i
    · rw [if_pos hj] at e1 e2
      obtain ⟨b', hb', rfl⟩ := hp.get e1 e2
      exact rows_le t h (by decide) hb'
    · rw [if_neg hj] at e1
      cases e1
  have h2 : (((kidsOf ps o).take i).map fun c => (ord ps (some c)).length + 1).sum ≤ 8 := by
    rw [List.map_take]
    have := sum_take ((kidsOf ps o).map fun c => (ord ps (some c)).length + 1) i
    rw [← ord_sum t] at this
    have := ord_len t o
    have := t.len
    omega
  exact Nat.le_trans h1 (Nat.le_trans (Nat.pow_le_pow_right (by decide) h2) (by decide))
theorem rows_6561 {ps : Prs} {raw : List Bun} (t : Tr ps) (h : HOk ps 3 raw) {p : Nat} (hp : p < raw.length) : (rowsB raw p).length ≤ 6561 := rows_le8 t h (by decide) hp
def sp_lrows (n : Nat) : Sp2 := fun ds M Q2 _ => ∃ ps raw parts o, ds = [.lst (raw.map bunD), natsD parts] ∧ rk ps o < n ∧ Tr ps ∧ HOk ps 3 raw ∧ PartR raw (kidsOf ps o) parts ∧ Q2 (.lst ((prodR (parts.map (rowsB raw))).map rowD)) M
theorem okr__law_rows_of (T : Tx K mg a) : ∀ n : Nat, FnOk P w K mg base CX0 (2 * n + 0 + 1) a.f__law_rows_of a.d__law_rows_of ["_law_bunches", "_law_parts"] (lift ⟨P, w, K⟩ (sp_lrows n)) := by
  refine Nat.rec (motive := fun n => FnOk P w K mg base CX0 (2 * n + 0 + 1) a.f__law_rows_of a.d__law_rows_of ["_law_bunches", "_law_parts"] (lift ⟨P, w, K⟩ (sp_lrows n))) (okD T.F__law_rows_of sc__law_rows_of (fun ds M Q2 E2 h => by obtain ⟨ps, raw, parts, o, rfl, _⟩ := h; rfl) fun cdv A outer s H E G Fr ds M Q2 E2 hr h => by obtain ⟨ps, raw, parts, o, rfl, hn, t, hok, hp, q⟩ := h; exact absurd hn (Nat.not_lt_zero _)) fun n IH => ?_
  refine okD T.F__law_rows_of sc__law_rows_of (fun ds M Q2 E2 h => by obtain ⟨ps, raw, parts, o, rfl, _⟩ := h; rfl) fun cdv A outer s H E G Fr ds M Q2 E2 hr h => ⟨_, (pss_cons (ps_set (i := 2) sc__law_rows_of.nd rfl (Or.inl rfl) (pe_lst (pa_cons (pe_tup pa_nil) pa_nil))) (pss_cons (ps_for PassesOwn.never rfl (k_seq (K := K) rfl (pv 1)) (pg_name (i := 3) sc__law_rows_of.nd rfl (Or.inl rfl)) (pss_cons (ps_set (i := 4) sc__law_rows_of.nd rfl (Or.inl rfl) (pe_lst pa_nil)) (pss_cons (ps_for PassesOwn.never rfl (k_ls (K := K) rfl (pe_ix (k_ix (K := K) rfl) (pe_ix (k_ix (K := K) rfl) (pv 0) (pv 3) (fun _ _ => rfl)) pe_int (fun _ _ => rfl))) (k_gtup (K := K) rfl rfl (pgs_cons (pg_name (i := 5) sc__law_rows_of.nd rfl (Or.inr rfl)) (pgs_cons (pg_name (i := 6) sc__law_rows_of.nd rfl (Or.inl rfl)) pgs_nil))) (pss_one (ps_set (i := 4) sc__law_rows_of.nd rfl (Or.inl rfl) (pe_op (k_add (K := K) rfl) (pv 4) (pe_lc (own := [("_law_rest", 9)]) (g := gName 9) rfl sc__law_rows_of.nd (k_ls (K := K) rfl (pe_call IH (hr.mono (by omega)) rfl T.g__law_rows_of T.k__law_rows_of T.b__law_rows_of .nil passZ (pa_cons (pv 0) (pa_cons (pv 6) pa_nil)))) (blkOk_by (N := N__law_rows_of) (own := [("_law_rest", 9)]) (sc := defScope s__law_rows_of) (by first | decide +kernel | kernel_rfl)) (fun _ _ _ _ _ => (pg_name (i := 9) sc__law_rows_of.nd rfl (Or.inl rfl))) (fun _ _ _ _ _ => pts_nil) (fun _ _ _ _ _ => (pe_op (k_addT (K := K) rfl) (pe_tup (pa_cons (pv 5) pa_nil)) (pv 9)))))))) (pss_cons (ps_set (i := 7) sc__law_rows_of.nd rfl (Or.inl rfl) (pe_lst pa_nil)) (pss_cons (ps_for PassesOwn.never rfl (k_ls (K := K) rfl (pv 2)) (pg_name (i := 8) sc__law_rows_of.nd rfl (Or.inr rfl)) (pss_one (ps_set (i := 7) sc__law_rows_of.nd rfl (Or.inl rfl) (pe_op (k_add (K := K) rfl) (pv 7) (pe_lc (own := [("_law_rest", 9)]) (g := gName 9) rfl sc__law_rows_of.nd (k_ls (K := K) rfl (pv 4)) (blkOk_by (N := N__law_rows_of) (own := [("_law_rest", 9)]) (sc := defScope s__law_rows_of) (by first | decide +kernel | kernel_rfl)) (fun _ _ _ _ _ => (pg_name (i := 9) sc__law_rows_of.nd rfl (Or.inl rfl))) (fun _ _ _ _ _ => pts_nil) (fun _ _ _ _ _ => (pe_op (k_addT (K := K) rfl) (pv 8) (pv 9)))))))) (pss_one (ps_set (i := 2) sc__law_rows_of.nd rfl (Or.inl rfl) (pv 7)))))))) (pss_one (ps_ret (pv 2))))), ?_⟩
  obtain ⟨ps, raw, parts, o, rfl, hn, t, hok, hp, q⟩ := h
  refine ws_start (ρ' := [some _, some _, none, none, none, none, none, none, none, none]) rfl ?_
  have hpl := hp.len
  have hkl := kids_le (ps := ps) (o := o)
  have h8 := t.len
  walk_at "w"
  refine loop_V (β := List (List Int)) [3, 4, 5, 6, 7, 8, 9] (fun b => [some (.lst (raw.map bunD)), some (natsD parts), some (.lst (b.map rowD)), none, none, none, none, none, none, none]) (fun _ _ => M) (fun i b => b = prodL ((parts.take i).map (rowsB raw))) 0 (n := 0) (b0 := [[]]) rfl rfl (fun i dd mm found hi hm hI => ?_) fun mm found hm hI => ?_
  · obtain ⟨p, hpi, rfl⟩ : ∃ p, parts[i]? = some p ∧ dd = natD p := by
      rw [List.getElem?_map] at hi
      cases e : parts[i]? with
      | none => rw [e] at hi; cases hi
      | some x => rw [e] at hi; cases hi; exact ⟨x, rfl, rfl⟩
    have hpm := List.mem_of_getElem? hpi
    obtain ⟨b, hb, hbc⟩ := hp.mem hpm
    obtain ⟨b1, b2, b3⟩ := hok b (List.mem_of_getElem? hb)
    have hreq := rows_eq t hok hb
    have hrl := rows_6561 t hok (get_lt hb)
    have hrk := rk_kid t hbc
    have hfl : found.length ≤ 6561 := by rw [hI]; exact pre_le t hok hp i
    walk_at "w"
    refine wr_atN (k := p) (.inl rfl) (by rw [List.getElem?_map, hb]; rfl) ?_
    rw [show bunD b = .tup [.s b.1, .lst (b.2.map entD)] from rfl]
    walk_at "w"
    refine loop_V (β := List (List Int)) [5, 6, 9] (fun acc => [some (.lst (raw.map bunD)), some (natsD parts), some (.lst (found.map rowD)), some (natD p), some (.lst (acc.map rowD)), none, none, none, none, none]) (fun _ _ => M) (fun j acc => acc = entRows (rowsB raw) (b.2.take j)) 0 (n := 0) (b0 := []) rfl rfl (fun j dj mj acc hj hmj hJ => ?_) fun mj acc hmj hJ => ?_
    · obtain ⟨e, he, rfl⟩ : ∃ e, b.2[j]? = some e ∧ dj = entD e := by
        rw [List.getElem?_map] at hj
        cases e : b.2[j]? with
        | none => rw [e] at hj; cases hj
        | some x => rw [e] at hj; cases hj; exact ⟨x, rfl, rfl⟩
      have hem := List.mem_of_getElem? he
      have hacc : acc.length ≤ 6561 := by rw [hJ]; exact Nat.le_trans (ent_take j) (by rw [← hreq]; exact hrl)
      have hz1 : (prodR (e.2.map (rowsB raw))).length ≤ 6561 := Nat.le_trans (ent_le hem) (by rw [← hreq]; exact hrl)
      have hel := (b2.2 e hem).len
      have hkl2 := kids_le (ps := ps) (o := some b.1)
      rw [show entD e = .tup [.i e.1, natsD e.2] from rfl]
      walk_at "w"
      refine ⟨ps, raw, e.2, some b.1, rfl, by omega, t, hok, b2.2 e hem, ?_⟩
      refine ⟨_, rfl, ?_⟩
      refine comp_mapT rowD (fun r => rowD (e.1 :: r)) (prodR (e.2.map (rowsB raw))) [] (le_size (by simp; omega)) (fun r hr F k2 hk2 => ?_) ?_
      · have hrw := prodL_wide (n := 8) (l := e.2.map (rowsB raw)) (fun rs hrs => by
          obtain ⟨p, hpp, rfl⟩ := List.mem_map.mp hrs
          obtain ⟨b', hb', _⟩ := (b2.2 e hem).mem hpp
          exact rows_w8 t hok hb') r hr
        rw [List.length_map] at hrw
        rw [show rowD r = .tup (r.map DV.i) from rfl]
        walk_at "w"
        refine wr_tupAdd (by simp; omega) ?_
        exact hk2
      rw [List.nil_append, show (prodR (e.2.map (rowsB raw))).map (fun r => rowD (e.1 :: r)) = ((prodR (e.2.map (rowsB raw))).map (e.1 :: ·)).map rowD by rw [List.map_map]; rfl]
      refine wr_addLM (f := rowD) (by simp; omega) ?_
      walk_at "w"
      refine ⟨0, _, by dsimp only [wipe2, List.set], Nat.zero_le _, ?_, rfl⟩
      rw [take_succ_get he, entRows_app, hJ]
      unfold entRows
      rw [List.flatMap_singleton]
    · rw [List.length_map, List.take_length, ← hreq] at hJ
      subst hJ
      walk_at "w"
      refine loop_V (β := List (List Int)) [8, 9] (fun lg => [some (.lst (raw.map bunD)), some (natsD parts), some (.lst (found.map rowD)), some (natD p), some (.lst ((rowsB raw p).map rowD)), none, none, some (.lst (lg.map rowD)), none, none]) (fun _ _ => M) (fun j lg => lg = (found.take j).flatMap (fun r => (rowsB raw p).map (r ++ ·))) 0 (n := 0) (b0 := []) rfl rfl (fun j dj mj lg hj hmj hJ => ?_) fun mj lg hmj hJ => ?_
      · obtain ⟨r, hr, rfl⟩ := mapD_get hj
        have hlen : (found.flatMap fun r => (rowsB raw p).map (r ++ ·)).length ≤ 6561 := by
          have := pre_le t hok hp (i + 1)
          rw [take_succ_get hpi, List.map_append, List.map_singleton, prodL_snoc, ← hI] at this
          exact this
        have hst1 : lg.length ≤ 6561 := by
          rw [hJ]
          refine Nat.le_trans ?_ hlen
          rw [mul_flat, mul_flat, List.length_take]
          exact Nat.mul_le_mul_right _ (by omega)
        have hrw : r.length ≤ 64 := by
          have h1 := prodL_wide (n := 8) (l := (parts.take i).map (rowsB raw)) (fun rs hrs => by
            obtain ⟨p', hpp, rfl⟩ := List.mem_map.mp hrs
            obtain ⟨b', hb', _⟩ := hp.mem (List.mem_of_mem_take hpp)
            exact rows_w8 t hok hb') r (by rw [← prodL_eq, ← hI]; exact List.mem_of_getElem? hr)
          rw [List.length_map, List.length_take] at h1
          omega
        walk_at "w"
        refine comp_mapT rowD (fun s => rowD (r ++ s)) (rowsB raw p) [] (le_size (by simp; omega)) (fun s hs F k2 hk2 => ?_) ?_
        · have := rows_w8 t hok hb s hs
          rw [show rowD r = .tup (r.map DV.i) from rfl, show rowD s = .tup (s.map DV.i) from rfl]
          walk_at "w"
          refine wr_tupAdd (by simp; omega) ?_
          rw [← List.map_append]
          exact hk2
        rw [List.nil_append, show (rowsB raw p).map (fun s => rowD (r ++ s)) = ((rowsB raw p).map (r ++ ·)).map rowD by rw [List.map_map]; rfl]
        refine wr_addLM (f := rowD) (by simp; omega) ?_
        walk_at "w"
        refine ⟨0, _, by dsimp only [wipe2, List.set], Nat.zero_le _, ?_, rfl⟩
        rw [take_succ_get hr, List.flatMap_append, hJ, List.flatMap_singleton]
      · rw [List.length_map, List.take_length] at hJ
        walk_at "w"
        refine ⟨0, _, by dsimp only [wipe2, List.set], Nat.zero_le _, ?_, rfl⟩
        rw [take_succ_get hpi, List.map_append, List.map_singleton, prodL_snoc, ← hI]
        exact hJ
  · rw [List.length_map, List.take_length, prodL_eq] at hI
    subst hI
    walk_at "w"
    exact q
theorem ok__law_rows_of (T : Tx K mg a) : FnOk P w K mg base CX0 19 a.f__law_rows_of a.d__law_rows_of ["_law_bunches", "_law_parts"] (lift ⟨P, w, K⟩ (sp_lrows 9)) := okr__law_rows_of T 9
theorem comp_filTM {Z : Zn} {ρ : Ro} {M : Mu} {g : TG} {tt : TT} {te : TE} {Kp : Mu → Prop} {k : List DV → Mu → Prop} {α : Type} (e f : α → DV) (p : α → Bool) (kp : Kp M) : ∀ (xs : List α) (acc : List DV), acc.length + xs.length ≤ sizeLine →
    (∀ x ∈ xs, ∀ F k2, (p x = true → k2 (f x) M) → WG (Z.fr F) g (e x) ρ M fun ρ2 M2 => WT (Z.fr F) tt ρ2 M2 fun b M3 => b = p x ∧ M3 = M ∧ (p x = true → DL.WE (Z.fr F) te ρ2 M k2)) → k (acc ++ (xs.filter p).map f) M → CompM Z g tt te ρ k Kp (xs.map e) acc M
  | [], acc, hz, h, q => ⟨kp, by simpa using q⟩
  | x :: xs, acc, hz, h, q => by
    simp only [List.length_cons] at hz
    refine ⟨kp, by omega, fun F => ?_⟩
    have := h x List.mem_cons_self F (fun y M4 => CompM Z g tt te ρ k Kp (xs.map e) (acc ++ [y]) M4) (fun hp => comp_filTM e f p kp xs (acc ++ [f x]) (by simp; omega) (fun d' hd => h d' (List.mem_cons_of_mem _ hd)) (by simpa [List.filter_cons, hp] using q))
    intro G σ H v P s R E y n
    refine this G σ H v P s R E y fun ρ1 σ1 G1 M1 H1 s1 R1 E1 q1 => n ρ1 σ1 G1 M1 H1 s1 R1 E1 ?_
    refine q1.imp fun b M' ⟨hb, hM, q2⟩ => ?_
    rw [hM]
    cases hp : p x with
    | true => rw [hb, hp]; exact q2 hp
    | false =>
      rw [hb, hp]
      exact comp_filTM e f p kp xs acc (by omega) (fun d' hd => h d' (List.mem_cons_of_mem _ hd)) (by simpa [List.filter_cons, hp] using q)
def sp_lbunch : Sp2 := fun ds M Q2 _ => ∃ (p qm : Addr) (n : Nat) (ps : Prs) (made : List Bun) (c : Str) (bs : Int) (M0 : Mu), ds = [.r p, .lst (pairsD ps), .r qm, .s c, .i bs] ∧ M = updM M0 p (wl n) ∧ qm ≠ p ∧ M0 qm = some (.lst (made.map bunD)) ∧ n ≤ 1000000 ∧ Tr ps ∧ c ∈ DL.namesOf ps ∧ made.length ≤ 1000 ∧ (∀ d ∈ kidsOf ps (some c), ∃ (k : Nat) (b : Bun), made[k]? = some b ∧ b.1 = d) ∧
  ∀ (b : Bun) (n' : Nat), b.1 = c → EntR made (kidsOf ps (some c)) b.2 → b.2.length ≤ 3 → n' ≤ n + 28 → Q2 (bunD b) (updM M0 p (wl n'))
theorem ok__law_bunch (T : Tx K mg a) : FnOk P w K mg base CX0 6 a.f__law_bunch a.d__law_bunch ["_law_well_here", "_law_pairs_here", "_law_made", "_law_name", "_law_base_here"] (lift ⟨P, w, K⟩ (sp_lbunch)) := by
  refine okD T.F__law_bunch sc__law_bunch (fun ds M Q2 E2 h => by obtain ⟨p, qm, n, ps, made, c, bs, M0, rfl, _⟩ := h; rfl) fun cdv A outer s H E G Fr ds M Q2 E2 hr h => ⟨_, (pss_cons (ps_setLc (i := 5) (own := [("_law_other", 12), ("_law_over", 13)]) (g := gTup K 2 (gCons (gName 12) (gCons (gName 13) gNil))) rfl sc__law_bunch.nd rfl rfl (sw_true rfl rfl rfl (by decide +kernel)) (k_ls (K := K) rfl (pv 1)) (blkOk_by (N := N__law_bunch) (own := [("_law_other", 12), ("_law_over", 13)]) (sc := defScope s__law_bunch) (by first | decide +kernel | kernel_rfl)) (fun _ _ _ _ _ => (k_gtup (K := K) rfl rfl (pgs_cons (pg_name (i := 12) sc__law_bunch.nd rfl (Or.inl rfl)) (pgs_cons (pg_name (i := 13) sc__law_bunch.nd rfl (Or.inl rfl)) pgs_nil)))) (fun _ _ _ _ _ => (pts_one (pt_cmpR (k_eq (K := K) rfl (hu64 hr)) (pv 13) (pv 3) (nomark _)))) (fun _ _ _ _ _ => (pv 12))) (pss_cons (ps_set (i := 6) sc__law_bunch.nd rfl (Or.inl rfl) (pe_lstM pa_nil)) (pss_cons (ps_set (i := 7) sc__law_bunch.nd rfl (Or.inl rfl) pe_int) (pss_cons (ps_for PassesOwn.never rfl (pi_range1 rfl T.z_range (pa_cons (pe_ix (k_ix (K := K) rfl) (pe_lst (pa_cons pe_int (pa_cons pe_int (pa_cons pe_int (pa_cons pe_int (pa_cons pe_int (pa_cons pe_int pa_nil))))))) (pe_call (ok__law_draw (P := P) (w := w) (K := K) (base := base) T) (hr.mono (by decide)) rfl T.g__law_draw T.k__law_draw T.b__law_draw .nil passZ (pa_cons (pv 0) (pa_cons pe_int pa_nil))) (fun _ _ => rfl)) pa_nil)) (pg_name (i := 8) sc__law_bunch.nd rfl (Or.inl rfl)) (pss_cons (ps_set (i := 7) sc__law_bunch.nd rfl (Or.inl rfl) (pe_op (k_add (K := K) rfl) (pe_op (k_add (K := K) rfl) (pv 7) pe_int) (pe_call (ok__law_draw (P := P) (w := w) (K := K) (base := base) T) (hr.mono (by decide)) rfl T.g__law_draw T.k__law_draw T.b__law_draw .nil passZ (pa_cons (pv 0) (pa_cons pe_int pa_nil))))) (pss_cons (ps_set (i := 9) sc__law_bunch.nd rfl (Or.inl rfl) (pe_lstM pa_nil)) (pss_cons (ps_for PassesOwn.never rfl (k_ls (K := K) rfl (pv 5)) (pg_name (i := 10) sc__law_bunch.nd rfl (Or.inr rfl)) (pss_cons (ps_stop (ps_setLc (i := 11) (own := [("_law_at", 14), ("_law_bunch_here", 15)]) (g := gTup K 2 (gCons (gName 14) (gCons (gName 15) gNil))) rfl sc__law_bunch.nd rfl rfl (sw_true rfl rfl rfl (by decide +kernel)) (k_enumM (K := K) rfl rfl T.z_enumerate (pa_cons (pv 2) pa_nil)) (blkOk_by (N := N__law_bunch) (own := [("_law_at", 14), ("_law_bunch_here", 15)]) (sc := defScope s__law_bunch) (by first | decide +kernel | kernel_rfl)) (fun _ _ _ _ _ => (k_gtup (K := K) rfl rfl (pgs_cons (pg_name (i := 14) sc__law_bunch.nd rfl (Or.inl rfl)) (pgs_cons (pg_name (i := 15) sc__law_bunch.nd rfl (Or.inl rfl)) pgs_nil)))) (fun _ _ _ _ _ => (pts_one (pt_cmpR (k_eq (K := K) rfl (hu64 hr)) (pe_ix (k_ix (K := K) rfl) (pv 15) pe_int (fun _ _ => rfl)) (pv 10) (nomark _)))) (fun _ _ _ _ _ => (pv 14)))) (pss_one (ps_expr (k_bm (K := K) rfl PySem.F.plainAttrs_list PySem.F.slot_list_append PySem.F.type_list_append mt_append (pv 9) (pa_cons (pe_ix (k_ix (K := K) rfl) (pv 11) (pe_call (ok__law_draw (P := P) (w := w) (K := K) (base := base) T) (hr.mono (by decide)) rfl T.g__law_draw T.k__law_draw T.b__law_draw .nil passZ (pa_cons (pv 0) (pa_cons (pe_callB (k_len (K := K) rfl) rfl T.z_len bt_len (pa_cons (pv 11) pa_nil)) pa_nil))) (fun _ _ => rfl)) pa_nil)))))) (pss_one (ps_expr (k_bm (K := K) rfl PySem.F.plainAttrs_list PySem.F.slot_list_append PySem.F.type_list_append mt_append (pv 6) (pa_cons (pe_tup (pa_cons (pe_op (k_add (K := K) rfl) (pv 4) (pv 7)) (pa_cons (pe_callTy (k_tup (K := K) rfl) rfl T.z_tuple bt_tuple (pa_cons (pv 9) pa_nil)) pa_nil))) pa_nil)))))))) (pss_one (ps_ret (pe_tup (pa_cons (pv 3) (pa_cons (pv 6) pa_nil))))))))), ?_⟩
  obtain ⟨p, qm, n, ps, made, c, bs, M0, rfl, rfl, hqm, hm, hn, t, hc, hml, hkm, q⟩ := h
  refine ws_start (ρ' := [some _, some _, some _, some _, some _, none, none, none, none, none, none, none, none, none, none, none]) rfl ?_
  have h8 := t.len
  have hkl := kids_le (ps := ps) (o := some c)
  walk_at "w"
  refine comp_filT (fun x : Str × Option Str => .tup [.s x.1, optD x.2]) (fun x => DV.s x.1) (fun x => decide (x.2 = some c)) ps [] (le_size (by simp; omega)) (fun x hx F k2 hk2 => ?_) ?_
  · walk_at "w"
    refine optD_eq x.2 (some c) ?_
    walk_at "w"
    refine ⟨rfl, rfl, fun h => ?_⟩
    walk_at "w"
    exact hk2 h
  rw [List.nil_append, show (ps.filter fun x => decide (x.2 = some c)).map (fun x => DV.s x.1) = (kidsOf ps (some c)).map DV.s by unfold kidsOf; rw [List.map_map]; rfl]
  walk_at "w"
  intro qe hqe
  obtain ⟨ne, hqe0⟩ := updM_none hqe
  have hme : qm ≠ qe := fun e => by rw [e, hqe0] at hm; cases hm
  walk_at "w"
  intro r hr
  refine wr_pickI (.inl rfl) (by omega) (by simpa using hr) fun e he => ?_
  obtain ⟨cnt, rfl, hcnt⟩ : ∃ cnt : Nat, e = .i (cnt : Nat) ∧ cnt ≤ 3 := by
    simp only [List.mem_cons, List.not_mem_nil, or_false] at he
    rcases he with rfl | rfl | rfl | rfl | rfl | rfl
    · exact ⟨2, rfl, by decide⟩
    · exact ⟨1, rfl, by decide⟩
    · exact ⟨3, rfl, by decide⟩
    · exact ⟨2, rfl, by decide⟩
    · exact ⟨0, rfl, by decide⟩
    · exact ⟨1, rfl, by decide⟩
  walk_at "w"
  refine loop_V (β := List Ent × Int) [8, 9, 10, 11, 12, 13, 14, 15] (fun b => [some (.r p), some (.lst (pairsD ps)), some (.r qm), some (.s c), some (.i bs), some (.lst ((kidsOf ps (some c)).map DV.s)), some (.r qe), some (.i b.2), none, none, none, none, none, none, none, none]) (fun m b => updM (updM M0 p (wl m)) qe (.lst (b.1.map entD))) (fun i b => EntR made (kidsOf ps (some c)) b.1 ∧ b.1.length ≤ i ∧ ∀ e ∈ b.1, e.1 ≤ bs + b.2) 9 (n := n + 1) (b0 := ([], 0)) ⟨⟨List.Pairwise.nil, fun e he => (by cases he)⟩, Nat.zero_le _, fun e he => (by cases he)⟩ rfl (fun i dd m b hi hmm hI => ?_) fun m b hmm hI => ?_
  · obtain ⟨es, st⟩ := b
    obtain ⟨hE, hel, hst⟩ := hI
    dsimp only at hE hel hst
    have hi3 : i < 3 := by
      have := get_lt hi
      rw [rangeD_len] at this
      omega
    walk_at "w"
    intro r2 hr2
    walk_at "w"
    intro qp hqp
    obtain ⟨npe, hqp1⟩ := updM_none hqp
    obtain ⟨npp, hqp0⟩ := updM_none hqp1
    have hmp : qm ≠ qp := fun e => by rw [e, hqp0] at hm; cases hm
    walk_at "w"
    refine loop_S (β := List Nat) [10, 11, 14, 15] (fun m b => updM (updM (updM M0 p (wl m)) qe (.lst (es.map entD))) qp (.lst (b.map natD))) (fun j b => PartR made ((kidsOf ps (some c)).take j) b) 1 (b0 := []) rfl (fun j dj mj parts hj hmj hP => ?_) fun mj parts hmj hP => ?_
    · obtain ⟨d, hd, rfl⟩ := map_getS hj
      have hjl := get_lt hd
      have hpl := hP.len
      rw [List.length_take] at hpl
      obtain ⟨k0, b0, hk0, hb0⟩ := hkm d (List.mem_of_getElem? hd)
      have hpos : 0 < (idxB made d).length := List.length_pos_of_mem (idxB_mem.mpr ⟨b0, hk0, hb0⟩)
      have hle := idxB_len (bs := made) (c := d)
      have hmm2 : updM (updM (updM M0 p (wl mj)) qe (.lst (es.map entD))) qp (.lst (parts.map natD)) qm = some (.lst (made.map bunD)) := by
        rw [updM_ne hmp, updM_ne hme, updM_ne hqm]; exact hm
      walk_at "w"
      refine ws_stop (ws_set ?_)
      refine we_lcM ?k1 (wim_enum ?_)
      case k1 => exact gok_tup (gsok_name (by decide) (gsok_name (by decide) gsok_nil))
      walk_at "w"
      refine ⟨_, made.map bunD, rfl, .inr ⟨qm, rfl, hmm2⟩, ?_⟩
      rw [enumD_zip]
      refine comp_filTM (fun x : Bun × Nat => .tup [.i (x.2 : Nat), bunD x.1]) (fun x => natD x.2) (fun x => decide (x.1.1 = d)) (.inr ⟨qm, rfl, hmm2⟩) made.zipIdx [] (le_size (by simp; omega)) (fun x hx F k2 hk2 => ?_) ?_
      · rw [show bunD x.1 = .tup [.s x.1.1, .lst (x.1.2.map entD)] from rfl]
        walk_at "w"
        refine ⟨by simp, rfl, fun h => ?_⟩
        walk_at "w"
        exact hk2 h
      rw [List.nil_append, show (made.zipIdx.filter fun x => decide (x.1.1 = d)).map (fun x => natD x.2) = (idxB made d).map natD by unfold idxB; rw [List.map_map]; rfl]
      walk_at "w"
      intro r hr
      refine wr_atM (f := natD) (.inl rfl) (by omega) fun k hk => ?_
      obtain ⟨b1, hb1, hb2⟩ := idxB_mem.mp (List.mem_of_getElem? hk)
      walk_at "w"
      refine ⟨by dsimp only [wipe2, List.set], mj + 1, parts ++ [k], Nat.le_refl _, ?_, by rw [List.map_append]; rfl⟩
      unfold PartR at hP ⊢
      rw [take_succ_get hd, List.map_append, List.map_append, hP, List.map_singleton, List.map_singleton, hb1, Option.map_some, hb2]
    · rw [List.length_map, List.take_length] at hP
      refine ws_frzL 9 rfl updM_same ?_
      rw [delM_updM (by rw [updM_ne npe, updM_ne npp]; exact hqp0)]
      walk_at "w"
      refine ⟨mj, (es ++ [(bs + (st + 1 + r2), parts)], st + 1 + r2), by dsimp only [wipe2, List.set], ?_, ⟨⟨?_, ?_⟩, ?_, ?_⟩, ?_⟩
      · rw [List.length_map] at hmj; omega
      · rw [List.pairwise_append]
        refine ⟨hE.1, List.pairwise_singleton _ _, fun x hx y hy => ?_⟩
        rw [List.mem_singleton] at hy
        subst hy
        have := hst x hx
        show x.1 < bs + (st + 1 + (r2 : Int))
        omega
      · intro e he
        rcases List.mem_append.mp he with he | he
        · exact hE.2 e he
        · rw [List.mem_singleton] at he
          subst he
          exact hP
      · rw [List.length_append]
        show es.length + 1 ≤ i + 1
        omega
      · intro e he
        rcases List.mem_append.mp he with he | he
        · have := hst e he
          show e.1 ≤ bs + (st + 1 + (r2 : Int))
          omega
        · rw [List.mem_singleton] at he
          subst he
          exact Int.le_refl _
      · rw [List.map_append]
        rfl
  · obtain ⟨es, st⟩ := b
    obtain ⟨hE, hel, hst⟩ := hI
    dsimp only at hE hel hst
    have hlen : (rangeD 0 (cnt : Int).toNat).length ≤ 3 := by rw [rangeD_len]; omega
    refine ws_frzL 6 rfl updM_same ?_
    rw [delM_updM (by rw [updM_ne ne]; exact hqe0)]
    walk_at "w"
    exact q (c, es) m rfl hE (by show es.length ≤ 3; omega) (by omega)
def sp_lshuf : Sp2 := fun ds M Q2 _ => ∃ (p : Addr) (n : Nat) (ps : Prs) (made : List Bun) (roots : List Nat) (M0 : Mu), ds = [.r p, .lst (made.map bunD), .lst (roots.map natD)] ∧ M = updM M0 p (wl n) ∧ n ≤ 1000000 ∧ Tr ps ∧ made.length ≤ 1000 ∧ HOk ps 3 made ∧ PartR made (kidsOf ps none) roots ∧
  ∀ (raw : List Bun) (ts : List Nat) (n' : Nat), raw.length ≤ made.length → HOk ps 3 raw → PartR raw (kidsOf ps none) ts → n' ≤ n + made.length → Q2 (.tup [.lst (raw.map bunD), natsD ts]) (updM M0 p (wl n'))
theorem atN_first {y : Nat} : ∀ {o : List Nat} {n m : Nat}, o[m]? = some y → ∃ i, atN o y n = some i ∧ i ≤ n + m
  | [], n, m, h => by simp at h
  | c :: o, n, m, h => by
    unfold atN
    by_cases e : c = y
    · exact ⟨n, if_pos e, by omega⟩
    · rw [if_neg e]
      cases m with
      | zero => simp at h; exact absurd h e
      | succ m =>
        obtain ⟨i, h1, h2⟩ := atN_first (n := n + 1) (by simpa using h)
        exact ⟨i, h1, by omega⟩
theorem wm_indexN {Z : Zn} {M : Mu} {Q2 : DQ} {d : DV} {o : List Nat} {z : Nat} (l : LstOf M d (o.map natD)) (hz : z ∈ o) (h : Q2 (natD ((atN o z 0).getD 0)) M) : WM Z (rIndex Z.W.K) d [natD z] M Q2 := by
  obtain ⟨j, hj⟩ : ∃ j, atN o z 0 = some j := by
    cases e : atN o z 0 with
    | none => exact absurd hz (atN_none.mp e)
    | some i => exact ⟨i, rfl⟩
  rw [hj] at h
  have hg := at_get hz
  rw [hj, Option.getD_some] at hg
  refine wm_index (ys := o.map fun n => V.int (n : Nat)) (p := .int (z : Nat)) (z := .int (z : Nat)) (j := j) (by rw [List.map_map]; exact l) rfl (by simp [flatV]) (by rw [List.getElem?_map, hg]; rfl) (by simp [eqV]) (fun m z' hm hz' => ?_) h
  rw [List.getElem?_map, Option.map_eq_some_iff] at hz'
  obtain ⟨y, hy, rfl⟩ := hz'
  have hne : y ≠ z := fun e => by
    subst e
    obtain ⟨i, hi, hle⟩ := atN_first (n := 0) hy
    rw [hj] at hi
    cases hi
    omega
  show (((y : Nat) : Int) == ((z : Nat) : Int)) = false
  rw [beq_eq_false_iff_ne]
  exact fun e => hne (Int.ofNat.inj e)
theorem erase_N : ∀ (l : List Nat) (i : Nat), (l.map natD).eraseIdx i = (l.eraseIdx i).map natD
  | [], i => rfl
  | a :: l, 0 => rfl
  | a :: l, i + 1 => by
    rw [List.map_cons, List.eraseIdx_cons_succ, List.eraseIdx_cons_succ, List.map_cons, erase_N l i]
theorem perm_erase : ∀ {l : List Nat} {i : Nat} (h : i < l.length), (l[i] :: l.eraseIdx i).Perm l
  | a :: l, 0, h => List.Perm.refl _
  | a :: l, i + 1, h => by
    rw [List.eraseIdx_cons_succ, List.getElem_cons_succ]
    exact (List.Perm.swap _ _ _).trans ((perm_erase (by simpa using h)).cons a)
theorem mov_hok {ps : Prs} {m : Nat} {held : List Bun} {o : List Nat} (h : DL.HOk ps m held) (hv : Vis held o) (hc : ∀ x ∈ o, Cld held o x) : DL.HOk ps m (o.filterMap fun k => (held[k]?).map (movB o)) := fun b hb => by
  obtain ⟨k, hk, e⟩ := List.mem_filterMap.mp hb
  rw [Option.map_eq_some_iff] at e
  obtain ⟨b0, h0, rfl⟩ := e
  obtain ⟨g1, g2, g3⟩ := h b0 (List.mem_of_getElem? h0)
  refine ⟨g1, ⟨?_, fun e he => ?_⟩, ?_⟩
  · show (b0.2.map _).Pairwise _
    rw [List.pairwise_map]
    exact g2.1
  · obtain ⟨e0, he0, rfl⟩ := List.mem_map.mp he
    exact mov_part hv (g2.2 e0 he0) fun p hp => hc k hk b0 h0 e0 he0 p hp
  · show (b0.2.map _).length ≤ m
    rw [List.length_map]
    exact g3
theorem ok__law_shuffled (T : Tx K mg a) : FnOk P w K mg base CX0 6 a.f__law_shuffled a.d__law_shuffled ["_law_well_here", "_law_made", "_law_roots"] (lift ⟨P, w, K⟩ (sp_lshuf)) := by
  refine okD T.F__law_shuffled sc__law_shuffled (fun ds M Q2 E2 h => by obtain ⟨p, n, ps, made, roots, M0, rfl, _⟩ := h; rfl) fun cdv A outer s H E G Fr ds M Q2 E2 hr h => ⟨_, (pss_cons (ps_set (i := 3) sc__law_shuffled.nd rfl (Or.inr rfl) (pe_listRg rfl rfl T.z_list (prg_1 rfl T.z_range (pe_callB (k_len (K := K) rfl) rfl T.z_len bt_len (pa_cons (pv 1) pa_nil))))) (pss_cons (ps_set (i := 4) sc__law_shuffled.nd rfl (Or.inr rfl) (pe_lc (own := [("_law_k", 9)]) (g := gName 9) rfl sc__law_shuffled.nd (pi_range1 rfl T.z_range (pa_cons (pe_callB (k_len (K := K) rfl) rfl T.z_len bt_len (pa_cons (pv 1) pa_nil)) pa_nil)) (blkOk_by (N := N__law_shuffled) (own := [("_law_k", 9)]) (sc := defScope s__law_shuffled) (by first | decide +kernel | kernel_rfl)) (fun _ _ _ _ _ => (pg_name (i := 9) sc__law_shuffled.nd rfl (Or.inl rfl))) (fun _ _ _ _ _ => pts_nil) (fun _ _ _ _ _ => (k_bm (K := K) rfl PySem.F.plainAttrs_list PySem.F.slot_list_pop PySem.F.type_list_pop mt_popAt (pv 3) (pa_cons (pe_call (ok__law_draw (P := P) (w := w) (K := K) (base := base) T) (hr.mono (by decide)) rfl T.g__law_draw T.k__law_draw T.b__law_draw .nil passZ (pa_cons (pv 0) (pa_cons (pe_callB (k_len (K := K) rfl) rfl T.z_len bt_len (pa_cons (pv 3) pa_nil)) pa_nil))) pa_nil))))) (pss_cons (ps_set (i := 5) sc__law_shuffled.nd rfl (Or.inl rfl) (pe_lstM pa_nil)) (pss_cons (ps_for PassesOwn.never rfl (k_ls (K := K) rfl (pv 4)) (pg_name (i := 6) sc__law_shuffled.nd rfl (Or.inl rfl)) (pss_cons (ps_asg (pe_ix (k_ix (K := K) rfl) (pv 1) (pv 6) (fun _ _ => rfl)) (k_gtup (K := K) rfl rfl (pgs_cons (pg_name (i := 7) sc__law_shuffled.nd rfl (Or.inl rfl)) (pgs_cons (pg_name (i := 8) sc__law_shuffled.nd rfl (Or.inl rfl)) pgs_nil)))) (pss_one (ps_expr (k_bm (K := K) rfl PySem.F.plainAttrs_list PySem.F.slot_list_append PySem.F.type_list_append mt_append (pv 5) (pa_cons (pe_tup (pa_cons (pv 7) (pa_cons (pe_lc (own := [("_law_value", 10), ("_law_parts", 11)]) (g := gTup K 2 (gCons (gName 10) (gCons (gName 11) gNil))) rfl sc__law_shuffled.nd (k_ls (K := K) rfl (pv 8)) (blkOk_by (N := N__law_shuffled) (own := [("_law_value", 10), ("_law_parts", 11)]) (sc := defScope s__law_shuffled) (by first | decide +kernel | kernel_rfl)) (fun _ _ _ _ _ => (k_gtup (K := K) rfl rfl (pgs_cons (pg_name (i := 10) sc__law_shuffled.nd rfl (Or.inl rfl)) (pgs_cons (pg_name (i := 11) sc__law_shuffled.nd rfl (Or.inl rfl)) pgs_nil)))) (fun _ _ _ _ _ => pts_nil) (fun _ _ _ _ _ => (pe_tup (pa_cons (pv 10) (pa_cons (pe_callTy (k_tup (K := K) rfl) rfl T.z_tuple bt_tuple (pa_cons (pe_lc (own := [("_law_part", 12)]) (g := gName 12) rfl sc__law_shuffled.nd (k_seq (K := K) rfl (pv 11)) (by first | exact blkOk_by (by decide +kernel) | exact blkOk_by (by kernel_rfl)) (fun _ _ _ _ _ => (pg_name (i := 12) sc__law_shuffled.nd rfl (Or.inl rfl))) (fun _ _ _ _ _ => pts_nil) (fun _ _ _ _ _ => (k_bm (K := K) rfl PySem.F.plainAttrs_list PySem.F.slot_list_index PySem.F.type_list_index (k_index (K := K) rfl) (pv 4) (pa_cons (pv 12) pa_nil)))) pa_nil)) pa_nil))))) pa_nil))) pa_nil)))))) (pss_one (ps_ret (pe_tup (pa_cons (pv 5) (pa_cons (pe_callTy (k_tup (K := K) rfl) rfl T.z_tuple bt_tuple (pa_cons (pe_lc (own := [("_law_root", 13)]) (g := gName 13) rfl sc__law_shuffled.nd (k_ls (K := K) rfl (pv 2)) (blkOk_by (N := N__law_shuffled) (own := [("_law_root", 13)]) (sc := defScope s__law_shuffled) (by first | decide +kernel | kernel_rfl)) (fun _ _ _ _ _ => (pg_name (i := 13) sc__law_shuffled.nd rfl (Or.inl rfl))) (fun _ _ _ _ _ => pts_nil) (fun _ _ _ _ _ => (k_bm (K := K) rfl PySem.F.plainAttrs_list PySem.F.slot_list_index PySem.F.type_list_index (k_index (K := K) rfl) (pv 4) (pa_cons (pv 13) pa_nil)))) pa_nil)) pa_nil))))))))), ?_⟩
  obtain ⟨p, n, ps, made, roots, M0, rfl, rfl, hn, t, hml, hok, hroots, q⟩ := h
  refine ws_start (ρ' := [some _, some _, some _, none, none, none, none, none, none, none, none, none, none, none]) rfl ?_
  refine ws_weakR ?_
  walk_at "w"
  refine we_listRg ?_
  walk_at "w"
  refine ⟨by omega, fun ql hql => ?_⟩
  obtain ⟨nl, hql0⟩ := updM_none hql
  have hql0' : ∀ {m : Nat}, updM M0 p (wl m) ql = none := fun {m} => by rw [updM_ne nl]; exact hql0
  walk_at "w"
  refine comp_word (fun j acc M => ∃ (m : Nat) (o left : List Nat), M = updM (updM M0 p (wl m)) ql (.lst (left.map natD)) ∧ acc = o.map natD ∧ o.length = j ∧ left.length + j = made.length ∧ m ≤ n + j ∧ (o ++ left).Perm (List.range made.length)) _ 0 [] _ (by rw [rangeD_len]; exact le_size (by simp; omega)) ⟨n, [], List.range made.length, rfl, rfl, rfl, by simp, by omega, by simp⟩ (fun i d acc M F hi hI => ?_) fun acc M hI => ?_
  · obtain ⟨m, o, left, rfl, rfl, hol, hll, hm, hperm⟩ := hI
    have hi2 : i < made.length := (rangeD_get hi).1
    walk_at "w"
    intro r hr
    have hrl : r < left.length := by omega
    walk_at "w"
    refine wm_popAt (e := natD left[r]) (k := r) updM_same (by omega) (by omega) (by rw [List.length_map]; exact seqIx_n hrl) (by rw [List.getElem?_map, List.getElem?_eq_getElem hrl]; rfl) ?_
    rw [updM_upd, erase_N]
    refine ⟨m + 1, o ++ [left[r]], left.eraseIdx r, rfl, by rw [List.map_append]; rfl, by rw [List.length_append, hol]; rfl, by rw [List.length_eraseIdx_of_lt hrl]; omega, by omega, ?_⟩
    rw [List.append_assoc]
    exact (List.Perm.append_left o (perm_erase hrl)).trans hperm
  obtain ⟨m, o, left, rfl, rfl, hol, hll, hm, hperm⟩ := hI
  rw [rangeD_len] at hol hll hm
  have hleft : left = [] := List.length_eq_zero_iff.mp (by omega)
  subst hleft
  rw [List.append_nil] at hperm
  have hmem : ∀ k, k ∈ o ↔ k < made.length := fun k => by rw [hperm.mem_iff, List.mem_range]
  have hvis : Vis made o := ⟨hperm.nodup_iff.mpr List.nodup_range, fun x hx => (hmem x).mp hx⟩
  walk_at "w"
  intro qf hqf
  obtain ⟨nfl, hqf1⟩ := updM_none hqf
  walk_at "w"
  refine loop_K (β := List Bun) [6, 7, 8, 10, 11, 12] (fun b => updM (updM (updM M0 p (wl m)) ql (.lst ([].map natD))) qf (.lst (b.map bunD))) (fun i b => b = (o.take i).filterMap fun k => (made[k]?).map (movB o)) (b0 := []) rfl (fun i dd bs hi hbs => ?_) fun bs hbs => ?_
  · obtain ⟨k, hk, rfl⟩ : ∃ k, o[i]? = some k ∧ dd = natD k := by
      rw [List.getElem?_map] at hi
      cases e : o[i]? with
      | none => rw [e] at hi; cases hi
      | some x => rw [e] at hi; cases hi; exact ⟨x, rfl, rfl⟩
    have hkm := List.mem_of_getElem? hk
    obtain ⟨b, hb⟩ : ∃ b, made[k]? = some b := ⟨_, List.getElem?_eq_getElem ((hmem k).mp hkm)⟩
    obtain ⟨b1, b2, b3⟩ := hok b (List.mem_of_getElem? hb)
    have hbl : bs.length ≤ 1000 := by
      rw [hbs]
      have := List.length_filterMap_le (fun k => (made[k]?).map (movB o)) (o.take i)
      rw [List.length_take] at this
      omega
    walk_at "w"
    refine wr_atN (k := k) (.inl rfl) (by rw [List.getElem?_map, hb]; rfl) ?_
    rw [show bunD b = .tup [.s b.1, .lst (b.2.map entD)] from rfl]
    walk_at "w"
    refine comp_mapT entD (fun e => entD (e.1, movF o e.2)) b.2 [] (le_size (by simp; omega)) (fun e he F k2 hk2 => ?_) ?_
    · have hpe := b2.2 e he
      have hpl := hpe.len
      have hkl := kids_le (ps := ps) (o := some b.1)
      have h8 := t.len
      rw [show entD e = .tup [.i e.1, natsD e.2] from rfl]
      unfold natsD
      walk_at "w"
      refine comp_mapT natD (fun p => natD ((atN o p 0).getD 0)) e.2 [] (le_size (by simp; omega)) (fun z hz F k3 hk3 => ?_) ?_
      · walk_at "w"
        refine wm_indexN (.inl rfl) ((hmem z).mpr (hpe.lt hz)) ?_
        exact hk3
      rw [List.nil_append]
      walk_at "w"
      rw [show DV.tup (e.2.map fun p => natD ((atN o p 0).getD 0)) = natsD (movF o e.2) by unfold natsD movF; rw [List.map_map]; rfl]
      exact hk2
    rw [List.nil_append]
    walk_at "w"
    refine ⟨by dsimp only [wipe2, List.set], bs ++ [movB o b], ?_, ?_⟩
    · rw [take_succ_get hk, List.filterMap_append, hbs]
      simp [hb]
    · rw [List.map_append, List.map_singleton]
      unfold movB bunD
      rw [List.map_map]
      rfl
  · rw [List.length_map, List.take_length] at hbs
    refine ws_frzL 5 rfl updM_same ?_
    rw [delM_updM hqf]
    have hrl := hroots.len
    have hkl := kids_le (ps := ps) (o := none)
    have h8 := t.len
    walk_at "w"
    refine comp_mapT natD (fun p => natD ((atN o p 0).getD 0)) roots [] (le_size (by simp; omega)) (fun z hz F k3 hk3 => ?_) ?_
    · walk_at "w"
      refine wm_indexN (.inl rfl) ((hmem z).mpr (hroots.lt hz)) ?_
      exact hk3
    rw [List.nil_append]
    walk_at "w"
    rw [show DV.tup (roots.map fun p => natD ((atN o p 0).getD 0)) = natsD (movF o roots) by unfold natsD movF; rw [List.map_map]; rfl, hbs]
    have hcl : ∀ x ∈ o, Cld made o x := fun x _ b hb e he z hz => (hmem z).mpr (((hok b (List.mem_of_getElem? hb)).2.1.2 e he).lt hz)
    refine ⟨_, MLe.dropN hql0', q _ (movF o roots) m ?_ (mov_hok hok hvis hcl) (mov_part hvis hroots fun z hz => (hmem z).mpr (hroots.lt hz)) (by omega)⟩
    exact Nat.le_trans (List.length_filterMap_le _ _) hvis.len
structure RawI (ps : Prs) (ds : List Str) (made : List Bun) : Prop where
  hok : DL.HOk ps 3 made
  has : ∀ d ∈ ds, ∃ (k : Nat) (b : Bun), made[k]? = some b ∧ b.1 = d
def sp_lraw : Sp2 := fun ds M Q2 _ => ∃ (p : Addr) (n : Nat) (ps : Prs) (bs : Int) (M0 : Mu), ds = [.r p, .lst (pairsD ps), .i bs] ∧ M = updM M0 p (wl n) ∧ n ≤ 100000 ∧ Tr ps ∧
  ∀ (raw : List Bun) (ts : List Nat) (n' : Nat), RawOk ps 3 raw → PartR raw (kidsOf ps none) ts → n' ≤ n + 1000 → Q2 (.tup [.lst (raw.map bunD), natsD ts]) (updM M0 p (wl n'))
theorem ok__law_raw (T : Tx K mg a) : FnOk P w K mg base CX0 22 a.f__law_raw a.d__law_raw ["_law_well_here", "_law_pairs_here", "_law_base_here"] (lift ⟨P, w, K⟩ (sp_lraw)) := by
  refine okD T.F__law_raw sc__law_raw (fun ds M Q2 E2 h => by obtain ⟨p, n, ps, bs, M0, rfl, _⟩ := h; rfl) fun cdv A outer s H E G Fr ds M Q2 E2 hr h => ⟨_, (pss_cons (ps_set (i := 3) sc__law_raw.nd rfl (Or.inl rfl) (pe_lstM pa_nil)) (pss_cons (ps_for PassesOwn.never rfl (k_ls (K := K) rfl (k_rev (K := K) rfl (pe_call (ok__law_order (P := P) (w := w) (K := K) (base := base) T) (hr.mono (by decide)) rfl T.g__law_order T.k__law_order T.b__law_order .nil passZ (pa_cons (pv 1) (pa_cons pe_non pa_nil))))) (pg_name (i := 4) sc__law_raw.nd rfl (Or.inr rfl)) (pss_one (ps_for PassesOwn.never rfl (pi_range1 rfl T.z_range (pa_cons (pe_op (k_add (K := K) rfl) pe_int (pe_call (ok__law_draw (P := P) (w := w) (K := K) (base := base) T) (hr.mono (by decide)) rfl T.g__law_draw T.k__law_draw T.b__law_draw .nil passZ (pa_cons (pv 0) (pa_cons pe_int pa_nil)))) pa_nil)) (pg_name (i := 5) sc__law_raw.nd rfl (Or.inl rfl)) (pss_one (ps_expr (k_bm (K := K) rfl PySem.F.plainAttrs_list PySem.F.slot_list_append PySem.F.type_list_append mt_append (pv 3) (pa_cons (pe_call (ok__law_bunch (P := P) (w := w) (K := K) (base := base) T) (hr.mono (by decide)) rfl T.g__law_bunch T.k__law_bunch T.b__law_bunch .nil passZ (pa_cons (pv 0) (pa_cons (pv 1) (pa_cons (pv 3) (pa_cons (pv 4) (pa_cons (pv 2) pa_nil)))))) pa_nil))))))) (pss_cons (ps_set (i := 6) sc__law_raw.nd rfl (Or.inl rfl) (pe_lstM pa_nil)) (pss_cons (ps_for PassesOwn.never rfl (k_ls (K := K) rfl (pe_lc (own := [("_law_name", 4), ("_law_over", 8)]) (g := gTup K 2 (gCons (gName 4) (gCons (gName 8) gNil))) rfl sc__law_raw.nd (k_ls (K := K) rfl (pv 1)) (blkOk_by (N := N__law_raw) (own := [("_law_name", 4), ("_law_over", 8)]) (sc := defScope s__law_raw) (by first | decide +kernel | kernel_rfl)) (fun _ _ _ _ _ => (k_gtup (K := K) rfl rfl (pgs_cons (pg_name (i := 4) sc__law_raw.nd rfl (Or.inl rfl)) (pgs_cons (pg_name (i := 8) sc__law_raw.nd rfl (Or.inl rfl)) pgs_nil)))) (fun _ _ _ _ _ => (pts_one (pt_cmpR op_isNA (pv 8) pe_non (nomark _)))) (fun _ _ _ _ _ => (pv 4)))) (pg_name (i := 4) sc__law_raw.nd rfl (Or.inr rfl)) (pss_cons (ps_stop (ps_setLc (i := 7) (own := [("_law_at", 9), ("_law_bunch_here", 10)]) (g := gTup K 2 (gCons (gName 9) (gCons (gName 10) gNil))) rfl sc__law_raw.nd rfl rfl (sw_true rfl rfl rfl (by decide +kernel)) (k_enumM (K := K) rfl rfl T.z_enumerate (pa_cons (pv 3) pa_nil)) (blkOk_by (N := N__law_raw) (own := [("_law_at", 9), ("_law_bunch_here", 10)]) (sc := defScope s__law_raw) (by first | decide +kernel | kernel_rfl)) (fun _ _ _ _ _ => (k_gtup (K := K) rfl rfl (pgs_cons (pg_name (i := 9) sc__law_raw.nd rfl (Or.inl rfl)) (pgs_cons (pg_name (i := 10) sc__law_raw.nd rfl (Or.inl rfl)) pgs_nil)))) (fun _ _ _ _ _ => (pts_one (pt_cmpR (k_eq (K := K) rfl (hu64 hr)) (pe_ix (k_ix (K := K) rfl) (pv 10) pe_int (fun _ _ => rfl)) (pv 4) (nomark _)))) (fun _ _ _ _ _ => (pv 9)))) (pss_one (ps_expr (k_bm (K := K) rfl PySem.F.plainAttrs_list PySem.F.slot_list_append PySem.F.type_list_append mt_append (pv 6) (pa_cons (pe_ix (k_ix (K := K) rfl) (pv 7) (pe_call (ok__law_draw (P := P) (w := w) (K := K) (base := base) T) (hr.mono (by decide)) rfl T.g__law_draw T.k__law_draw T.b__law_draw .nil passZ (pa_cons (pv 0) (pa_cons (pe_callB (k_len (K := K) rfl) rfl T.z_len bt_len (pa_cons (pv 7) pa_nil)) pa_nil))) (fun _ _ => rfl)) pa_nil)))))) (pss_one (ps_ret (pe_call (ok__law_shuffled (P := P) (w := w) (K := K) (base := base) T) (hr.mono (by decide)) rfl T.g__law_shuffled T.k__law_shuffled T.b__law_shuffled .nil passZ (pa_cons (pv 0) (pa_cons (pv 3) (pa_cons (pv 6) pa_nil)))))))))), ?_⟩
  obtain ⟨p, n, ps, bs, M0, rfl, rfl, hn, t, q⟩ := h
  refine ws_start (ρ' := [some _, some _, some _, none, none, none, none, none, none, none, none]) rfl ?_
  have h8 := t.len
  walk_at "w"
  intro qm hqm
  obtain ⟨nm, hqm0⟩ := updM_none hqm
  have hol := ord_len t none
  walk_at "w"
  refine we_rev ?_
  walk_at "w"
  refine ⟨ps, none, rfl, by show ps.length < 9; omega, t, ?_⟩
  refine ⟨_, .inl rfl, ?_⟩
  rw [← List.map_reverse]
  refine ⟨_, rfl, ?_⟩
  refine loop_S (β := List Bun) [4, 5] (fun m b => updM (updM M0 p (wl m)) qm (.lst (b.map bunD))) (fun i b => RawI ps ((ord ps none).reverse.take i) b ∧ b.length ≤ 3 * i) 100 (b0 := []) ⟨⟨fun x hx => (by cases hx), fun d hd => (by cases hd)⟩, Nat.le_refl _⟩ (fun i dd m made hi hm hI => ?_) fun m made hm hI => ?_
  · obtain ⟨c, hc, rfl⟩ := map_getS hi
    have hil := get_lt hc
    rw [List.length_reverse] at hil
    obtain ⟨hR, hml⟩ := hI
    have hcn : c ∈ DL.namesOf ps := ord_names (List.mem_reverse.mp (List.mem_of_getElem? hc))
    have hsplit : (ord ps none).reverse.take i ++ c :: (ord ps none).reverse.drop (i + 1) = (ord ps none).reverse := by
      have e := List.take_append_drop (i + 1) (ord ps none).reverse
      rw [take_succ_get hc, List.append_assoc] at e
      exact e
    walk_at "w"
    intro r hr
    walk_at "w"
    refine loop_SE (β := Nat × List Bun) [5] (fun st => updM (updM M0 p (wl st.1)) qm (.lst (st.2.map bunD))) (fun j st => DL.HOk ps 3 st.2 ∧ (∀ d ∈ (ord ps none).reverse.take i, ∃ (k : Nat) (b : Bun), st.2[k]? = some b ∧ b.1 = d) ∧ st.2.length ≤ 3 * i + j ∧ st.1 ≤ m + 1 + 28 * j ∧ (0 < j → ∃ (k : Nat) (b : Bun), st.2[k]? = some b ∧ b.1 = c)) (b0 := (m + 1, made)) ⟨hR.hok, hR.has, hml, Nat.le_refl _, fun h => absurd h (Nat.lt_irrefl _)⟩ (fun j dj st hj hst => ?_) fun ρ2 st hρ hst => ?_
    · obtain ⟨h1, h2, h3, h4, h5⟩ := hst
      have hj3 := (rangeD_get hj).1
      have hkm : ∀ d ∈ kidsOf ps (some c), ∃ (k : Nat) (b : Bun), st.2[k]? = some b ∧ b.1 = d := fun d hd => h2 d (kids_done t hsplit hd)
      walk_at "w"
      refine ⟨p, qm, st.1, ps, st.2, c, bs, updM M0 qm (.lst (st.2.map bunD)), rfl, updM_comm (Ne.symm nm), nm, updM_same, by omega, t, hcn, by omega, hkm, fun b n' g1 g2 g3 g4 => ?_⟩
      rw [updM_comm nm]
      walk_at "w"
      refine ⟨by dsimp only [wipe2, List.set], (n', st.2 ++ [b]), ⟨h1.app (by rw [g1]; exact hcn) (by rw [g1]; exact g2) g3, fun d hd => ?_, ?_, ?_, fun _ => ⟨st.2.length, b, by simp, g1⟩⟩, by rw [List.map_append]; rfl⟩
      · obtain ⟨k, b', e1, e2⟩ := h2 d hd
        exact ⟨k, b', app_get e1, e2⟩
      · rw [List.length_append]
        show st.2.length + 1 ≤ 3 * i + (j + 1)
        omega
      · show n' ≤ m + 1 + 28 * (j + 1)
        omega
    · obtain ⟨h1, h2, h3, h4, h5⟩ := hst
      rw [rangeD_len] at h3 h4 h5
      refine ⟨?_, st.1, st.2, by omega, ⟨⟨h1, fun d hd => ?_⟩, by omega⟩, rfl⟩
      · show (wipe2 ρ2 [5]).set 4 none = _
        rw [hρ]
        rfl
      · rw [take_succ_get hc] at hd
        rcases List.mem_append.mp hd with hd | hd
        · exact h2 d hd
        · rw [List.mem_singleton] at hd
          rw [hd]
          exact h5 (by omega)
  · obtain ⟨hR, hml⟩ := hI
    simp only [List.length_map, List.length_reverse] at hm hml
    rw [List.length_map, List.take_length] at hR
    walk_at "w"
    intro qr hqr
    obtain ⟨nrm, hqr1⟩ := updM_none hqr
    obtain ⟨nrp, hqr0⟩ := updM_none hqr1
    have hkl := kids_le (ps := ps) (o := none)
    walk_at "w"
    refine comp_filT (fun x : Str × Option Str => .tup [.s x.1, optD x.2]) (fun x => DV.s x.1) (fun x => decide (x.2 = none)) ps [] (le_size (by simp; omega)) (fun x hx F k2 hk2 => ?_) ?_
    · walk_at "w"
      refine ⟨?_, rfl, fun h => ?_⟩
      · cases x.2 <;> rfl
      walk_at "w"
      exact hk2 h
    rw [List.nil_append, show (ps.filter fun x => decide (x.2 = none)).map (fun x => DV.s x.1) = (kidsOf ps none).map DV.s by unfold kidsOf; rw [List.map_map]; rfl]
    walk_at "w"
    refine loop_S (β := List Nat) [4, 7, 9, 10] (fun m b => updM (updM (updM M0 p (wl m)) qm (.lst (made.map bunD))) qr (.lst (b.map natD))) (fun j b => PartR made ((kidsOf ps none).take j) b) 1 (b0 := []) rfl (fun j dj mj roots hj hmj hP => ?_) fun mj roots hmj hP => ?_
    · obtain ⟨d, hd, rfl⟩ := map_getS hj
      have hjl := get_lt hd
      have hpl := hP.len
      rw [List.length_take] at hpl
      have hdn : d ∈ (ord ps none).reverse := List.mem_reverse.mpr (ord_kid t (List.mem_of_getElem? hd))
      obtain ⟨k0, b0, hk0, hb0⟩ := hR.has d hdn
      have hpos : 0 < (idxB made d).length := List.length_pos_of_mem (idxB_mem.mpr ⟨b0, hk0, hb0⟩)
      have hle := idxB_len (bs := made) (c := d)
      have hmm2 : updM (updM (updM M0 p (wl mj)) qm (.lst (made.map bunD))) qr (.lst (roots.map natD)) qm = some (.lst (made.map bunD)) := by
        rw [updM_ne (Ne.symm nrm), updM_same]
      walk_at "w"
      refine ws_stop (ws_set ?_)
      refine we_lcM ?k1 (wim_enum ?_)
      case k1 => exact gok_tup (gsok_name (by decide) (gsok_name (by decide) gsok_nil))
      walk_at "w"
      refine ⟨_, made.map bunD, rfl, .inr ⟨qm, rfl, hmm2⟩, ?_⟩
      rw [enumD_zip]
      refine comp_filTM (fun x : Bun × Nat => .tup [.i (x.2 : Nat), bunD x.1]) (fun x => natD x.2) (fun x => decide (x.1.1 = d)) (.inr ⟨qm, rfl, hmm2⟩) made.zipIdx [] (le_size (by simp; omega)) (fun x hx F k2 hk2 => ?_) ?_
      · rw [show bunD x.1 = .tup [.s x.1.1, .lst (x.1.2.map entD)] from rfl]
        walk_at "w"
        refine ⟨by simp, rfl, fun h => ?_⟩
        walk_at "w"
        exact hk2 h
      rw [List.nil_append, show (made.zipIdx.filter fun x => decide (x.1.1 = d)).map (fun x => natD x.2) = (idxB made d).map natD by unfold idxB; rw [List.map_map]; rfl]
      walk_at "w"
      intro r hr
      refine wr_atM (f := natD) (.inl rfl) (by omega) fun k hk => ?_
      obtain ⟨b1, hb1, hb2⟩ := idxB_mem.mp (List.mem_of_getElem? hk)
      walk_at "w"
      refine ⟨by dsimp only [wipe2, List.set], mj + 1, roots ++ [k], Nat.le_refl _, ?_, by rw [List.map_append]; rfl⟩
      unfold PartR at hP ⊢
      rw [take_succ_get hd, List.map_append, List.map_append, hP, List.map_singleton, List.map_singleton, hb1, Option.map_some, hb2]
    · rw [List.length_map] at hmj hP
      rw [List.take_length] at hP
      refine ws_frzL 6 rfl updM_same ?_
      rw [delM_updM (by rw [updM_ne nrm, updM_ne nrp]; exact hqr0)]
      refine ws_frzL 3 rfl updM_same ?_
      rw [delM_updM (by rw [updM_ne nm]; exact hqm0)]
      walk_at "w"
      refine ⟨p, mj, ps, made, roots, M0, rfl, rfl, by omega, t, by omega, hR.hok, hP, fun raw ts n' hl h1 h2 h3 => ?_⟩
      exact q raw ts n' ⟨by omega, h1⟩ h2 (by omega)
def sp_lref (a : Ad) : Sp2 := fun ds M Q2 _ => ∃ ps m bs ts d, ds = [foldD a.c_Fold (treeD a.c_Tree ps) bs ts, d] ∧ Tr ps ∧ m ≤ 1000 ∧ FoldOk ps m bs ts ∧ KnR M d ∧ isRowD d (ps.length : Nat) = false ∧ Q2 (.b true) M
theorem row_is {x : List Int} {n : Nat} (h : x.length = n) : isRowD (rowD x) (n : Nat) = true := h ▸ isRowD_row
theorem ok__law_refused (T : Tx K mg a) : FnOk P w K mg base CX0 28 a.f__law_refused a.d__law_refused ["_law_fold", "_law_odd"] (lift ⟨P, w, K⟩ (sp_lref a)) := by
  refine okD T.F__law_refused sc__law_refused (fun ds M Q2 E2 h => by obtain ⟨ps, m, bs, ts, d, rfl, _⟩ := h; rfl) fun cdv A outer s H E G Fr ds M Q2 E2 hr h => ⟨_, (pss_cons (ps_set (i := 2) sc__law_refused.nd rfl (Or.inl rfl) pe_bl) (pss_cons (ps_tryA (K := K) (i := 3) (Wout := fun _ _ _ _ => False) rfl rfl rfl sc__law_refused.nd rfl rfl ⟨rfl, by decide, Or.inl T.gc_FoldError⟩ takes0 (fun W pn xe tk _ => (pss_one (ps_expr (pe_methY (pv 0) T.cl_Fold T.m_Fold_o_has (ok_Fold_o_has (P := P) (w := w) (K := K) (base := base) T) (hr.mono (by decide)) T.b_Fold_o_has .nil (fun σ => passAt tk σ) (by exact (pa_cons (pv 1) pa_nil)))))) (fun ae oe cls d pn hz hf => (pss_one (ps_set (i := 2) sc__law_refused.nd rfl (Or.inl rfl) (pe_and (pe_callB (call_isX hz hf) rfl T.z_isinstance bt_isinstance (pa_cons (pv 3) (pa_cons (pe_glob (v := .ref a.c_NoRow) rfl T.gc_NoRow rfl) pa_nil))) (pe_and (pe_not (pe_callB (call_isX hz hf) rfl T.z_isinstance bt_isinstance (pa_cons (pv 3) (pa_cons (pe_glob (v := .ref a.c_NoColumns) rfl T.gc_NoColumns rfl) pa_nil)))) (pe_one (pe_cmpR (k_eq (K := K) rfl (have hh := hu64 hr; hh)) (pe_xf T.xf_NoRow T.na_NoRow_o_at hz hf (pv 3)) pe_int (nomark _))))))))) (pss_one (ps_ret (pv 2))))), ?_⟩
  obtain ⟨ps, m, bs, ts, d, rfl, t, hm0, fo, hd, hr1, q⟩ := h
  refine ws_start (ρ' := [some _, some _, none, none]) rfl ?_
  walk_at "w"
  refine ws_tryA (fun C ns es ρ' M' => ρ' = [some (foldD a.c_Fold (treeD a.c_Tree ps) bs ts), some d, some (.v (.bl false)), none] ∧ M' = M ∧ C = a.c_NoRow ∧ ns = [("at" : Str)] ∧ es = [.i 0]) ?_ ?_
  · intro G1 Wx s1 hw
    walk_at "w"
    refine ⟨ps, m, bs, ts, d, rfl, t, hm0, fo, hd, fun _ => ⟨rfl, rfl, rfl, rfl, rfl⟩, fun r e1 lr => ?_⟩
    rw [e1, row_is lr] at hr1
    cases hr1
  · intro C ns es ρ' M' hW
    obtain ⟨rfl, rfl, rfl, rfl, rfl⟩ := hW
    refine ⟨T.ex_NoRow_FoldError, fun G1 d' ae s1 hx => ?_⟩
    walk_at "w"
    refine wc_isX T.xc_NoRow hx (.own _) T.kt_NoRow_NoRow ?_
    walk_at "w"
    refine wc_isX T.xc_NoRow hx (.own _) T.ki_NoRow_NoColumns ?_
    walk_at "w"
    refine we_xf hx ?_
    walk_at "w"
    refine ⟨rfl, rfl, .i 0, xd_some hx, rfl, ?_⟩
    walk_at "w"
    exact q
def sp_lnear : Sp2 := fun ds M Q2 _ => ∃ (p : Addr) (n : Nat) (r : List Int) (bs : Int) (M0 : Mu), ds = [.r p, rowD r, .i bs] ∧ M = updM M0 p (wl n) ∧ n ≤ 1000000 ∧ 0 < r.length ∧ r.length ≤ 8 ∧ ∀ r' : List Int, r'.length = r.length → Q2 (rowD r') (updM M0 p (wl (n + 2)))
theorem ok__law_near (T : Tx K mg a) : FnOk P w K mg base CX0 6 a.f__law_near a.d__law_near ["_law_well_here", "_law_line", "_law_base_here"] (lift ⟨P, w, K⟩ (sp_lnear)) := by
  refine okD T.F__law_near sc__law_near (fun ds M Q2 E2 h => by obtain ⟨p, n, r, bs, M0, rfl, _⟩ := h; rfl) fun cdv A outer s H E G Fr ds M Q2 E2 hr h => ⟨_, (pss_cons (ps_set (i := 3) sc__law_near.nd rfl (Or.inl rfl) (pe_call (ok__law_draw (P := P) (w := w) (K := K) (base := base) T) (hr.mono (by decide)) rfl T.g__law_draw T.k__law_draw T.b__law_draw .nil passZ (pa_cons (pv 0) (pa_cons (pe_callB (k_len (K := K) rfl) rfl T.z_len bt_len (pa_cons (pv 1) pa_nil)) pa_nil)))) (pss_one (ps_ret (pe_op (k_addT (K := K) rfl) (pe_op (k_addT (K := K) rfl) (pe_slice (k_slT (K := K) rfl) (pv 1) po_none (po_some (pv 3))) (pe_tup (pa_cons (pe_op (k_add (K := K) rfl) (pv 2) (pe_call (ok__law_draw (P := P) (w := w) (K := K) (base := base) T) (hr.mono (by decide)) rfl T.g__law_draw T.k__law_draw T.b__law_draw .nil passZ (pa_cons (pv 0) (pa_cons pe_int pa_nil)))) pa_nil))) (pe_slice (k_slT (K := K) rfl) (pv 1) (po_some (pe_op (k_add (K := K) rfl) (pv 3) pe_int)) po_none))))), ?_⟩
  obtain ⟨p, n, r, bs, M0, rfl, rfl, hn, hr0, hr8, q⟩ := h
  refine ws_start (ρ' := [some _, some _, some _, none]) rfl ?_
  unfold rowD at q ⊢
  walk_at "w"
  intro k hk
  walk_at "w"
  refine wl_tupT ?_
  rw [cut_map, cut_toN]
  walk_at "w"
  intro v hv
  walk_at "w"
  refine wr_tupAdd (by simp; omega) ?_
  walk_at "w"
  refine wl_tupT ?_
  rw [cut_map, show ((k : Int) + 1) = ((k + 1 : Nat) : Int) by omega, cut_fromN]
  refine wr_tupAdd (by simp; omega) ?_
  have e : (r.take k).map DV.i ++ [DV.i (bs + v)] ++ (r.drop (k + 1)).map DV.i = (r.take k ++ [bs + (v : Int)] ++ r.drop (k + 1)).map DV.i := by simp
  rw [e]
  refine q _ ?_
  simp
  omega
theorem rawOk_opr {ps : Prs} {m : Nat} {raw : List Bun} (t : Tr ps) (h : RawOk (DL.opr ps) m raw) : RawOk ps m raw := ⟨h.len, fun b hb => by
  obtain ⟨g1, g2, g3⟩ := h.bun b hb
  rw [names_opr] at g1
  rw [kids_opr t] at g2
  exact ⟨(ord_mem t).mp g1, g2, g3⟩⟩
theorem rowsT_le {ps : Prs} {raw : List Bun} {ts : List Nat} (t : Tr ps) (h : DL.HOk ps 3 raw) (hp : PartR raw (kidsOf ps none) ts) : (prodR (ts.map (rowsB raw))).length ≤ 3 ^ ps.length := by
  rw [prodR_len, List.map_map, ← len_ord t, ord_sum t]
  refine mulN_le (by decide) (by rw [List.length_map, List.length_map, hp.len]) fun j x d e1 e2 => ?_
  rw [List.getElem?_map, Option.map_eq_some_iff] at e1 e2
  obtain ⟨p, e1, rfl⟩ := e1
  obtain ⟨c, e2, rfl⟩ := e2
  obtain ⟨b', hb', rfl⟩ := hp.get e1 e2
  exact rows_le t h (by decide) hb'
theorem rowsT_wide {ps : Prs} {raw : List Bun} {ts : List Nat} (t : Tr ps) (h : DL.HOk ps 3 raw) (hp : PartR raw (kidsOf ps none) ts) : ∀ r ∈ prodR (ts.map (rowsB raw)), r.length = ps.length := fun r hr => by
  rw [← len_ord t, ord_sum t]
  refine prodR_lens (by rw [List.length_map, List.length_map, hp.len]) (fun i rs d h1 h2 => ?_) r hr
  rw [List.getElem?_map, Option.map_eq_some_iff] at h1 h2
  obtain ⟨p, h1, rfl⟩ := h1
  obtain ⟨c, h2, rfl⟩ := h2
  obtain ⟨b', hb', rfl⟩ := hp.get h1 h2
  exact rows_wide t h hb'
theorem pln_int : ∀ l : List Int, plnL (l.map DV.i) = true
  | [] => rfl
  | n :: l => by rw [List.map_cons, plnL, pln_int l]; rfl
theorem pln_rowsD : ∀ l : List (List Int), plnL (l.map rowD) = true
  | [] => rfl
  | r :: l => by
    rw [List.map_cons, plnL, pln_rowsD l, show (rowD r).pln = plnL (r.map DV.i) from rfl, pln_int]
    rfl
theorem wr_notBl {Z : Zn} {M : Mu} {Q2 : DQ} {x y : Bool} (h : Q2 (.b (!decide (x = y))) M) : WR Z L2.rNotB (.b x) (.b y) M Q2 := fun G H vx vy Q s R dx dy r => ⟨x, y, dat_v.mp dx, dat_v.mp dy, r _ _ G M H (Same.refl G) R dat_v' h⟩
theorem row_inj {x y : List Int} (h : rowD x = rowD y) : x = y := by
  injection h with h
  rw [← intsD_map x, h, intsD_map]
theorem row_mem {x : List Int} {rows : List (List Int)} : rowD x ∈ rows.map rowD ↔ x ∈ rows := by
  rw [List.mem_map]
  exact ⟨fun ⟨y, hy, e⟩ => row_inj e ▸ hy, fun h => ⟨x, h, rfl⟩⟩
theorem has_ok {ps : Prs} {fb : List Bun} {ft : Option (List Nat)} {line : List Int} {M : Mu} {Q2 : DQ} {E2 : XK2} (t : Tr ps) (fo : FoldOk ps 3 fb ft) (lw : line.length = ps.length) (q : Q2 (.b (decide (line ∈ rowsT fb ft))) M) : sp_fhas a [foldD a.c_Fold (treeD a.c_Tree ps) fb ft, rowD line] M Q2 E2 := by
  have h8 := t.len
  refine ⟨ps, 3, fb, ft, rowD line, rfl, t, by omega, fo, KnR.row (by omega), fun h => ?_, fun r e _ => ?_⟩
  · rw [row_is lw] at h
    cases h
  · rw [← row_inj e]
    exact q
def Odd (n : Nat) (d : DV) : Prop := (∀ M, KnR M d) ∧ isRowD d (n : Nat) = false
theorem odd_1 {n k : Nat} (h : k ≤ 8) (hk : k ≠ n) : Odd n (.tup (List.replicate k (.i 1))) := by
  rw [show DV.tup (List.replicate k (.i 1)) = rowD (List.replicate k 1) by unfold rowD; rw [List.map_replicate]]
  refine ⟨fun M => KnR.row (by simp; omega), ?_⟩
  show (decide _ && _) = false
  rw [decide_eq_false (by simp; omega)]
  rfl
theorem odd_b {n k : Nat} (h : k ≤ 8) : Odd n (.tup ([.b true] ++ List.replicate k (.i 1))) := by
  refine ⟨fun M => ⟨Kn.tup, fun es e => ?_⟩, ?_⟩
  · cases e
    refine ⟨by simp; omega, fun e he => ?_⟩
    rcases List.mem_append.mp he with he | he
    · rw [List.mem_singleton.mp he]; exact Kn.b
    · rw [List.eq_of_mem_replicate he]; exact Kn.i
  · show (_ && (false && _)) = false
    rw [Bool.false_and, Bool.and_false]
def sp_right : Sp2 := fun ds M Q2 _ => ∃ (p : Addr), ds = [.r p] ∧ M p = some (wl 0) ∧ ∀ M', Q2 (.b true) M'
theorem ok__law_right (T : Tx K mg a) : FnOk P w K mg base CX0 64 a.f__law_right a.d__law_right ["_law_well_here"] (lift ⟨P, w, K⟩ (sp_right)) := by
  refine okD T.F__law_right sc__law_right (fun ds M Q2 E2 h => by obtain ⟨p, rfl, _⟩ := h; rfl) fun cdv A outer s H E G Fr ds M Q2 E2 hr h => ⟨_, (pss_cons (ps_set (i := 1) sc__law_right.nd rfl (Or.inr rfl) (pe_call (ok__law_names (P := P) (w := w) (K := K) (base := base) T) (hr.mono (by decide)) rfl T.g__law_names T.k__law_names T.b__law_names .nil passZ (pa_cons (pv 0) (pa_cons (pe_ix (k_ix (K := K) rfl) (pe_lst (pa_cons pe_int (pa_cons pe_int (pa_cons pe_int (pa_cons pe_int (pa_cons pe_int (pa_cons pe_int pa_nil))))))) (pe_call (ok__law_draw (P := P) (w := w) (K := K) (base := base) T) (hr.mono (by decide)) rfl T.g__law_draw T.k__law_draw T.b__law_draw .nil passZ (pa_cons (pv 0) (pa_cons pe_int pa_nil))) (fun _ _ => rfl)) pa_nil)))) (pss_cons (ps_set (i := 2) sc__law_right.nd rfl (Or.inl rfl) (pe_make T.mk_Tree (ok_Tree_o___init__ (P := P) (w := w) (K := K) (base := base) T) (hr.mono (by decide)) rfl T.gc_Tree T.b_Tree_o___init__ .nil passF (pa_cons (pe_call (ok__law_pairs (P := P) (w := w) (K := K) (base := base) T) (hr.mono (by decide)) rfl T.g__law_pairs T.k__law_pairs T.b__law_pairs .nil passZ (pa_cons (pv 0) (pa_cons (pv 1) pa_nil))) pa_nil))) (pss_cons (ps_set (i := 3) sc__law_right.nd rfl (Or.inr rfl) (pe_call (ok__law_base (P := P) (w := w) (K := K) (base := base) T) (hr.mono (by decide)) rfl T.g__law_base T.k__law_base T.b__law_base .nil passZ (pa_cons (pv 0) pa_nil))) (pss_cons (ps_asg (pe_call (ok__law_raw (P := P) (w := w) (K := K) (base := base) T) (hr.mono (by decide)) rfl T.g__law_raw T.k__law_raw T.b__law_raw .nil passZ (pa_cons (pv 0) (pa_cons (pe_meth0 (pv 2) T.cl_Tree T.m_Tree_o_pairs (ok_Tree_o_pairs (P := P) (w := w) (K := K) (base := base) T) (hr.mono (by decide)) T.b_Tree_o_pairs .nil passZ) (pa_cons (pv 3) pa_nil)))) (k_gtup (K := K) rfl rfl (pgs_cons (pg_name (i := 4) sc__law_right.nd rfl (Or.inl rfl)) (pgs_cons (pg_name (i := 5) sc__law_right.nd rfl (Or.inl rfl)) pgs_nil)))) (pss_cons (ps_set (i := 6) sc__law_right.nd rfl (Or.inl rfl) (pe_call (ok__law_rows_of (P := P) (w := w) (K := K) (base := base) T) (hr.mono (by decide)) rfl T.g__law_rows_of T.k__law_rows_of T.b__law_rows_of .nil passZ (pa_cons (pv 4) (pa_cons (pv 5) pa_nil)))) (pss_cons (ps_set (i := 7) sc__law_right.nd rfl (Or.inl rfl) (pe_call (ok_fold_of (P := P) (w := w) (K := K) (base := base) T) (hr.mono (by decide)) rfl T.g_fold_of T.k_fold_of T.b_fold_of .nil passF (pa_cons (pv 2) (pa_cons (pv 4) (pa_cons (pv 5) pa_nil))))) (pss_cons (ps_for PassesOwn.never rfl (pi_range1 rfl T.z_range (pa_cons pe_int pa_nil)) (pg_name (i := 8) sc__law_right.nd rfl (Or.inl rfl)) (pss_cons (ps_set (i := 9) sc__law_right.nd rfl (Or.inl rfl) (pe_call (ok_unfolded (P := P) (w := w) (K := K) (base := base) T) (hr.mono (by decide)) rfl T.g_unfolded T.k_unfolded T.bx1_unfolded.choose_spec.2 T.bx1_unfolded.choose_spec.1 passF (pa_cons (pv 7) pa_nil))) (pss_cons (ps_if (PW.pt (pw_or (pt_not (pt_val (pe_callB (k_isi (K := K) rfl) rfl T.z_isinstance bt_isinstance (pa_cons (pv 9) (pa_cons (pe_bltn (v := .ty "list") rfl T.z_list bt_list rfl) pa_nil))))) (pw_or (pt_cmpR (k_ne (K := K) rfl (hu64 hr)) (pv 9) (pv 6) (nomark _)) (pw_or (pt_cmpR (k_ne (K := K) rfl (hu64 hr)) (pe_meth0 (pv 7) T.cl_Fold T.m_Fold_o_count (ok_Fold_o_count (P := P) (w := w) (K := K) (base := base) T) (hr.mono (by decide)) T.b_Fold_o_count .nil passZ) (pe_callB (k_len (K := K) rfl) rfl T.z_len bt_len (pa_cons (pv 6) pa_nil)) (nomark _)) (pw_or1 (pt_val (pe_callB (k_isi (K := K) rfl) rfl T.z_isinstance bt_isinstance (pa_cons (pe_meth0 (pv 7) T.cl_Fold T.m_Fold_o_count (ok_Fold_o_count (P := P) (w := w) (K := K) (base := base) T) (hr.mono (by decide)) T.b_Fold_o_count .nil passZ) (pa_cons (pe_bltn (v := .ty "bool") rfl T.z_bool bt_bool rfl) pa_nil))))))))) (pss_one (ps_ret pe_bl)) pss_nil) (pss_one (ps_expr (k_bm (K := K) rfl PySem.F.plainAttrs_list PySem.F.slot_list_append PySem.F.type_list_append mt_append (pv 9) (pa_cons pe_int pa_nil))))))) (pss_cons (ps_set (i := 10) sc__law_right.nd rfl (Or.inl rfl) (pe_callB (k_sum (K := K) rfl rfl) rfl T.z_sum bt_sum (pa_cons (pe_lc (own := [("_law_name", 15), ("_law_entries", 16)]) (g := gTup K 2 (gCons (gName 15) (gCons (gName 16) gNil))) rfl sc__law_right.nd (k_ls (K := K) rfl (pe_meth0 (pv 7) T.cl_Fold T.m_Fold_o_bunches (ok_Fold_o_bunches (P := P) (w := w) (K := K) (base := base) T) (hr.mono (by decide)) T.b_Fold_o_bunches .nil passZ)) (blkOk_by (N := N__law_right) (own := [("_law_name", 15), ("_law_entries", 16)]) (sc := defScope s__law_right) (by first | decide +kernel | kernel_rfl)) (fun _ _ _ _ _ => (k_gtup (K := K) rfl rfl (pgs_cons (pg_name (i := 15) sc__law_right.nd rfl (Or.inl rfl)) (pgs_cons (pg_name (i := 16) sc__law_right.nd rfl (Or.inl rfl)) pgs_nil)))) (fun _ _ _ _ _ => pts_nil) (fun _ _ _ _ _ => (pe_callB (k_len (K := K) rfl) rfl T.z_len bt_len (pa_cons (pv 16) pa_nil)))) pa_nil))) (pss_cons (ps_if (PW.pt (pw_or (pt_cmpR (k_ne (K := K) rfl (hu64 hr)) (pe_meth0 (pv 7) T.cl_Fold T.m_Fold_o_weight (ok_Fold_o_weight (P := P) (w := w) (K := K) (base := base) T) (hr.mono (by decide)) T.b_Fold_o_weight .nil passZ) (pv 10) (nomark _)) (pw_or1 (pt_cmpR (k_ne (K := K) rfl (hu64 hr)) (pe_callB (call_lenO T.fl_Fold T.il_Fold (ok_Fold_o___len__ (P := P) (w := w) (K := K) (base := base) T) (hr.mono (by decide)) T.b_Fold_o___len__ passZ) rfl T.z_len bt_len (pa_cons (pv 7) pa_nil)) (pe_callB (k_len (K := K) rfl) rfl T.z_len bt_len (pa_cons (pe_meth0 (pv 7) T.cl_Fold T.m_Fold_o_bunches (ok_Fold_o_bunches (P := P) (w := w) (K := K) (base := base) T) (hr.mono (by decide)) T.b_Fold_o_bunches .nil passZ) pa_nil)) (nomark _))))) (pss_one (ps_ret pe_bl)) pss_nil) (pss_cons (ps_if (pt_cmpR (k_ne (K := K) rfl (hu64 hr)) (pe_callTy (call_strO T.fs_Fold T.is_Fold (ok_Fold_o___str__ (P := P) (w := w) (K := K) (base := base) T) (hr.mono (by decide)) T.b_Fold_o___str__ passZ) rfl T.z_str bt_str (pa_cons (pv 7) pa_nil)) (pe_op (k_add (K := K) rfl) (pe_op (k_add (K := K) rfl) (pe_op (k_add (K := K) rfl) (pe_callTy call_str_int rfl T.z_str bt_str (pa_cons (pe_callB (k_len (K := K) rfl) rfl T.z_len bt_len (pa_cons (pv 6) pa_nil)) pa_nil)) pe_str) (pe_callTy call_str_int rfl T.z_str bt_str (pa_cons (pe_callB (call_lenO T.fl_Fold T.il_Fold (ok_Fold_o___len__ (P := P) (w := w) (K := K) (base := base) T) (hr.mono (by decide)) T.b_Fold_o___len__ passZ) rfl T.z_len bt_len (pa_cons (pv 7) pa_nil)) pa_nil))) pe_str) (nomark _)) (pss_one (ps_ret pe_bl)) pss_nil) (pss_cons (ps_setLc (i := 11) (own := [("_law_k", 12)]) (g := gName 12) rfl sc__law_right.nd rfl rfl (sw_true rfl rfl rfl (by decide +kernel)) (pi_range1 rfl T.z_range (pa_cons pe_int pa_nil)) (blkOk_by (N := N__law_right) (own := [("_law_k", 12)]) (sc := defScope s__law_right) (by first | decide +kernel | kernel_rfl)) (fun _ _ _ _ _ => (pg_name (i := 12) sc__law_right.nd rfl (Or.inl rfl))) (fun _ _ _ _ _ => pts_nil) (fun _ _ _ _ _ => (pe_callTy (k_tup (K := K) rfl) rfl T.z_tuple bt_tuple (pa_cons (pe_lc (own := [("_law_name", 15)]) (g := gName 15) rfl sc__law_right.nd (k_ls (K := K) rfl (pv 1)) (by first | exact blkOk_by (by decide +kernel) | exact blkOk_by (by kernel_rfl)) (fun _ _ _ _ _ => (pg_name (i := 15) sc__law_right.nd rfl (Or.inl rfl))) (fun _ _ _ _ _ => pts_nil) (fun _ _ _ _ _ => (pe_op (k_add (K := K) rfl) (pv 3) (pe_call (ok__law_draw (P := P) (w := w) (K := K) (base := base) T) (hr.mono (by decide)) rfl T.g__law_draw T.k__law_draw T.b__law_draw .nil passZ (pa_cons (pv 0) (pa_cons pe_int pa_nil)))))) pa_nil)))) (pss_cons (ps_stop (ps_for PassesOwn.never rfl (pi_range1 rfl T.z_range (pa_cons (pe_op op_mulA pe_int (pe_callTy call_intQ rfl T.z_int bt_int (pa_cons (pe_and (pe_cmpR (k_ne (K := K) rfl (hu64 hr)) (pv 6) (pe_lst pa_nil) (nomark _)) (pe_one (pe_cmpR (k_ne (K := K) rfl (hu64 hr)) (pv 1) (pe_lst pa_nil) (nomark _)))) pa_nil))) pa_nil)) (pg_name (i := 12) sc__law_right.nd rfl (Or.inl rfl)) (pss_cons (ps_set (i := 13) sc__law_right.nd rfl (Or.inl rfl) (pe_ix (k_ix (K := K) rfl) (pv 6) (pe_call (ok__law_draw (P := P) (w := w) (K := K) (base := base) T) (hr.mono (by decide)) rfl T.g__law_draw T.k__law_draw T.b__law_draw .nil passZ (pa_cons (pv 0) (pa_cons (pe_callB (k_len (K := K) rfl) rfl T.z_len bt_len (pa_cons (pv 6) pa_nil)) pa_nil))) (fun _ _ => rfl))) (pss_one (ps_set (i := 11) sc__law_right.nd rfl (Or.inl rfl) (pe_op (k_add (K := K) rfl) (pv 11) (pe_lst (pa_cons (pv 13) (pa_cons (pe_call (ok__law_near (P := P) (w := w) (K := K) (base := base) T) (hr.mono (by decide)) rfl T.g__law_near T.k__law_near T.b__law_near .nil passZ (pa_cons (pv 0) (pa_cons (pv 13) (pa_cons (pv 3) pa_nil)))) pa_nil))))))))) (pss_cons (ps_for PassesOwn.never rfl (k_ls (K := K) rfl (pv 11)) (pg_name (i := 13) sc__law_right.nd rfl (Or.inl rfl)) (pss_one (ps_if (PW.pt (pw_or (PW.pt (pw_and (pt_cmpR op_notBl (pe_meth (pv 7) T.cl_Fold T.m_Fold_o_has (ok_Fold_o_has (P := P) (w := w) (K := K) (base := base) T) (hr.mono (by decide)) T.b_Fold_o_has .nil passF (pa_cons (pv 13) pa_nil)) pe_bl (nomark _)) (pw_and1 (pt_cmpR (k_in (K := K) rfl (hu65 hr)) (pv 13) (pv 6) rfl)))) (pw_or1 (PW.pt (pw_and (pt_cmpR op_notBl (pe_meth (pv 7) T.cl_Fold T.m_Fold_o_has (ok_Fold_o_has (P := P) (w := w) (K := K) (base := base) T) (hr.mono (by decide)) T.b_Fold_o_has .nil passF (pa_cons (pv 13) pa_nil)) pe_bl (nomark _)) (pw_and1 (pt_cmpR (k_ni (K := K) rfl (hu65 hr)) (pv 13) (pv 6) rfl))))))) (pss_one (ps_ret pe_bl)) pss_nil))) (pss_cons (ps_if (PW.pt (pw_or (pt_cmpR (op_own_eq T.eq_Fold (ok_Fold_o___eq__ (P := P) (w := w) (K := K) (base := base) T) (hr.mono (by decide)) T.b_Fold_o___eq__ passZ) (pv 7) pe_non (nomark _)) (pw_or (pt_cmpR (op_own_eq T.eq_Fold (ok_Fold_o___eq__ (P := P) (w := w) (K := K) (base := base) T) (hr.mono (by decide)) T.b_Fold_o___eq__ passZ) (pv 7) (pe_meth0 (pv 7) T.cl_Fold T.m_Fold_o_bunches (ok_Fold_o_bunches (P := P) (w := w) (K := K) (base := base) T) (hr.mono (by decide)) T.b_Fold_o_bunches .nil passZ) (nomark _)) (pw_or (pt_cmpR (op_own_eq T.eq_Fold (ok_Fold_o___eq__ (P := P) (w := w) (K := K) (base := base) T) (hr.mono (by decide)) T.b_Fold_o___eq__ passZ) (pv 7) (pv 2) (nomark _)) (pw_or1 (pt_not (pt_cmpR (op_own_ne T.eq_Fold (ok_Fold_o___eq__ (P := P) (w := w) (K := K) (base := base) T) (hr.mono (by decide)) T.b_Fold_o___eq__ passZ) (pv 7) pe_non (nomark _)))))))) (pss_one (ps_ret pe_bl)) pss_nil) (pss_cons (ps_if (pt_cmpR (op_own_ne T.eq_Fold (ok_Fold_o___eq__ (P := P) (w := w) (K := K) (base := base) T) (hr.mono (by decide)) T.b_Fold_o___eq__ passZ) (pv 7) (pe_call (ok_fold_of (P := P) (w := w) (K := K) (base := base) T) (hr.mono (by decide)) rfl T.g_fold_of T.k_fold_of T.b_fold_of .nil passF (pa_cons (pv 2) (pa_cons (pv 4) (pa_cons (pv 5) pa_nil)))) (nomark _)) (pss_one (ps_ret pe_bl)) pss_nil) (pss_cons (ps_set (i := 14) sc__law_right.nd rfl (Or.inl rfl) (pe_lstM (pa_cons (pe_op (k_mulT (K := K) rfl) (pe_tup (pa_cons pe_int pa_nil)) (pe_op (k_add (K := K) rfl) (pe_callB (k_len (K := K) rfl) rfl T.z_len bt_len (pa_cons (pv 1) pa_nil)) pe_int)) (pa_cons (pe_op op_mulA (pe_lst (pa_cons pe_int pa_nil)) (pe_callB (k_len (K := K) rfl) rfl T.z_len bt_len (pa_cons (pv 1) pa_nil))) (pa_cons (pe_op (k_addT (K := K) rfl) (pe_tup (pa_cons pe_bl pa_nil)) (pe_op (k_mulT (K := K) rfl) (pe_tup (pa_cons pe_int pa_nil)) (pe_callB (k_len (K := K) rfl) rfl T.z_len bt_len (pa_cons (pe_slice (k_sl (K := K) rfl) (pv 1) (po_some pe_int) po_none) pa_nil)))) (pa_cons pe_non (pa_cons pe_str (pa_cons pe_int pa_nil)))))))) (pss_cons (ps_stop (ps_if (pt_cmpR (k_eq (K := K) rfl (hu64 hr)) (pv 1) (pe_lst pa_nil) (nomark _)) (pss_one (ps_asg (pe_tup (pa_cons pe_int pa_nil)) (pg_sub (pv 14) pe_int set_list))) pss_nil)) (pss_one (ps_ret (pe_and (pe_call (ok__law_refused (P := P) (w := w) (K := K) (base := base) T) (hr.mono (by decide)) rfl T.g__law_refused T.k__law_refused T.b__law_refused .nil passZ (pa_cons (pv 7) (pa_cons (pe_ix (k_ix (K := K) rfl) (pv 14) (pe_call (ok__law_draw (P := P) (w := w) (K := K) (base := base) T) (hr.mono (by decide)) rfl T.g__law_draw T.k__law_draw T.b__law_draw .nil passZ (pa_cons (pv 0) (pa_cons pe_int pa_nil))) (fun _ _ => rfl)) pa_nil))) (pe_and (pe_call (ok__law_refused (P := P) (w := w) (K := K) (base := base) T) (hr.mono (by decide)) rfl T.g__law_refused T.k__law_refused T.b__law_refused .nil passZ (pa_cons (pv 7) (pa_cons (pe_ix (k_ix (K := K) rfl) (pv 14) pe_int (fun _ _ => rfl)) pa_nil))) (pe_one (pe_cmpR (k_eq (K := K) rfl (hu64 hr)) (pe_call (ok_unfolded (P := P) (w := w) (K := K) (base := base) T) (hr.mono (by decide)) rfl T.g_unfolded T.k_unfolded T.bx1_unfolded.choose_spec.2 T.bx1_unfolded.choose_spec.1 passF (pa_cons (pv 7) pa_nil)) (pv 6) (nomark _)))))))))))))))))))))))), ?_⟩
  obtain ⟨p, rfl, hm, q⟩ := h
  refine ws_start (ρ' := [some _, none, none, none, none, none, none, none, none, none, none, none, none, none, none, none, none]) rfl ?_
  rw [← updM_self hm]
  walk_at "w"
  intro r hr
  refine wr_pickI (.inl rfl) (by omega) (by simpa using hr) fun e he => ?_
  obtain ⟨cnt, rfl, hcnt⟩ : ∃ cnt : Nat, e = .i (cnt : Nat) ∧ cnt ≤ 5 := by
    simp only [List.mem_cons, List.not_mem_nil, or_false] at he
    rcases he with rfl | rfl | rfl | rfl | rfl | rfl
    · exact ⟨3, rfl, by decide⟩
    · exact ⟨4, rfl, by decide⟩
    · exact ⟨2, rfl, by decide⟩
    · exact ⟨5, rfl, by decide⟩
    · exact ⟨1, rfl, by decide⟩
    · exact ⟨0, rfl, by decide⟩
  walk_at "w"
  refine names1 (by omega) (by omega) (by omega) fun qn m5 zs nq hq hm5 hz hzl => ?_
  refine ws_seq (ws_frzL 1 rfl updM_same ?_)
  rw [delM_updM (by rw [updM_ne nq]; exact hq)]
  walk_at "w"
  refine we_treeR xcF ?_
  walk_at "w"
  refine pairs1 (by omega) (by omega) hz fun m2 ps hm2 t hps => ?_
  have hpl : ps.length = cnt := by
    have : ps.length = zs.length := by rw [← hps, DL.names_len]
    omega
  have hol := len_ord t
  have h8 := t.len
  walk_at "w"
  refine ⟨_, ps, rfl, .inl rfl, t, ?_⟩
  walk_at "w"
  refine base1 (by omega) fun bs => ?_
  walk_at "w"
  refine ⟨t, ?_⟩
  walk_at "w"
  refine ⟨p, m2 + 4, DL.opr ps, bs, M, rfl, rfl, by omega, t.opr, fun raw ts n' hraw0 hts0 hn' => ?_⟩
  have hraw := rawOk_opr t hraw0
  have hts : PartR raw (kidsOf ps none) ts := by rw [← kids_opr t]; exact hts0
  have hrl0 := rowsT_le t hraw.h hts
  have hrw0 := rowsT_wide t hraw.h hts
  have hrl : (prodR (ts.map (rowsB raw))).length ≤ 243 := Nat.le_trans hrl0 (Nat.le_trans (Nat.pow_le_pow_right (by decide) (show ps.length ≤ 5 by omega)) (by decide))
  walk_at "w"
  refine ⟨ps, raw, ts, none, rfl, by show ps.length < 9; omega, t, hraw.h, hts, ?_⟩
  generalize hrows : prodR (ts.map (rowsB raw)) = rows at *
  walk_at "w"
  refine ⟨ps, 3, raw, some ts, rfl, t, by omega, hraw, fun l e => by cases e; exact hts, fun fb ft fo hrt heq => ?_⟩
  have hrt' : rowsT fb ft = rows := hrt.trans hrows
  have h64 : ∀ k, k < fb.length → (rowsB fb k).length < 2 ^ 64 := fun k hk => Nat.lt_of_le_of_lt (rows_le8 t fo.hok (by decide) hk) (by decide)
  walk_at "w"
  refine loop_K (β := Mu) [8, 9] (fun Mx => updM Mx p (wl n')) (fun _ _ => True) (b0 := M) trivial (fun i d Mx hi _ => ?_) fun Mx _ => ?_
  · walk_at "u"
    refine ⟨ps, 3, fb, ft, 1000, rfl, t, by omega, fo, h64, by omega, fun _ => told_m fun qt hqt => ?_, fun h => ?_⟩
    rotate_left
    · rw [hrt'] at h
      omega
    rw [hrt']
    walk_at "u"
    have hk : kdM (updM (updM Mx p (wl n')) qt (.lst (rows.map rowD))) (.r qt) = some .list := by
      show (match updM (updM Mx p (wl n')) qt (.lst (rows.map rowD)) qt with | some (.lst _) => some Kd.list | _ => none) = _
      rw [updM_same]
    refine wc_isK .list hk ?_
    walk_at "u"
    refine wr_neLL (.inr ⟨qt, rfl, updM_same⟩) (.inl rfl) goodL_rows (Nat.le_trans depL_rows (by decide)) ?_
    walk_at "u"
    refine ⟨ps, 3, fb, ft, rfl, t, by omega, fo, h64, ?_⟩
    rw [hrt']
    walk_at "u"
    refine wr_neT (d := natD rows.length) rfl (Nat.zero_le _) ?_
    walk_at "u"
    refine ⟨ps, 3, fb, ft, rfl, t, by omega, fo, h64, ?_⟩
    unfold natD
    walk_at "u"
    refine ⟨by dsimp only [wipe2, List.set], updM Mx qt (.lst (rows.map rowD ++ [.i 7])), trivial, updM_comm (Ne.symm (updM_none hqt).1)⟩
  have hfl := fo.len
  walk_at "w"
  refine ⟨fo.len, ⟨_, rfl, ?_⟩⟩
  refine comp_mapT bunD (fun b => DV.i ((b.2.length : Nat) : Int)) fb [] (le_size (by have := fo.len; simp; omega)) (fun b hb F k2 hk2 => ?_) ?_
  · rw [show bunD b = .tup [.s b.1, .lst (b.2.map entD)] from rfl]
    walk_at "w"
    exact hk2
  rw [List.nil_append]
  walk_at "w"
  refine wc_sum (ns := fb.map fun b => ((b.2.length : Nat) : Int)) (.inl (by rw [List.map_map]; rfl)) ?_
  walk_at "w"
  refine ⟨fo.len, ?_⟩
  walk_at "w"
  refine wc_lenO xcF (.inl rfl) ⟨_, fb, ft, rfl, _, rfl, by omega, by omega, ?_⟩
  walk_at "w"
  refine ⟨fo.len, ?_⟩
  walk_at "w"
  refine wc_strO xcF (.inl rfl) ⟨ps, 3, fb, ft, rfl, t, by omega, fo, h64, by rw [hrt']; omega, _, rfl, ?_⟩
  rw [hrt']
  have l1 := txI_len (n := rows.length) (by omega)
  have l2 := txI_len (n := fb.length) (by omega)
  have l3 : (Str.ofString " rows in ").length = 9 := by decide +kernel
  have l4 : (Str.ofString " bunches").length = 8 := by decide +kernel
  walk_at "w"
  refine wc_strI (log_lt (by omega)) ?_
  walk_at "w"
  refine wr_addS (le_size (by omega)) ?_
  walk_at "w"
  refine wc_lenO xcF (.inl rfl) ⟨_, fb, ft, rfl, _, rfl, by omega, by omega, ?_⟩
  walk_at "w"
  refine wc_strI (log_lt (by omega)) ?_
  walk_at "w"
  refine wr_addS (le_size (by rw [len_app]; omega)) ?_
  walk_at "w"
  refine wr_addS (le_size (by rw [len_app, len_app]; omega)) ?_
  refine wr_neS rfl ?_
  rw [decide_eq_true (show V.str (foldTxt rows.length fb.length) = V.str (txI rows.length ++ Str.ofString " rows in " ++ txI fb.length ++ Str.ofString " bunches") from rfl)]
  walk_at "w"
  refine comp_W (α := List Int) rowD (fun _ r => r.length = ps.length) 8 (by omega) (fun i F hi => ?_) fun some4 m8 hsl hsw hm8 => ?_
  · walk_at "w"
    refine comp_S (α := Int) (fun n => updM Mx p (wl n)) wl_le DV.i (fun _ _ => True) 1 (by simp; omega) (fun j d F' hj hjl => ?_) fun xs m hl _ hm => ?_
    · obtain ⟨z, _, rfl⟩ := map_getS hj
      rw [List.length_map] at hjl
      have hi2 : i < 4 := hi
      walk_at "w"
      intro r hr
      walk_at "w"
      exact ⟨bs + r, _, rfl, trivial, Nat.le_refl _, rfl⟩
    · rw [List.length_map] at hl hm
      walk_at "w"
      exact ⟨xs, m, rfl, by omega, by omega, rfl⟩
  walk_at "w"
  refine ws_stop (ws_for (wi_rangeI ?_))
  refine wa_cons (we_op (we_c ?_))
  refine we_cb (wa_cons ?_)
  refine DL.WE.imp (Q2 := fun d M' => ∃ b : Bool, d = .b b ∧ M' = updM Mx p (wl m8) ∧ (b = true → rows ≠ [] ∧ zs ≠ [])) ?_ ?_
  · walk_at "w"
    refine wr_neB (d := .lst (rows.map rowD)) (e := .lst []) (.inl rfl) (.inl rfl) (pln_rowsD _) rfl (Nat.succ_le_succ (Nat.le_trans depL_rows (by decide))) (by decide) fun b hb => ?_
    walk_at "w"
    refine if_b (fun e => ?_) fun e => ?_
    · walk_at "w"
      refine wr_neB (d := .lst (zs.map DV.s)) (e := .lst []) (.inl rfl) (.inl rfl) (plnL_strs fun z hz' => hz.ok z hz') rfl (by show depL _ + 1 ≤ 64; rw [depL_strs]; decide) (by decide) fun b2 hb2 => ?_
      refine ⟨b2, rfl, rfl, fun h2 => ⟨fun h3 => ?_, fun h3 => ?_⟩⟩
      · exact hb.mp e (by rw [h3]; rfl)
      · exact hb2.mp h2 (by rw [h3]; rfl)
    · exact ⟨false, rfl, rfl, fun h => by cases h⟩
  rintro d M' ⟨b, rfl, rfl, hb⟩
  walk_at "w"
  refine loop_V (β := List (List Int)) [12, 13, 14, 15, 16] (fun sm => [some (.r p), some (.lst (zs.map DV.s)), some (treeD a.c_Tree ps), some (.i bs), some (.lst (raw.map bunD)), some (natsD ts), some (.lst (rows.map rowD)), some (foldD a.c_Fold (treeD a.c_Tree ps) fb ft), none, none, some (.i (fb.map fun b => ((b.2.length : Nat) : Int)).sum), some (.lst (sm.map rowD)), none, none, none, none, none]) (fun m sm => updM Mx p (wl m)) (fun i sm => sm.length ≤ 4 + 2 * i ∧ ∀ r ∈ sm, r.length = ps.length) 3 (n := m8) (b0 := some4) ⟨by omega, fun r hr => by obtain ⟨i, hi⟩ := List.getElem?_of_mem hr; exact hsw i r hi⟩ rfl (fun i dd m sm hi hmm hI => ?_) fun m sm hmm hI => ?_
  · obtain ⟨hs1, hs2⟩ := hI
    have hbt : b = true ∧ i < 6 := by
      have h1 := get_lt hi
      rw [rangeD_len] at h1
      cases b with
      | true => exact ⟨rfl, by simpa using h1⟩
      | false => simp at h1
    obtain ⟨hr0, hz0⟩ := hb hbt.1
    have hi6 := hbt.2
    have hrpos : 0 < rows.length := List.length_pos_iff.mpr hr0
    have hzpos : 0 < zs.length := List.length_pos_iff.mpr hz0
    walk_at "w"
    intro r hr
    refine wr_atM (f := rowD) (.inl rfl) (by omega) fun line hline => ?_
    have hlw := hrw0 line (List.mem_of_getElem? hline)
    walk_at "w"
    refine ⟨p, m + 1, line, bs, Mx, rfl, rfl, by omega, by omega, by omega, fun r' hr' => ?_⟩
    walk_at "w"
    refine wr_addM2 (f := rowD) (by omega) ?_
    refine ⟨m + 1 + 2, sm ++ [line, r'], by dsimp only [wipe2, List.set], by omega, ⟨by simp; omega, fun x hx => ?_⟩, rfl⟩
    rcases List.mem_append.mp hx with hx | hx
    · exact hs2 x hx
    · simp only [List.mem_cons, List.not_mem_nil, or_false] at hx
      rcases hx with rfl | rfl
      · exact hlw
      · exact hr'.trans hlw
  obtain ⟨hs1, hs2⟩ := hI
  have hm3 : m ≤ m8 + 18 := by
    rw [rangeD_len] at hmm
    cases b <;> simp at hmm <;> omega
  have hs3 : sm.length ≤ 16 := by
    rw [rangeD_len] at hs1
    cases b <;> simp at hs1 <;> omega
  walk_at "w"
  refine loop_KF [13] (fun _ => True) trivial (fun i d hi _ => ?_) fun _ => ?_
  · obtain ⟨line, hline, rfl⟩ := mapD_get hi
    have hlw := hs2 line (List.mem_of_getElem? hline)
    walk_at "w"
    refine has_ok t fo hlw ?_
    rw [hrt']
    walk_at "w"
    refine wr_notBl ?_
    have d1 : (rowD line).dep ≤ 64 := by show depL _ + 1 ≤ 64; rw [depL_int]; decide
    have d2 : depL (rows.map rowD) ≤ 63 := Nat.le_trans depL_rows (by decide)
    by_cases hin : line ∈ rows
    · rw [decide_eq_true hin]
      walk_at "w"
      refine has_ok t fo hlw ?_
      rw [hrt', decide_eq_true hin]
      walk_at "w"
      refine wr_notBl ?_
      walk_at "w"
      refine wr_niB (d := rowD line) (.inl rfl) (.inl rfl) (pln_int _) (pln_rowsD _) d1 d2 fun b2 hb2 => ?_
      obtain rfl : b2 = false := by
        cases b2 with
        | false => rfl
        | true => exact absurd (row_mem.mpr hin) (hb2.mp rfl)
      walk_at "w"
      exact ⟨by dsimp only [wipe2, List.set], rfl, trivial⟩
    · rw [decide_eq_false hin]
      walk_at "w"
      refine wr_inB (d := rowD line) (.inl rfl) (.inl rfl) (pln_int _) (pln_rowsD _) d1 d2 fun b2 hb2 => ?_
      obtain rfl : b2 = false := by
        cases b2 with
        | false => rfl
        | true => exact absurd (row_mem.mp (hb2.mp rfl)) hin
      walk_at "w"
      refine has_ok t fo hlw ?_
      rw [hrt', decide_eq_false hin]
      walk_at "w"
      refine wr_notBl ?_
      walk_at "w"
      exact ⟨by dsimp only [wipe2, List.set], rfl, trivial⟩
  walk_at "w"
  refine wr_own xcF (.inl rfl) (tyD_kd (k := .none) rfl) T.nf_Fold_NoneType ⟨_, _, _, _, rfl, .inr (.inl ⟨.none, rfl, _, rfl, ?_⟩)⟩
  walk_at "w"
  refine ⟨fo.len, ?_⟩
  walk_at "w"
  refine wr_own xcF (.inl rfl) (tyD_kd (k := .list) rfl) T.nf_Fold_list ⟨_, _, _, _, rfl, .inr (.inl ⟨.list, rfl, _, rfl, ?_⟩)⟩
  walk_at "w"
  refine wr_own xcF (.inl rfl) (tyD_obj T.eq_Tree (.inl rfl)) T.nf_Fold_Tree ⟨_, _, _, _, rfl, .inr (.inr ⟨_, rfl, _, rfl, ?_⟩)⟩
  walk_at "w"
  refine wr_own xcF (.inl rfl) (tyD_kd (k := .none) rfl) T.nf_Fold_NoneType ⟨_, _, _, _, rfl, .inr (.inl ⟨.none, rfl, _, rfl, ?_⟩)⟩
  walk_at "w"
  refine ⟨ps, 3, raw, some ts, rfl, t, by omega, hraw, fun l e => by cases e; exact hts, fun fb' ft' fo' hrt2 heq2 => ?_⟩
  obtain ⟨e1, e2⟩ := Prod.mk.inj (heq.trans heq2.symm)
  subst e1 e2
  refine wr_own xcF (.inl rfl) (tyD_obj T.eq_Fold (.inl rfl)) T.nf_Fold_Fold ⟨_, _, _, _, rfl, .inl ⟨ps, 3, 3, fb, ft, rfl, t, t, fo.hok, fo.hok, _, rfl, ?_⟩⟩
  rw [decide_eq_true (show Teq ps ps ∧ fb = fb ∧ ft = ft from ⟨⟨rfl, fun _ _ => rfl⟩, rfl, rfl⟩)]
  have hzp : zs.length = ps.length := by omega
  walk_at "w"
  refine wr_tupMul (by omega) (by omega) ?_
  walk_at "w"
  refine wr_mulL (.inl rfl) (by omega) (by omega) (le_size (by simp; omega)) ?_
  walk_at "w"
  refine wr_tupMul (by omega) (by simp; omega) ?_
  walk_at "w"
  refine wr_tupAdd (by simp; omega) ?_
  walk_at "w"
  intro qo hqo
  obtain ⟨nqo, hqo0⟩ := updM_none hqo
  refine ws_seq (ws_stopC (fun ρ' M' => ρ' = [some (.r p), some (.lst (zs.map DV.s)), some (treeD a.c_Tree ps), some (.i bs), some (.lst (raw.map bunD)), some (natsD ts), some (.lst (rows.map rowD)), some (foldD a.c_Fold (treeD a.c_Tree ps) fb ft), none, none, some (.i (fb.map fun b => ((b.2.length : Nat) : Int)).sum), some (.lst (sm.map rowD)), none, none, some (.r qo), none, none] ∧ ∃ o1 o2 o3, M' = updM (updM Mx p (wl m)) qo (.lst [o1, o2, o3, .n, .s "row", .i 7]) ∧ Odd ps.length o1 ∧ Odd ps.length o2 ∧ Odd ps.length o3) ?_ ?_)
  · have O2 : ∀ ds : List DV, Odd ps.length (.lst ds) := fun ds => ⟨fun M => ⟨Kn.lst, fun es e => by cases e⟩, rfl⟩
    walk_at "w"
    refine wr_eqB (d := .lst (zs.map DV.s)) (e := .lst []) (.inl rfl) (.inl rfl) (plnL_strs fun z hz' => hz.ok z hz') rfl (by show depL _ + 1 ≤ 64; rw [depL_strs]; decide) (by decide) fun b2 hb2 => ?_
    walk_at "w"
    refine if_b (fun e => ?_) fun e => ?_
    · have hz0 : zs = [] := List.map_eq_nil_iff.mp (by have := hb2.mp e; injection this)
      have hp0 : ps.length = 0 := by rw [← hzp, hz0]; rfl
      walk_at "w"
      refine wset_list (j := 2) updM_same (by rfl) ?_
      rw [updM_upd]
      refine ⟨rfl, _, _, _, rfl, odd_1 (by omega) (by omega), O2 _, ?_⟩
      exact odd_1 (k := 1) (by decide) (by omega)
    · refine ws_next ⟨rfl, _, _, _, rfl, odd_1 (by omega) (by omega), O2 _, odd_b (by simp; omega)⟩
  rintro ρ' M' ⟨rfl, o1, o2, o3, rfl, h1, h2, h3⟩
  walk_at "w"
  intro r hr
  refine wr_pickI (.inr ⟨qo, rfl, updM_same⟩) (by omega) (by simpa using hr) fun od hod => ?_
  have hod' : Odd ps.length od := by
    simp only [List.mem_cons, List.not_mem_nil, or_false] at hod
    rcases hod with rfl | rfl | rfl | rfl | rfl | rfl
    · exact h1
    · exact h2
    · exact h3
    · exact ⟨fun M => ⟨Kn.n, fun es e => by cases e⟩, rfl⟩
    · exact ⟨fun M => ⟨Kn.s (by decide +kernel), fun es e => by cases e⟩, rfl⟩
    · exact ⟨fun M => ⟨Kn.i, fun es e => by cases e⟩, rfl⟩
  clear hod
  walk_at "w"
  refine ⟨ps, 3, fb, ft, od, rfl, t, by omega, fo, hod'.1 _, hod'.2, ?_⟩
  walk_at "w"
  refine ⟨ps, 3, fb, ft, o1, rfl, t, by omega, fo, h1.1 _, h1.2, ?_⟩
  walk_at "w"
  refine ⟨ps, 3, fb, ft, 1000, rfl, t, by omega, fo, h64, by omega, fun _ => told_f ?_, fun h => ?_⟩
  rotate_left
  · rw [hrt'] at h
    omega
  rw [hrt']
  walk_at "w"
  exact q _
theorem ok_law (T : Tx K mg a) : FnOk P w K mg base CX0 90 a.f_law a.d_law ["_law_script"] (spL K) := by
  refine okLaw (k := 89) T.F_law sc_law fun cdv A outer s H E s0 ns hr hS hl => ⟨_, (pss_cons (ps_for PassesOwn.never rfl (k_enum (K := K) rfl rfl T.z_enumerate (pa_cons (pe_op (k_add (K := K) rfl) (pe_lst (pa_cons pe_int pa_nil)) (pe_slice (k_sl (K := K) rfl) (pv 0) po_none (po_some pe_int))) pa_nil)) (k_gtup (K := K) rfl rfl (pgs_cons (pg_name (i := 1) sc_law.nd rfl (Or.inl rfl)) (pgs_cons (pg_name (i := 2) sc_law.nd rfl (Or.inl rfl)) pgs_nil))) (pss_one (ps_if (pt_not (pt_val (pe_call (ok__law_right (P := P) (w := w) (K := K) (base := base) T) (hr.mono (by decide)) rfl T.g__law_right T.k__law_right T.b__law_right .nil passZ (pa_cons (pe_call (ok__law_well (P := P) (w := w) (K := K) (base := base) T) (hr.mono (by decide)) rfl T.g__law_well T.k__law_well T.b__law_well .nil passZ (pa_cons (pv 2) (pa_cons (pv 1) pa_nil))) pa_nil)))) (pss_one (ps_ret pe_bl)) pss_nil))) (pss_one (ps_ret (pe_and (pe_cmpR (k_eq (K := K) rfl (hu64 hr)) (pe_callTy (call_strO T.fs_Fold T.is_Fold (ok_Fold_o___str__ (P := P) (w := w) (K := K) (base := base) T) (hr.mono (by decide)) T.b_Fold_o___str__ passZ) rfl T.z_str bt_str (pa_cons (pe_call (ok_fold_of (P := P) (w := w) (K := K) (base := base) T) (hr.mono (by decide)) rfl T.g_fold_of T.k_fold_of T.b_fold_of .nil passF (pa_cons (pe_make T.mk_Tree (ok_Tree_o___init__ (P := P) (w := w) (K := K) (base := base) T) (hr.mono (by decide)) rfl T.gc_Tree T.b_Tree_o___init__ .nil passF (pa_cons (pe_lst pa_nil) pa_nil)) (pa_cons (pe_lst pa_nil) (pa_cons (pe_tup pa_nil) pa_nil)))) pa_nil)) pe_str (nomark _)) (pe_one (pe_cmpR (k_eq (K := K) rfl (hu64 hr)) (pe_meth0 (pe_call (ok_fold_of (P := P) (w := w) (K := K) (base := base) T) (hr.mono (by decide)) rfl T.g_fold_of T.k_fold_of T.b_fold_of .nil passF (pa_cons (pe_make T.mk_Tree (ok_Tree_o___init__ (P := P) (w := w) (K := K) (base := base) T) (hr.mono (by decide)) rfl T.gc_Tree T.b_Tree_o___init__ .nil passF (pa_cons (pe_lst pa_nil) pa_nil)) (pa_cons (pe_lst pa_nil) (pa_cons pe_non pa_nil)))) T.cl_Fold T.m_Fold_o_count (ok_Fold_o_count (P := P) (w := w) (K := K) (base := base) T) (hr.mono (by decide)) T.b_Fold_o_count .nil passZ) pe_int (nomark _))))))), ?_⟩
  refine ws_start (ρ' := [some _, none, none]) rfl ?_
  walk_at "w"
  refine wl_scr 5 hS fun cs hcs => ?_
  refine wr_addLn (by simp; omega) ?_
  walk_at "w"
  refine loop_K [1, 2] (fun M : Mu => M) (fun _ _ => True) trivial (fun i d M1 hi _ => ?_) fun M1 _ => ?_
  · obtain ⟨e, he, rfl⟩ := enumD_get hi
    obtain ⟨c, rfl⟩ : ∃ c : Int, e = .i c := by
      have := List.mem_of_getElem? he
      rw [List.mem_append, List.mem_singleton, List.mem_map] at this
      rcases this with rfl | ⟨c, _, rfl⟩ <;> exact ⟨_, rfl⟩
    walk_at "w"
    intro p hp
    walk_at "w"
    refine ⟨updM_same, fun M' => ?_⟩
    walk_at "w"
    exact ⟨by dsimp only [wipe2, List.set], _, trivial, rfl⟩
  walk_at "w"
  refine we_treeR xcF ?_
  walk_at "w"
  refine ⟨_, [], rfl, .inl rfl, Tr.nil, ?_⟩
  walk_at "w"
  refine ⟨[], 3, [], some [], rfl, Tr.nil, by omega, ⟨by decide, fun b hb => by cases hb⟩, fun l e => by cases e; rfl, fun fb ft fo hrt heq => ?_⟩
  obtain ⟨rfl, rfl⟩ := Prod.mk.inj (heq.trans (show foldT [] [] (some []) = ([], some []) from rfl))
  walk_at "w"
  refine wc_strO xcF (.inl rfl) ⟨[], 3, [], some [], rfl, Tr.nil, by omega, fo, fun k hk => absurd hk (Nat.not_lt_zero _), by decide, _, rfl, ?_⟩
  walk_at "w"
  refine we_treeR xcF ?_
  walk_at "w"
  refine ⟨_, [], rfl, .inl rfl, Tr.nil, ?_⟩
  walk_at "w"
  refine ⟨[], 3, [], none, rfl, Tr.nil, by omega, ⟨by decide, fun b hb => by cases hb⟩, fun l e => (by cases e), fun fb ft fo2 hrt heq => ?_⟩
  obtain ⟨rfl, rfl⟩ := Prod.mk.inj (heq.trans (show foldT [] [] none = ([], none) from rfl))
  refine ⟨⟨_, _, .inl rfl, rfl⟩, ?_⟩
  walk_at "w"
  refine ⟨[], 3, [], none, rfl, Tr.nil, by omega, fo2, fun k hk => absurd hk (Nat.not_lt_zero _), ?_⟩
  walk_at "w"
  exact wr_eqT (d := .i 0) rfl (by decide) rfl
end
theorem all_mk {l : PySem.W.OpenLaw} {w : World} {K : PySem.W.Frag} {h : Heap} {mg : Str → Option Value} {fa c_FoldError c_NoColumns c_NoRow c_NoTree c_NoColumn c_NoFold c_TooMany c_Fold c_Pool c_Tree f_is_name f_is_value f_is_row f_want_row f_product_at f_by_columns f_counts_of f_parts_at f_holds f_visit f_moved f_is_part f_is_bunch f_fold_of f_at_places f_rows_at f_rows_of_parts f_unfolded f_is_pair f_order_from f__law_well f__law_draw f__law_names f__law_base f__law_pairs f__law_order f__law_bunch f__law_raw f__law_shuffled f__law_rows_of f__law_refused f__law_near f__law_right f_law f_NoRow_o___init__ f_NoTree_o___init__ f_NoColumn_o___init__ f_NoFold_o___init__ f_TooMany_o___init__ f_Fold_o___init__ f_Fold_o___len__ f_Fold_o___eq__ f_Fold_o___str__ f_Fold_o_bunches f_Fold_o_tops f_Fold_o_count f_Fold_o_weight f_Fold_o_has f_Pool_o___init__ f_Pool_o_put f_Pool_o_fold f_Tree_o___init__ f_Tree_o___len__ f_Tree_o___eq__ f_Tree_o_want f_Tree_o_columns f_Tree_o_pairs f_Tree_o_over f_Tree_o_above f_Tree_o_beneath f_Tree_o_children : Addr} (X : K.In h) (G : h.Ns mainGlobals mg) (hfa : mg "law" = some (.ref fa))
    {oc_is_name kV_is_name dc_is_name pm_is_name cd_is_name ct_is_name : Value} {od_is_name an_is_name : Option Addr} {sl_is_name : Array (Option Value)}
    {oc_is_value kV_is_value dc_is_value pm_is_value cd_is_value ct_is_value : Value} {od_is_value an_is_value : Option Addr} {sl_is_value : Array (Option Value)}
    {oc_is_row kV_is_row dc_is_row pm_is_row cd_is_row ct_is_row : Value} {od_is_row an_is_row : Option Addr} {sl_is_row : Array (Option Value)}
    {oc_want_row kV_want_row dc_want_row pm_want_row cd_want_row ct_want_row : Value} {od_want_row an_want_row : Option Addr} {sl_want_row : Array (Option Value)}
    {dT_want_row : Addr} {o2_want_row : Value} {od2_want_row : Option Addr} {n2_want_row : Nat} {sl2_want_row : Array (Option Value)} {tk0_want_row : Tok}
    {oc_product_at kV_product_at dc_product_at pm_product_at cd_product_at ct_product_at : Value} {od_product_at an_product_at : Option Addr} {sl_product_at : Array (Option Value)}
    {oc_by_columns kV_by_columns dc_by_columns pm_by_columns cd_by_columns ct_by_columns : Value} {od_by_columns an_by_columns : Option Addr} {sl_by_columns : Array (Option Value)}
    {oc_counts_of kV_counts_of dc_counts_of pm_counts_of cd_counts_of ct_counts_of : Value} {od_counts_of an_counts_of : Option Addr} {sl_counts_of : Array (Option Value)}
    {oc_parts_at kV_parts_at dc_parts_at pm_parts_at cd_parts_at ct_parts_at : Value} {od_parts_at an_parts_at : Option Addr} {sl_parts_at : Array (Option Value)}
    {oc_holds kV_holds dc_holds pm_holds cd_holds ct_holds : Value} {od_holds an_holds : Option Addr} {sl_holds : Array (Option Value)}
    {oc_visit kV_visit dc_visit pm_visit cd_visit ct_visit : Value} {od_visit an_visit : Option Addr} {sl_visit : Array (Option Value)}
    {oc_moved kV_moved dc_moved pm_moved cd_moved ct_moved : Value} {od_moved an_moved : Option Addr} {sl_moved : Array (Option Value)}
    {oc_is_part kV_is_part dc_is_part pm_is_part cd_is_part ct_is_part : Value} {od_is_part an_is_part : Option Addr} {sl_is_part : Array (Option Value)}
    {oc_is_bunch kV_is_bunch dc_is_bunch pm_is_bunch cd_is_bunch ct_is_bunch : Value} {od_is_bunch an_is_bunch : Option Addr} {sl_is_bunch : Array (Option Value)}
    {oc_fold_of kV_fold_of dc_fold_of pm_fold_of cd_fold_of ct_fold_of : Value} {od_fold_of an_fold_of : Option Addr} {sl_fold_of : Array (Option Value)}
    {oc_at_places kV_at_places dc_at_places pm_at_places cd_at_places ct_at_places : Value} {od_at_places an_at_places : Option Addr} {sl_at_places : Array (Option Value)}
    {oc_rows_at kV_rows_at dc_rows_at pm_rows_at cd_rows_at ct_rows_at : Value} {od_rows_at an_rows_at : Option Addr} {sl_rows_at : Array (Option Value)}
    {oc_rows_of_parts kV_rows_of_parts dc_rows_of_parts pm_rows_of_parts cd_rows_of_parts ct_rows_of_parts : Value} {od_rows_of_parts an_rows_of_parts : Option Addr} {sl_rows_of_parts : Array (Option Value)}
    {oc_unfolded kV_unfolded dc_unfolded pm_unfolded cd_unfolded ct_unfolded : Value} {od_unfolded an_unfolded : Option Addr} {sl_unfolded : Array (Option Value)}
    {dT_unfolded : Addr} {o2_unfolded : Value} {od2_unfolded : Option Addr} {n2_unfolded : Nat} {sl2_unfolded : Array (Option Value)} {tk0_unfolded : Tok}
    {oc_is_pair kV_is_pair dc_is_pair pm_is_pair cd_is_pair ct_is_pair : Value} {od_is_pair an_is_pair : Option Addr} {sl_is_pair : Array (Option Value)}
    {oc_order_from kV_order_from dc_order_from pm_order_from cd_order_from ct_order_from : Value} {od_order_from an_order_from : Option Addr} {sl_order_from : Array (Option Value)}
    {oc__law_well kV__law_well dc__law_well pm__law_well cd__law_well ct__law_well : Value} {od__law_well an__law_well : Option Addr} {sl__law_well : Array (Option Value)}
    {oc__law_draw kV__law_draw dc__law_draw pm__law_draw cd__law_draw ct__law_draw : Value} {od__law_draw an__law_draw : Option Addr} {sl__law_draw : Array (Option Value)}
    {oc__law_names kV__law_names dc__law_names pm__law_names cd__law_names ct__law_names : Value} {od__law_names an__law_names : Option Addr} {sl__law_names : Array (Option Value)}
    {oc__law_base kV__law_base dc__law_base pm__law_base cd__law_base ct__law_base : Value} {od__law_base an__law_base : Option Addr} {sl__law_base : Array (Option Value)}
    {oc__law_pairs kV__law_pairs dc__law_pairs pm__law_pairs cd__law_pairs ct__law_pairs : Value} {od__law_pairs an__law_pairs : Option Addr} {sl__law_pairs : Array (Option Value)}
    {oc__law_order kV__law_order dc__law_order pm__law_order cd__law_order ct__law_order : Value} {od__law_order an__law_order : Option Addr} {sl__law_order : Array (Option Value)}
    {oc__law_bunch kV__law_bunch dc__law_bunch pm__law_bunch cd__law_bunch ct__law_bunch : Value} {od__law_bunch an__law_bunch : Option Addr} {sl__law_bunch : Array (Option Value)}
    {oc__law_raw kV__law_raw dc__law_raw pm__law_raw cd__law_raw ct__law_raw : Value} {od__law_raw an__law_raw : Option Addr} {sl__law_raw : Array (Option Value)}
    {oc__law_shuffled kV__law_shuffled dc__law_shuffled pm__law_shuffled cd__law_shuffled ct__law_shuffled : Value} {od__law_shuffled an__law_shuffled : Option Addr} {sl__law_shuffled : Array (Option Value)}
    {oc__law_rows_of kV__law_rows_of dc__law_rows_of pm__law_rows_of cd__law_rows_of ct__law_rows_of : Value} {od__law_rows_of an__law_rows_of : Option Addr} {sl__law_rows_of : Array (Option Value)}
    {oc__law_refused kV__law_refused dc__law_refused pm__law_refused cd__law_refused ct__law_refused : Value} {od__law_refused an__law_refused : Option Addr} {sl__law_refused : Array (Option Value)}
    {oc__law_near kV__law_near dc__law_near pm__law_near cd__law_near ct__law_near : Value} {od__law_near an__law_near : Option Addr} {sl__law_near : Array (Option Value)}
    {oc__law_right kV__law_right dc__law_right pm__law_right cd__law_right ct__law_right : Value} {od__law_right an__law_right : Option Addr} {sl__law_right : Array (Option Value)}
    {oc_law kV_law dc_law pm_law cd_law ct_law : Value} {od_law an_law : Option Addr} {sl_law : Array (Option Value)}
    {oc_NoRow_o___init__ kV_NoRow_o___init__ dc_NoRow_o___init__ pm_NoRow_o___init__ cd_NoRow_o___init__ ct_NoRow_o___init__ : Value} {od_NoRow_o___init__ an_NoRow_o___init__ : Option Addr} {sl_NoRow_o___init__ : Array (Option Value)}
    {oc_NoTree_o___init__ kV_NoTree_o___init__ dc_NoTree_o___init__ pm_NoTree_o___init__ cd_NoTree_o___init__ ct_NoTree_o___init__ : Value} {od_NoTree_o___init__ an_NoTree_o___init__ : Option Addr} {sl_NoTree_o___init__ : Array (Option Value)}
    {oc_NoColumn_o___init__ kV_NoColumn_o___init__ dc_NoColumn_o___init__ pm_NoColumn_o___init__ cd_NoColumn_o___init__ ct_NoColumn_o___init__ : Value} {od_NoColumn_o___init__ an_NoColumn_o___init__ : Option Addr} {sl_NoColumn_o___init__ : Array (Option Value)}
    {oc_NoFold_o___init__ kV_NoFold_o___init__ dc_NoFold_o___init__ pm_NoFold_o___init__ cd_NoFold_o___init__ ct_NoFold_o___init__ : Value} {od_NoFold_o___init__ an_NoFold_o___init__ : Option Addr} {sl_NoFold_o___init__ : Array (Option Value)}
    {oc_TooMany_o___init__ kV_TooMany_o___init__ dc_TooMany_o___init__ pm_TooMany_o___init__ cd_TooMany_o___init__ ct_TooMany_o___init__ : Value} {od_TooMany_o___init__ an_TooMany_o___init__ : Option Addr} {sl_TooMany_o___init__ : Array (Option Value)}
    {oc_Fold_o___init__ kV_Fold_o___init__ dc_Fold_o___init__ pm_Fold_o___init__ cd_Fold_o___init__ ct_Fold_o___init__ : Value} {od_Fold_o___init__ an_Fold_o___init__ : Option Addr} {sl_Fold_o___init__ : Array (Option Value)}
    {oc_Fold_o___len__ kV_Fold_o___len__ dc_Fold_o___len__ pm_Fold_o___len__ cd_Fold_o___len__ ct_Fold_o___len__ : Value} {od_Fold_o___len__ an_Fold_o___len__ : Option Addr} {sl_Fold_o___len__ : Array (Option Value)}
    {oc_Fold_o___eq__ kV_Fold_o___eq__ dc_Fold_o___eq__ pm_Fold_o___eq__ cd_Fold_o___eq__ ct_Fold_o___eq__ : Value} {od_Fold_o___eq__ an_Fold_o___eq__ : Option Addr} {sl_Fold_o___eq__ : Array (Option Value)}
    {oc_Fold_o___str__ kV_Fold_o___str__ dc_Fold_o___str__ pm_Fold_o___str__ cd_Fold_o___str__ ct_Fold_o___str__ : Value} {od_Fold_o___str__ an_Fold_o___str__ : Option Addr} {sl_Fold_o___str__ : Array (Option Value)}
    {oc_Fold_o_bunches kV_Fold_o_bunches dc_Fold_o_bunches pm_Fold_o_bunches cd_Fold_o_bunches ct_Fold_o_bunches : Value} {od_Fold_o_bunches an_Fold_o_bunches : Option Addr} {sl_Fold_o_bunches : Array (Option Value)}
    {oc_Fold_o_tops kV_Fold_o_tops dc_Fold_o_tops pm_Fold_o_tops cd_Fold_o_tops ct_Fold_o_tops : Value} {od_Fold_o_tops an_Fold_o_tops : Option Addr} {sl_Fold_o_tops : Array (Option Value)}
    {oc_Fold_o_count kV_Fold_o_count dc_Fold_o_count pm_Fold_o_count cd_Fold_o_count ct_Fold_o_count : Value} {od_Fold_o_count an_Fold_o_count : Option Addr} {sl_Fold_o_count : Array (Option Value)}
    {oc_Fold_o_weight kV_Fold_o_weight dc_Fold_o_weight pm_Fold_o_weight cd_Fold_o_weight ct_Fold_o_weight : Value} {od_Fold_o_weight an_Fold_o_weight : Option Addr} {sl_Fold_o_weight : Array (Option Value)}
    {oc_Fold_o_has kV_Fold_o_has dc_Fold_o_has pm_Fold_o_has cd_Fold_o_has ct_Fold_o_has : Value} {od_Fold_o_has an_Fold_o_has : Option Addr} {sl_Fold_o_has : Array (Option Value)}
    {oc_Pool_o___init__ kV_Pool_o___init__ dc_Pool_o___init__ pm_Pool_o___init__ cd_Pool_o___init__ ct_Pool_o___init__ : Value} {od_Pool_o___init__ an_Pool_o___init__ : Option Addr} {sl_Pool_o___init__ : Array (Option Value)}
    {oc_Pool_o_put kV_Pool_o_put dc_Pool_o_put pm_Pool_o_put cd_Pool_o_put ct_Pool_o_put : Value} {od_Pool_o_put an_Pool_o_put : Option Addr} {sl_Pool_o_put : Array (Option Value)}
    {oc_Pool_o_fold kV_Pool_o_fold dc_Pool_o_fold pm_Pool_o_fold cd_Pool_o_fold ct_Pool_o_fold : Value} {od_Pool_o_fold an_Pool_o_fold : Option Addr} {sl_Pool_o_fold : Array (Option Value)}
    {oc_Tree_o___init__ kV_Tree_o___init__ dc_Tree_o___init__ pm_Tree_o___init__ cd_Tree_o___init__ ct_Tree_o___init__ : Value} {od_Tree_o___init__ an_Tree_o___init__ : Option Addr} {sl_Tree_o___init__ : Array (Option Value)}
    {oc_Tree_o___len__ kV_Tree_o___len__ dc_Tree_o___len__ pm_Tree_o___len__ cd_Tree_o___len__ ct_Tree_o___len__ : Value} {od_Tree_o___len__ an_Tree_o___len__ : Option Addr} {sl_Tree_o___len__ : Array (Option Value)}
    {oc_Tree_o___eq__ kV_Tree_o___eq__ dc_Tree_o___eq__ pm_Tree_o___eq__ cd_Tree_o___eq__ ct_Tree_o___eq__ : Value} {od_Tree_o___eq__ an_Tree_o___eq__ : Option Addr} {sl_Tree_o___eq__ : Array (Option Value)}
    {oc_Tree_o_want kV_Tree_o_want dc_Tree_o_want pm_Tree_o_want cd_Tree_o_want ct_Tree_o_want : Value} {od_Tree_o_want an_Tree_o_want : Option Addr} {sl_Tree_o_want : Array (Option Value)}
    {oc_Tree_o_columns kV_Tree_o_columns dc_Tree_o_columns pm_Tree_o_columns cd_Tree_o_columns ct_Tree_o_columns : Value} {od_Tree_o_columns an_Tree_o_columns : Option Addr} {sl_Tree_o_columns : Array (Option Value)}
    {oc_Tree_o_pairs kV_Tree_o_pairs dc_Tree_o_pairs pm_Tree_o_pairs cd_Tree_o_pairs ct_Tree_o_pairs : Value} {od_Tree_o_pairs an_Tree_o_pairs : Option Addr} {sl_Tree_o_pairs : Array (Option Value)}
    {oc_Tree_o_over kV_Tree_o_over dc_Tree_o_over pm_Tree_o_over cd_Tree_o_over ct_Tree_o_over : Value} {od_Tree_o_over an_Tree_o_over : Option Addr} {sl_Tree_o_over : Array (Option Value)}
    {oc_Tree_o_above kV_Tree_o_above dc_Tree_o_above pm_Tree_o_above cd_Tree_o_above ct_Tree_o_above : Value} {od_Tree_o_above an_Tree_o_above : Option Addr} {sl_Tree_o_above : Array (Option Value)}
    {oc_Tree_o_beneath kV_Tree_o_beneath dc_Tree_o_beneath pm_Tree_o_beneath cd_Tree_o_beneath ct_Tree_o_beneath : Value} {od_Tree_o_beneath an_Tree_o_beneath : Option Addr} {sl_Tree_o_beneath : Array (Option Value)}
    {oc_Tree_o_children kV_Tree_o_children dc_Tree_o_children pm_Tree_o_children cd_Tree_o_children ct_Tree_o_children : Value} {od_Tree_o_children an_Tree_o_children : Option Addr} {sl_Tree_o_children : Array (Option Value)}
    {dT_Tree_o_children : Addr} {o2_Tree_o_children : Value} {od2_Tree_o_children : Option Addr} {n2_Tree_o_children : Nat} {sl2_Tree_o_children : Array (Option Value)}
    {nm_NoRow q_NoRow : Str} {N_NoRow : Addr} {bs_NoRow bm_NoRow sub_NoRow : List Value} {sn_NoRow : List Str} {ab_NoRow : Bool} {col_NoRow : Option Bool} {dd_NoRow : Option Addr} {m0_NoRow m1_NoRow m2_NoRow m3_NoRow m5_NoRow : Option Value}
    {nm_NoTree q_NoTree : Str} {N_NoTree : Addr} {bs_NoTree bm_NoTree sub_NoTree : List Value} {sn_NoTree : List Str} {ab_NoTree : Bool} {col_NoTree : Option Bool} {dd_NoTree : Option Addr} {m0_NoTree m1_NoTree m2_NoTree m3_NoTree m5_NoTree : Option Value}
    {nm_NoColumn q_NoColumn : Str} {N_NoColumn : Addr} {bs_NoColumn bm_NoColumn sub_NoColumn : List Value} {sn_NoColumn : List Str} {ab_NoColumn : Bool} {col_NoColumn : Option Bool} {dd_NoColumn : Option Addr} {m0_NoColumn m1_NoColumn m2_NoColumn m3_NoColumn m5_NoColumn : Option Value}
    {nm_NoFold q_NoFold : Str} {N_NoFold : Addr} {bs_NoFold bm_NoFold sub_NoFold : List Value} {sn_NoFold : List Str} {ab_NoFold : Bool} {col_NoFold : Option Bool} {dd_NoFold : Option Addr} {m0_NoFold m1_NoFold m2_NoFold m3_NoFold m5_NoFold : Option Value}
    {nm_TooMany q_TooMany : Str} {N_TooMany : Addr} {bs_TooMany bm_TooMany sub_TooMany : List Value} {sn_TooMany : List Str} {ab_TooMany : Bool} {col_TooMany : Option Bool} {dd_TooMany : Option Addr} {m0_TooMany m1_TooMany m2_TooMany m3_TooMany m5_TooMany : Option Value}
    {tk_LETTERS : Tok}
    {tk_LONGEST_NAME : Tok}
    {tk_MOST_COLUMNS : Tok}
    (gc_FoldError : PySem.W.nsIn K mainGlobals "FoldError" = some (some (.ref c_FoldError)))
    (gc_NoColumns : PySem.W.nsIn K mainGlobals "NoColumns" = some (some (.ref c_NoColumns)))
    (gc_NoRow : PySem.W.nsIn K mainGlobals "NoRow" = some (some (.ref c_NoRow)))
    (gc_NoTree : PySem.W.nsIn K mainGlobals "NoTree" = some (some (.ref c_NoTree)))
    (gc_NoColumn : PySem.W.nsIn K mainGlobals "NoColumn" = some (some (.ref c_NoColumn)))
    (gc_NoFold : PySem.W.nsIn K mainGlobals "NoFold" = some (some (.ref c_NoFold)))
    (gc_TooMany : PySem.W.nsIn K mainGlobals "TooMany" = some (some (.ref c_TooMany)))
    (gc_Fold : PySem.W.nsIn K mainGlobals "Fold" = some (some (.ref c_Fold)))
    (gc_Pool : PySem.W.nsIn K mainGlobals "Pool" = some (some (.ref c_Pool)))
    (gc_Tree : PySem.W.nsIn K mainGlobals "Tree" = some (some (.ref c_Tree)))
    (a_is_name : PySem.W.nsIn K mainGlobals "is_name" = some (some (.ref f_is_name)))
    (a_is_value : PySem.W.nsIn K mainGlobals "is_value" = some (some (.ref f_is_value)))
    (a_is_row : PySem.W.nsIn K mainGlobals "is_row" = some (some (.ref f_is_row)))
    (a_want_row : PySem.W.nsIn K mainGlobals "want_row" = some (some (.ref f_want_row)))
    (a_product_at : PySem.W.nsIn K mainGlobals "product_at" = some (some (.ref f_product_at)))
    (a_by_columns : PySem.W.nsIn K mainGlobals "by_columns" = some (some (.ref f_by_columns)))
    (a_counts_of : PySem.W.nsIn K mainGlobals "counts_of" = some (some (.ref f_counts_of)))
    (a_parts_at : PySem.W.nsIn K mainGlobals "parts_at" = some (some (.ref f_parts_at)))
    (a_holds : PySem.W.nsIn K mainGlobals "holds" = some (some (.ref f_holds)))
    (a_visit : PySem.W.nsIn K mainGlobals "visit" = some (some (.ref f_visit)))
    (a_moved : PySem.W.nsIn K mainGlobals "moved" = some (some (.ref f_moved)))
    (a_is_part : PySem.W.nsIn K mainGlobals "is_part" = some (some (.ref f_is_part)))
    (a_is_bunch : PySem.W.nsIn K mainGlobals "is_bunch" = some (some (.ref f_is_bunch)))
    (a_fold_of : PySem.W.nsIn K mainGlobals "fold_of" = some (some (.ref f_fold_of)))
    (a_at_places : PySem.W.nsIn K mainGlobals "at_places" = some (some (.ref f_at_places)))
    (a_rows_at : PySem.W.nsIn K mainGlobals "rows_at" = some (some (.ref f_rows_at)))
    (a_rows_of_parts : PySem.W.nsIn K mainGlobals "rows_of_parts" = some (some (.ref f_rows_of_parts)))
    (a_unfolded : PySem.W.nsIn K mainGlobals "unfolded" = some (some (.ref f_unfolded)))
    (a_is_pair : PySem.W.nsIn K mainGlobals "is_pair" = some (some (.ref f_is_pair)))
    (a_order_from : PySem.W.nsIn K mainGlobals "order_from" = some (some (.ref f_order_from)))
    (a__law_well : PySem.W.nsIn K mainGlobals "_law_well" = some (some (.ref f__law_well)))
    (a__law_draw : PySem.W.nsIn K mainGlobals "_law_draw" = some (some (.ref f__law_draw)))
    (a__law_names : PySem.W.nsIn K mainGlobals "_law_names" = some (some (.ref f__law_names)))
    (a__law_base : PySem.W.nsIn K mainGlobals "_law_base" = some (some (.ref f__law_base)))
    (a__law_pairs : PySem.W.nsIn K mainGlobals "_law_pairs" = some (some (.ref f__law_pairs)))
    (a__law_order : PySem.W.nsIn K mainGlobals "_law_order" = some (some (.ref f__law_order)))
    (a__law_bunch : PySem.W.nsIn K mainGlobals "_law_bunch" = some (some (.ref f__law_bunch)))
    (a__law_raw : PySem.W.nsIn K mainGlobals "_law_raw" = some (some (.ref f__law_raw)))
    (a__law_shuffled : PySem.W.nsIn K mainGlobals "_law_shuffled" = some (some (.ref f__law_shuffled)))
    (a__law_rows_of : PySem.W.nsIn K mainGlobals "_law_rows_of" = some (some (.ref f__law_rows_of)))
    (a__law_refused : PySem.W.nsIn K mainGlobals "_law_refused" = some (some (.ref f__law_refused)))
    (a__law_near : PySem.W.nsIn K mainGlobals "_law_near" = some (some (.ref f__law_near)))
    (a__law_right : PySem.W.nsIn K mainGlobals "_law_right" = some (some (.ref f__law_right)))
    (a_law : PySem.W.nsIn K mainGlobals "law" = some (some (.ref f_law)))
    (a_NoRow_o___init__ : PySem.W.findIn K (.ref c_NoRow) "__init__" = some (some (.ref f_NoRow_o___init__)))
    (a_NoTree_o___init__ : PySem.W.findIn K (.ref c_NoTree) "__init__" = some (some (.ref f_NoTree_o___init__)))
    (a_NoColumn_o___init__ : PySem.W.findIn K (.ref c_NoColumn) "__init__" = some (some (.ref f_NoColumn_o___init__)))
    (a_NoFold_o___init__ : PySem.W.findIn K (.ref c_NoFold) "__init__" = some (some (.ref f_NoFold_o___init__)))
    (a_TooMany_o___init__ : PySem.W.findIn K (.ref c_TooMany) "__init__" = some (some (.ref f_TooMany_o___init__)))
    (a_Fold_o___init__ : PySem.W.findIn K (.ref c_Fold) "__init__" = some (some (.ref f_Fold_o___init__)))
    (a_Fold_o___len__ : PySem.W.findIn K (.ref c_Fold) "__len__" = some (some (.ref f_Fold_o___len__)))
    (a_Fold_o___eq__ : PySem.W.findIn K (.ref c_Fold) "__eq__" = some (some (.ref f_Fold_o___eq__)))
    (a_Fold_o___str__ : PySem.W.findIn K (.ref c_Fold) "__str__" = some (some (.ref f_Fold_o___str__)))
    (a_Fold_o_bunches : PySem.W.findIn K (.ref c_Fold) "bunches" = some (some (.ref f_Fold_o_bunches)))
    (a_Fold_o_tops : PySem.W.findIn K (.ref c_Fold) "tops" = some (some (.ref f_Fold_o_tops)))
    (a_Fold_o_count : PySem.W.findIn K (.ref c_Fold) "count" = some (some (.ref f_Fold_o_count)))
    (a_Fold_o_weight : PySem.W.findIn K (.ref c_Fold) "weight" = some (some (.ref f_Fold_o_weight)))
    (a_Fold_o_has : PySem.W.findIn K (.ref c_Fold) "has" = some (some (.ref f_Fold_o_has)))
    (a_Pool_o___init__ : PySem.W.findIn K (.ref c_Pool) "__init__" = some (some (.ref f_Pool_o___init__)))
    (a_Pool_o_put : PySem.W.findIn K (.ref c_Pool) "put" = some (some (.ref f_Pool_o_put)))
    (a_Pool_o_fold : PySem.W.findIn K (.ref c_Pool) "fold" = some (some (.ref f_Pool_o_fold)))
    (a_Tree_o___init__ : PySem.W.findIn K (.ref c_Tree) "__init__" = some (some (.ref f_Tree_o___init__)))
    (a_Tree_o___len__ : PySem.W.findIn K (.ref c_Tree) "__len__" = some (some (.ref f_Tree_o___len__)))
    (a_Tree_o___eq__ : PySem.W.findIn K (.ref c_Tree) "__eq__" = some (some (.ref f_Tree_o___eq__)))
    (a_Tree_o_want : PySem.W.findIn K (.ref c_Tree) "want" = some (some (.ref f_Tree_o_want)))
    (a_Tree_o_columns : PySem.W.findIn K (.ref c_Tree) "columns" = some (some (.ref f_Tree_o_columns)))
    (a_Tree_o_pairs : PySem.W.findIn K (.ref c_Tree) "pairs" = some (some (.ref f_Tree_o_pairs)))
    (a_Tree_o_over : PySem.W.findIn K (.ref c_Tree) "over" = some (some (.ref f_Tree_o_over)))
    (a_Tree_o_above : PySem.W.findIn K (.ref c_Tree) "above" = some (some (.ref f_Tree_o_above)))
    (a_Tree_o_beneath : PySem.W.findIn K (.ref c_Tree) "beneath" = some (some (.ref f_Tree_o_beneath)))
    (a_Tree_o_children : PySem.W.findIn K (.ref c_Tree) "children" = some (some (.ref f_Tree_o_children)))
    (l_is_name : K.lookup f_is_name = some ⟨oc_is_name, od_is_name, .func (PySem.W.fnOf "is_name" "is_name" (defArgs s_is_name) (defBody s_is_name) (defScope s_is_name) .none kV_is_name dc_is_name pm_is_name an_is_name cd_is_name ct_is_name), sl_is_name⟩)
    (l_is_value : K.lookup f_is_value = some ⟨oc_is_value, od_is_value, .func (PySem.W.fnOf "is_value" "is_value" (defArgs s_is_value) (defBody s_is_value) (defScope s_is_value) .none kV_is_value dc_is_value pm_is_value an_is_value cd_is_value ct_is_value), sl_is_value⟩)
    (l_is_row : K.lookup f_is_row = some ⟨oc_is_row, od_is_row, .func (PySem.W.fnOf "is_row" "is_row" (defArgs s_is_row) (defBody s_is_row) (defScope s_is_row) .none kV_is_row dc_is_row pm_is_row an_is_row cd_is_row ct_is_row), sl_is_row⟩)
    (l_want_row : K.lookup f_want_row = some ⟨oc_want_row, od_want_row, .func (PySem.W.fnOf "want_row" "want_row" (defArgs s_want_row) (defBody s_want_row) (defScope s_want_row) (.ref dT_want_row) kV_want_row dc_want_row pm_want_row an_want_row cd_want_row ct_want_row), sl_want_row⟩)
    (ld_want_row : K.lookup dT_want_row = some ⟨o2_want_row, od2_want_row, .seq (List.toArray [.int 0 tk0_want_row]) n2_want_row, sl2_want_row⟩)
    (l_product_at : K.lookup f_product_at = some ⟨oc_product_at, od_product_at, .func (PySem.W.fnOf "product_at" "product_at" (defArgs s_product_at) (defBody s_product_at) (defScope s_product_at) .none kV_product_at dc_product_at pm_product_at an_product_at cd_product_at ct_product_at), sl_product_at⟩)
    (l_by_columns : K.lookup f_by_columns = some ⟨oc_by_columns, od_by_columns, .func (PySem.W.fnOf "by_columns" "by_columns" (defArgs s_by_columns) (defBody s_by_columns) (defScope s_by_columns) .none kV_by_columns dc_by_columns pm_by_columns an_by_columns cd_by_columns ct_by_columns), sl_by_columns⟩)
    (l_counts_of : K.lookup f_counts_of = some ⟨oc_counts_of, od_counts_of, .func (PySem.W.fnOf "counts_of" "counts_of" (defArgs s_counts_of) (defBody s_counts_of) (defScope s_counts_of) .none kV_counts_of dc_counts_of pm_counts_of an_counts_of cd_counts_of ct_counts_of), sl_counts_of⟩)
    (l_parts_at : K.lookup f_parts_at = some ⟨oc_parts_at, od_parts_at, .func (PySem.W.fnOf "parts_at" "parts_at" (defArgs s_parts_at) (defBody s_parts_at) (defScope s_parts_at) .none kV_parts_at dc_parts_at pm_parts_at an_parts_at cd_parts_at ct_parts_at), sl_parts_at⟩)
    (l_holds : K.lookup f_holds = some ⟨oc_holds, od_holds, .func (PySem.W.fnOf "holds" "holds" (defArgs s_holds) (defBody s_holds) (defScope s_holds) .none kV_holds dc_holds pm_holds an_holds cd_holds ct_holds), sl_holds⟩)
    (l_visit : K.lookup f_visit = some ⟨oc_visit, od_visit, .func (PySem.W.fnOf "visit" "visit" (defArgs s_visit) (defBody s_visit) (defScope s_visit) .none kV_visit dc_visit pm_visit an_visit cd_visit ct_visit), sl_visit⟩)
    (l_moved : K.lookup f_moved = some ⟨oc_moved, od_moved, .func (PySem.W.fnOf "moved" "moved" (defArgs s_moved) (defBody s_moved) (defScope s_moved) .none kV_moved dc_moved pm_moved an_moved cd_moved ct_moved), sl_moved⟩)
    (l_is_part : K.lookup f_is_part = some ⟨oc_is_part, od_is_part, .func (PySem.W.fnOf "is_part" "is_part" (defArgs s_is_part) (defBody s_is_part) (defScope s_is_part) .none kV_is_part dc_is_part pm_is_part an_is_part cd_is_part ct_is_part), sl_is_part⟩)
    (l_is_bunch : K.lookup f_is_bunch = some ⟨oc_is_bunch, od_is_bunch, .func (PySem.W.fnOf "is_bunch" "is_bunch" (defArgs s_is_bunch) (defBody s_is_bunch) (defScope s_is_bunch) .none kV_is_bunch dc_is_bunch pm_is_bunch an_is_bunch cd_is_bunch ct_is_bunch), sl_is_bunch⟩)
    (l_fold_of : K.lookup f_fold_of = some ⟨oc_fold_of, od_fold_of, .func (PySem.W.fnOf "fold_of" "fold_of" (defArgs s_fold_of) (defBody s_fold_of) (defScope s_fold_of) .none kV_fold_of dc_fold_of pm_fold_of an_fold_of cd_fold_of ct_fold_of), sl_fold_of⟩)
    (l_at_places : K.lookup f_at_places = some ⟨oc_at_places, od_at_places, .func (PySem.W.fnOf "at_places" "at_places" (defArgs s_at_places) (defBody s_at_places) (defScope s_at_places) .none kV_at_places dc_at_places pm_at_places an_at_places cd_at_places ct_at_places), sl_at_places⟩)
    (l_rows_at : K.lookup f_rows_at = some ⟨oc_rows_at, od_rows_at, .func (PySem.W.fnOf "rows_at" "rows_at" (defArgs s_rows_at) (defBody s_rows_at) (defScope s_rows_at) .none kV_rows_at dc_rows_at pm_rows_at an_rows_at cd_rows_at ct_rows_at), sl_rows_at⟩)
    (l_rows_of_parts : K.lookup f_rows_of_parts = some ⟨oc_rows_of_parts, od_rows_of_parts, .func (PySem.W.fnOf "rows_of_parts" "rows_of_parts" (defArgs s_rows_of_parts) (defBody s_rows_of_parts) (defScope s_rows_of_parts) .none kV_rows_of_parts dc_rows_of_parts pm_rows_of_parts an_rows_of_parts cd_rows_of_parts ct_rows_of_parts), sl_rows_of_parts⟩)
    (l_unfolded : K.lookup f_unfolded = some ⟨oc_unfolded, od_unfolded, .func (PySem.W.fnOf "unfolded" "unfolded" (defArgs s_unfolded) (defBody s_unfolded) (defScope s_unfolded) (.ref dT_unfolded) kV_unfolded dc_unfolded pm_unfolded an_unfolded cd_unfolded ct_unfolded), sl_unfolded⟩)
    (ld_unfolded : K.lookup dT_unfolded = some ⟨o2_unfolded, od2_unfolded, .seq (List.toArray [.int 1000 tk0_unfolded]) n2_unfolded, sl2_unfolded⟩)
    (l_is_pair : K.lookup f_is_pair = some ⟨oc_is_pair, od_is_pair, .func (PySem.W.fnOf "is_pair" "is_pair" (defArgs s_is_pair) (defBody s_is_pair) (defScope s_is_pair) .none kV_is_pair dc_is_pair pm_is_pair an_is_pair cd_is_pair ct_is_pair), sl_is_pair⟩)
    (l_order_from : K.lookup f_order_from = some ⟨oc_order_from, od_order_from, .func (PySem.W.fnOf "order_from" "order_from" (defArgs s_order_from) (defBody s_order_from) (defScope s_order_from) .none kV_order_from dc_order_from pm_order_from an_order_from cd_order_from ct_order_from), sl_order_from⟩)
    (l__law_well : K.lookup f__law_well = some ⟨oc__law_well, od__law_well, .func (PySem.W.fnOf "_law_well" "_law_well" (defArgs s__law_well) (defBody s__law_well) (defScope s__law_well) .none kV__law_well dc__law_well pm__law_well an__law_well cd__law_well ct__law_well), sl__law_well⟩)
    (l__law_draw : K.lookup f__law_draw = some ⟨oc__law_draw, od__law_draw, .func (PySem.W.fnOf "_law_draw" "_law_draw" (defArgs s__law_draw) (defBody s__law_draw) (defScope s__law_draw) .none kV__law_draw dc__law_draw pm__law_draw an__law_draw cd__law_draw ct__law_draw), sl__law_draw⟩)
    (l__law_names : K.lookup f__law_names = some ⟨oc__law_names, od__law_names, .func (PySem.W.fnOf "_law_names" "_law_names" (defArgs s__law_names) (defBody s__law_names) (defScope s__law_names) .none kV__law_names dc__law_names pm__law_names an__law_names cd__law_names ct__law_names), sl__law_names⟩)
    (l__law_base : K.lookup f__law_base = some ⟨oc__law_base, od__law_base, .func (PySem.W.fnOf "_law_base" "_law_base" (defArgs s__law_base) (defBody s__law_base) (defScope s__law_base) .none kV__law_base dc__law_base pm__law_base an__law_base cd__law_base ct__law_base), sl__law_base⟩)
    (l__law_pairs : K.lookup f__law_pairs = some ⟨oc__law_pairs, od__law_pairs, .func (PySem.W.fnOf "_law_pairs" "_law_pairs" (defArgs s__law_pairs) (defBody s__law_pairs) (defScope s__law_pairs) .none kV__law_pairs dc__law_pairs pm__law_pairs an__law_pairs cd__law_pairs ct__law_pairs), sl__law_pairs⟩)
    (l__law_order : K.lookup f__law_order = some ⟨oc__law_order, od__law_order, .func (PySem.W.fnOf "_law_order" "_law_order" (defArgs s__law_order) (defBody s__law_order) (defScope s__law_order) .none kV__law_order dc__law_order pm__law_order an__law_order cd__law_order ct__law_order), sl__law_order⟩)
    (l__law_bunch : K.lookup f__law_bunch = some ⟨oc__law_bunch, od__law_bunch, .func (PySem.W.fnOf "_law_bunch" "_law_bunch" (defArgs s__law_bunch) (defBody s__law_bunch) (defScope s__law_bunch) .none kV__law_bunch dc__law_bunch pm__law_bunch an__law_bunch cd__law_bunch ct__law_bunch), sl__law_bunch⟩)
    (l__law_raw : K.lookup f__law_raw = some ⟨oc__law_raw, od__law_raw, .func (PySem.W.fnOf "_law_raw" "_law_raw" (defArgs s__law_raw) (defBody s__law_raw) (defScope s__law_raw) .none kV__law_raw dc__law_raw pm__law_raw an__law_raw cd__law_raw ct__law_raw), sl__law_raw⟩)
    (l__law_shuffled : K.lookup f__law_shuffled = some ⟨oc__law_shuffled, od__law_shuffled, .func (PySem.W.fnOf "_law_shuffled" "_law_shuffled" (defArgs s__law_shuffled) (defBody s__law_shuffled) (defScope s__law_shuffled) .none kV__law_shuffled dc__law_shuffled pm__law_shuffled an__law_shuffled cd__law_shuffled ct__law_shuffled), sl__law_shuffled⟩)
    (l__law_rows_of : K.lookup f__law_rows_of = some ⟨oc__law_rows_of, od__law_rows_of, .func (PySem.W.fnOf "_law_rows_of" "_law_rows_of" (defArgs s__law_rows_of) (defBody s__law_rows_of) (defScope s__law_rows_of) .none kV__law_rows_of dc__law_rows_of pm__law_rows_of an__law_rows_of cd__law_rows_of ct__law_rows_of), sl__law_rows_of⟩)
    (l__law_refused : K.lookup f__law_refused = some ⟨oc__law_refused, od__law_refused, .func (PySem.W.fnOf "_law_refused" "_law_refused" (defArgs s__law_refused) (defBody s__law_refused) (defScope s__law_refused) .none kV__law_refused dc__law_refused pm__law_refused an__law_refused cd__law_refused ct__law_refused), sl__law_refused⟩)
    (l__law_near : K.lookup f__law_near = some ⟨oc__law_near, od__law_near, .func (PySem.W.fnOf "_law_near" "_law_near" (defArgs s__law_near) (defBody s__law_near) (defScope s__law_near) .none kV__law_near dc__law_near pm__law_near an__law_near cd__law_near ct__law_near), sl__law_near⟩)
    (l__law_right : K.lookup f__law_right = some ⟨oc__law_right, od__law_right, .func (PySem.W.fnOf "_law_right" "_law_right" (defArgs s__law_right) (defBody s__law_right) (defScope s__law_right) .none kV__law_right dc__law_right pm__law_right an__law_right cd__law_right ct__law_right), sl__law_right⟩)
    (l_law : K.lookup f_law = some ⟨oc_law, od_law, .func (PySem.W.fnOf "law" "law" (defArgs s_law) (defBody s_law) (defScope s_law) .none kV_law dc_law pm_law an_law cd_law ct_law), sl_law⟩)
    (l_NoRow_o___init__ : K.lookup f_NoRow_o___init__ = some ⟨oc_NoRow_o___init__, od_NoRow_o___init__, .func (PySem.W.fnOf "__init__" "NoRow.__init__" (defArgs s_NoRow_o___init__) (defBody s_NoRow_o___init__) (defScope s_NoRow_o___init__) .none kV_NoRow_o___init__ dc_NoRow_o___init__ pm_NoRow_o___init__ an_NoRow_o___init__ cd_NoRow_o___init__ ct_NoRow_o___init__), sl_NoRow_o___init__⟩)
    (l_NoTree_o___init__ : K.lookup f_NoTree_o___init__ = some ⟨oc_NoTree_o___init__, od_NoTree_o___init__, .func (PySem.W.fnOf "__init__" "NoTree.__init__" (defArgs s_NoTree_o___init__) (defBody s_NoTree_o___init__) (defScope s_NoTree_o___init__) .none kV_NoTree_o___init__ dc_NoTree_o___init__ pm_NoTree_o___init__ an_NoTree_o___init__ cd_NoTree_o___init__ ct_NoTree_o___init__), sl_NoTree_o___init__⟩)
    (l_NoColumn_o___init__ : K.lookup f_NoColumn_o___init__ = some ⟨oc_NoColumn_o___init__, od_NoColumn_o___init__, .func (PySem.W.fnOf "__init__" "NoColumn.__init__" (defArgs s_NoColumn_o___init__) (defBody s_NoColumn_o___init__) (defScope s_NoColumn_o___init__) .none kV_NoColumn_o___init__ dc_NoColumn_o___init__ pm_NoColumn_o___init__ an_NoColumn_o___init__ cd_NoColumn_o___init__ ct_NoColumn_o___init__), sl_NoColumn_o___init__⟩)
    (l_NoFold_o___init__ : K.lookup f_NoFold_o___init__ = some ⟨oc_NoFold_o___init__, od_NoFold_o___init__, .func (PySem.W.fnOf "__init__" "NoFold.__init__" (defArgs s_NoFold_o___init__) (defBody s_NoFold_o___init__) (defScope s_NoFold_o___init__) .none kV_NoFold_o___init__ dc_NoFold_o___init__ pm_NoFold_o___init__ an_NoFold_o___init__ cd_NoFold_o___init__ ct_NoFold_o___init__), sl_NoFold_o___init__⟩)
    (l_TooMany_o___init__ : K.lookup f_TooMany_o___init__ = some ⟨oc_TooMany_o___init__, od_TooMany_o___init__, .func (PySem.W.fnOf "__init__" "TooMany.__init__" (defArgs s_TooMany_o___init__) (defBody s_TooMany_o___init__) (defScope s_TooMany_o___init__) .none kV_TooMany_o___init__ dc_TooMany_o___init__ pm_TooMany_o___init__ an_TooMany_o___init__ cd_TooMany_o___init__ ct_TooMany_o___init__), sl_TooMany_o___init__⟩)
    (l_Fold_o___init__ : K.lookup f_Fold_o___init__ = some ⟨oc_Fold_o___init__, od_Fold_o___init__, .func (PySem.W.fnOf "__init__" "Fold.__init__" (defArgs s_Fold_o___init__) (defBody s_Fold_o___init__) (defScope s_Fold_o___init__) .none kV_Fold_o___init__ dc_Fold_o___init__ pm_Fold_o___init__ an_Fold_o___init__ cd_Fold_o___init__ ct_Fold_o___init__), sl_Fold_o___init__⟩)
    (l_Fold_o___len__ : K.lookup f_Fold_o___len__ = some ⟨oc_Fold_o___len__, od_Fold_o___len__, .func (PySem.W.fnOf "__len__" "Fold.__len__" (defArgs s_Fold_o___len__) (defBody s_Fold_o___len__) (defScope s_Fold_o___len__) .none kV_Fold_o___len__ dc_Fold_o___len__ pm_Fold_o___len__ an_Fold_o___len__ cd_Fold_o___len__ ct_Fold_o___len__), sl_Fold_o___len__⟩)
    (l_Fold_o___eq__ : K.lookup f_Fold_o___eq__ = some ⟨oc_Fold_o___eq__, od_Fold_o___eq__, .func (PySem.W.fnOf "__eq__" "Fold.__eq__" (defArgs s_Fold_o___eq__) (defBody s_Fold_o___eq__) (defScope s_Fold_o___eq__) .none kV_Fold_o___eq__ dc_Fold_o___eq__ pm_Fold_o___eq__ an_Fold_o___eq__ cd_Fold_o___eq__ ct_Fold_o___eq__), sl_Fold_o___eq__⟩)
    (l_Fold_o___str__ : K.lookup f_Fold_o___str__ = some ⟨oc_Fold_o___str__, od_Fold_o___str__, .func (PySem.W.fnOf "__str__" "Fold.__str__" (defArgs s_Fold_o___str__) (defBody s_Fold_o___str__) (defScope s_Fold_o___str__) .none kV_Fold_o___str__ dc_Fold_o___str__ pm_Fold_o___str__ an_Fold_o___str__ cd_Fold_o___str__ ct_Fold_o___str__), sl_Fold_o___str__⟩)
    (l_Fold_o_bunches : K.lookup f_Fold_o_bunches = some ⟨oc_Fold_o_bunches, od_Fold_o_bunches, .func (PySem.W.fnOf "bunches" "Fold.bunches" (defArgs s_Fold_o_bunches) (defBody s_Fold_o_bunches) (defScope s_Fold_o_bunches) .none kV_Fold_o_bunches dc_Fold_o_bunches pm_Fold_o_bunches an_Fold_o_bunches cd_Fold_o_bunches ct_Fold_o_bunches), sl_Fold_o_bunches⟩)
    (l_Fold_o_tops : K.lookup f_Fold_o_tops = some ⟨oc_Fold_o_tops, od_Fold_o_tops, .func (PySem.W.fnOf "tops" "Fold.tops" (defArgs s_Fold_o_tops) (defBody s_Fold_o_tops) (defScope s_Fold_o_tops) .none kV_Fold_o_tops dc_Fold_o_tops pm_Fold_o_tops an_Fold_o_tops cd_Fold_o_tops ct_Fold_o_tops), sl_Fold_o_tops⟩)
    (l_Fold_o_count : K.lookup f_Fold_o_count = some ⟨oc_Fold_o_count, od_Fold_o_count, .func (PySem.W.fnOf "count" "Fold.count" (defArgs s_Fold_o_count) (defBody s_Fold_o_count) (defScope s_Fold_o_count) .none kV_Fold_o_count dc_Fold_o_count pm_Fold_o_count an_Fold_o_count cd_Fold_o_count ct_Fold_o_count), sl_Fold_o_count⟩)
    (l_Fold_o_weight : K.lookup f_Fold_o_weight = some ⟨oc_Fold_o_weight, od_Fold_o_weight, .func (PySem.W.fnOf "weight" "Fold.weight" (defArgs s_Fold_o_weight) (defBody s_Fold_o_weight) (defScope s_Fold_o_weight) .none kV_Fold_o_weight dc_Fold_o_weight pm_Fold_o_weight an_Fold_o_weight cd_Fold_o_weight ct_Fold_o_weight), sl_Fold_o_weight⟩)
    (l_Fold_o_has : K.lookup f_Fold_o_has = some ⟨oc_Fold_o_has, od_Fold_o_has, .func (PySem.W.fnOf "has" "Fold.has" (defArgs s_Fold_o_has) (defBody s_Fold_o_has) (defScope s_Fold_o_has) .none kV_Fold_o_has dc_Fold_o_has pm_Fold_o_has an_Fold_o_has cd_Fold_o_has ct_Fold_o_has), sl_Fold_o_has⟩)
    (l_Pool_o___init__ : K.lookup f_Pool_o___init__ = some ⟨oc_Pool_o___init__, od_Pool_o___init__, .func (PySem.W.fnOf "__init__" "Pool.__init__" (defArgs s_Pool_o___init__) (defBody s_Pool_o___init__) (defScope s_Pool_o___init__) .none kV_Pool_o___init__ dc_Pool_o___init__ pm_Pool_o___init__ an_Pool_o___init__ cd_Pool_o___init__ ct_Pool_o___init__), sl_Pool_o___init__⟩)
    (l_Pool_o_put : K.lookup f_Pool_o_put = some ⟨oc_Pool_o_put, od_Pool_o_put, .func (PySem.W.fnOf "put" "Pool.put" (defArgs s_Pool_o_put) (defBody s_Pool_o_put) (defScope s_Pool_o_put) .none kV_Pool_o_put dc_Pool_o_put pm_Pool_o_put an_Pool_o_put cd_Pool_o_put ct_Pool_o_put), sl_Pool_o_put⟩)
    (l_Pool_o_fold : K.lookup f_Pool_o_fold = some ⟨oc_Pool_o_fold, od_Pool_o_fold, .func (PySem.W.fnOf "fold" "Pool.fold" (defArgs s_Pool_o_fold) (defBody s_Pool_o_fold) (defScope s_Pool_o_fold) .none kV_Pool_o_fold dc_Pool_o_fold pm_Pool_o_fold an_Pool_o_fold cd_Pool_o_fold ct_Pool_o_fold), sl_Pool_o_fold⟩)
    (l_Tree_o___init__ : K.lookup f_Tree_o___init__ = some ⟨oc_Tree_o___init__, od_Tree_o___init__, .func (PySem.W.fnOf "__init__" "Tree.__init__" (defArgs s_Tree_o___init__) (defBody s_Tree_o___init__) (defScope s_Tree_o___init__) .none kV_Tree_o___init__ dc_Tree_o___init__ pm_Tree_o___init__ an_Tree_o___init__ cd_Tree_o___init__ ct_Tree_o___init__), sl_Tree_o___init__⟩)
    (l_Tree_o___len__ : K.lookup f_Tree_o___len__ = some ⟨oc_Tree_o___len__, od_Tree_o___len__, .func (PySem.W.fnOf "__len__" "Tree.__len__" (defArgs s_Tree_o___len__) (defBody s_Tree_o___len__) (defScope s_Tree_o___len__) .none kV_Tree_o___len__ dc_Tree_o___len__ pm_Tree_o___len__ an_Tree_o___len__ cd_Tree_o___len__ ct_Tree_o___len__), sl_Tree_o___len__⟩)
    (l_Tree_o___eq__ : K.lookup f_Tree_o___eq__ = some ⟨oc_Tree_o___eq__, od_Tree_o___eq__, .func (PySem.W.fnOf "__eq__" "Tree.__eq__" (defArgs s_Tree_o___eq__) (defBody s_Tree_o___eq__) (defScope s_Tree_o___eq__) .none kV_Tree_o___eq__ dc_Tree_o___eq__ pm_Tree_o___eq__ an_Tree_o___eq__ cd_Tree_o___eq__ ct_Tree_o___eq__), sl_Tree_o___eq__⟩)
    (l_Tree_o_want : K.lookup f_Tree_o_want = some ⟨oc_Tree_o_want, od_Tree_o_want, .func (PySem.W.fnOf "want" "Tree.want" (defArgs s_Tree_o_want) (defBody s_Tree_o_want) (defScope s_Tree_o_want) .none kV_Tree_o_want dc_Tree_o_want pm_Tree_o_want an_Tree_o_want cd_Tree_o_want ct_Tree_o_want), sl_Tree_o_want⟩)
    (l_Tree_o_columns : K.lookup f_Tree_o_columns = some ⟨oc_Tree_o_columns, od_Tree_o_columns, .func (PySem.W.fnOf "columns" "Tree.columns" (defArgs s_Tree_o_columns) (defBody s_Tree_o_columns) (defScope s_Tree_o_columns) .none kV_Tree_o_columns dc_Tree_o_columns pm_Tree_o_columns an_Tree_o_columns cd_Tree_o_columns ct_Tree_o_columns), sl_Tree_o_columns⟩)
    (l_Tree_o_pairs : K.lookup f_Tree_o_pairs = some ⟨oc_Tree_o_pairs, od_Tree_o_pairs, .func (PySem.W.fnOf "pairs" "Tree.pairs" (defArgs s_Tree_o_pairs) (defBody s_Tree_o_pairs) (defScope s_Tree_o_pairs) .none kV_Tree_o_pairs dc_Tree_o_pairs pm_Tree_o_pairs an_Tree_o_pairs cd_Tree_o_pairs ct_Tree_o_pairs), sl_Tree_o_pairs⟩)
    (l_Tree_o_over : K.lookup f_Tree_o_over = some ⟨oc_Tree_o_over, od_Tree_o_over, .func (PySem.W.fnOf "over" "Tree.over" (defArgs s_Tree_o_over) (defBody s_Tree_o_over) (defScope s_Tree_o_over) .none kV_Tree_o_over dc_Tree_o_over pm_Tree_o_over an_Tree_o_over cd_Tree_o_over ct_Tree_o_over), sl_Tree_o_over⟩)
    (l_Tree_o_above : K.lookup f_Tree_o_above = some ⟨oc_Tree_o_above, od_Tree_o_above, .func (PySem.W.fnOf "above" "Tree.above" (defArgs s_Tree_o_above) (defBody s_Tree_o_above) (defScope s_Tree_o_above) .none kV_Tree_o_above dc_Tree_o_above pm_Tree_o_above an_Tree_o_above cd_Tree_o_above ct_Tree_o_above), sl_Tree_o_above⟩)
    (l_Tree_o_beneath : K.lookup f_Tree_o_beneath = some ⟨oc_Tree_o_beneath, od_Tree_o_beneath, .func (PySem.W.fnOf "beneath" "Tree.beneath" (defArgs s_Tree_o_beneath) (defBody s_Tree_o_beneath) (defScope s_Tree_o_beneath) .none kV_Tree_o_beneath dc_Tree_o_beneath pm_Tree_o_beneath an_Tree_o_beneath cd_Tree_o_beneath ct_Tree_o_beneath), sl_Tree_o_beneath⟩)
    (l_Tree_o_children : K.lookup f_Tree_o_children = some ⟨oc_Tree_o_children, od_Tree_o_children, .func (PySem.W.fnOf "children" "Tree.children" (defArgs s_Tree_o_children) (defBody s_Tree_o_children) (defScope s_Tree_o_children) (.ref dT_Tree_o_children) kV_Tree_o_children dc_Tree_o_children pm_Tree_o_children an_Tree_o_children cd_Tree_o_children ct_Tree_o_children), sl_Tree_o_children⟩)
    (ld_Tree_o_children : K.lookup dT_Tree_o_children = some ⟨o2_Tree_o_children, od2_Tree_o_children, .seq (List.toArray [.none]) n2_Tree_o_children, sl2_Tree_o_children⟩)
    (c1_is_name : PySem.W.codeIn K cd_is_name "is_name" = true)
    (k1_is_name : PySem.W.keepIn K (.ref f_is_name) = true)
    (c1_is_value : PySem.W.codeIn K cd_is_value "is_value" = true)
    (k1_is_value : PySem.W.keepIn K (.ref f_is_value) = true)
    (c1_is_row : PySem.W.codeIn K cd_is_row "is_row" = true)
    (k1_is_row : PySem.W.keepIn K (.ref f_is_row) = true)
    (c1_want_row : PySem.W.codeIn K cd_want_row "want_row" = true)
    (k1_want_row : PySem.W.keepIn K (.ref f_want_row) = true)
    (c1_product_at : PySem.W.codeIn K cd_product_at "product_at" = true)
    (k1_product_at : PySem.W.keepIn K (.ref f_product_at) = true)
    (c1_by_columns : PySem.W.codeIn K cd_by_columns "by_columns" = true)
    (k1_by_columns : PySem.W.keepIn K (.ref f_by_columns) = true)
    (c1_counts_of : PySem.W.codeIn K cd_counts_of "counts_of" = true)
    (k1_counts_of : PySem.W.keepIn K (.ref f_counts_of) = true)
    (c1_parts_at : PySem.W.codeIn K cd_parts_at "parts_at" = true)
    (k1_parts_at : PySem.W.keepIn K (.ref f_parts_at) = true)
    (c1_holds : PySem.W.codeIn K cd_holds "holds" = true)
    (k1_holds : PySem.W.keepIn K (.ref f_holds) = true)
    (c1_visit : PySem.W.codeIn K cd_visit "visit" = true)
    (k1_visit : PySem.W.keepIn K (.ref f_visit) = true)
    (c1_moved : PySem.W.codeIn K cd_moved "moved" = true)
    (k1_moved : PySem.W.keepIn K (.ref f_moved) = true)
    (c1_is_part : PySem.W.codeIn K cd_is_part "is_part" = true)
    (k1_is_part : PySem.W.keepIn K (.ref f_is_part) = true)
    (c1_is_bunch : PySem.W.codeIn K cd_is_bunch "is_bunch" = true)
    (k1_is_bunch : PySem.W.keepIn K (.ref f_is_bunch) = true)
    (c1_fold_of : PySem.W.codeIn K cd_fold_of "fold_of" = true)
    (k1_fold_of : PySem.W.keepIn K (.ref f_fold_of) = true)
    (c1_at_places : PySem.W.codeIn K cd_at_places "at_places" = true)
    (k1_at_places : PySem.W.keepIn K (.ref f_at_places) = true)
    (c1_rows_at : PySem.W.codeIn K cd_rows_at "rows_at" = true)
    (k1_rows_at : PySem.W.keepIn K (.ref f_rows_at) = true)
    (c1_rows_of_parts : PySem.W.codeIn K cd_rows_of_parts "rows_of_parts" = true)
    (k1_rows_of_parts : PySem.W.keepIn K (.ref f_rows_of_parts) = true)
    (c1_unfolded : PySem.W.codeIn K cd_unfolded "unfolded" = true)
    (k1_unfolded : PySem.W.keepIn K (.ref f_unfolded) = true)
    (c1_is_pair : PySem.W.codeIn K cd_is_pair "is_pair" = true)
    (k1_is_pair : PySem.W.keepIn K (.ref f_is_pair) = true)
    (c1_order_from : PySem.W.codeIn K cd_order_from "order_from" = true)
    (k1_order_from : PySem.W.keepIn K (.ref f_order_from) = true)
    (c1__law_well : PySem.W.codeIn K cd__law_well "_law_well" = true)
    (k1__law_well : PySem.W.keepIn K (.ref f__law_well) = true)
    (c1__law_draw : PySem.W.codeIn K cd__law_draw "_law_draw" = true)
    (k1__law_draw : PySem.W.keepIn K (.ref f__law_draw) = true)
    (c1__law_names : PySem.W.codeIn K cd__law_names "_law_names" = true)
    (k1__law_names : PySem.W.keepIn K (.ref f__law_names) = true)
    (c1__law_base : PySem.W.codeIn K cd__law_base "_law_base" = true)
    (k1__law_base : PySem.W.keepIn K (.ref f__law_base) = true)
    (c1__law_pairs : PySem.W.codeIn K cd__law_pairs "_law_pairs" = true)
    (k1__law_pairs : PySem.W.keepIn K (.ref f__law_pairs) = true)
    (c1__law_order : PySem.W.codeIn K cd__law_order "_law_order" = true)
    (k1__law_order : PySem.W.keepIn K (.ref f__law_order) = true)
    (c1__law_bunch : PySem.W.codeIn K cd__law_bunch "_law_bunch" = true)
    (k1__law_bunch : PySem.W.keepIn K (.ref f__law_bunch) = true)
    (c1__law_raw : PySem.W.codeIn K cd__law_raw "_law_raw" = true)
    (k1__law_raw : PySem.W.keepIn K (.ref f__law_raw) = true)
    (c1__law_shuffled : PySem.W.codeIn K cd__law_shuffled "_law_shuffled" = true)
    (k1__law_shuffled : PySem.W.keepIn K (.ref f__law_shuffled) = true)
    (c1__law_rows_of : PySem.W.codeIn K cd__law_rows_of "_law_rows_of" = true)
    (k1__law_rows_of : PySem.W.keepIn K (.ref f__law_rows_of) = true)
    (c1__law_refused : PySem.W.codeIn K cd__law_refused "_law_refused" = true)
    (k1__law_refused : PySem.W.keepIn K (.ref f__law_refused) = true)
    (c1__law_near : PySem.W.codeIn K cd__law_near "_law_near" = true)
    (k1__law_near : PySem.W.keepIn K (.ref f__law_near) = true)
    (c1__law_right : PySem.W.codeIn K cd__law_right "_law_right" = true)
    (k1__law_right : PySem.W.keepIn K (.ref f__law_right) = true)
    (c1_law : PySem.W.codeIn K cd_law "law" = true)
    (k1_law : PySem.W.keepIn K (.ref f_law) = true)
    (c1_NoRow_o___init__ : PySem.W.codeIn K cd_NoRow_o___init__ "NoRow.__init__" = true)
    (k1_NoRow_o___init__ : PySem.W.keepIn K (.ref f_NoRow_o___init__) = true)
    (c1_NoTree_o___init__ : PySem.W.codeIn K cd_NoTree_o___init__ "NoTree.__init__" = true)
    (k1_NoTree_o___init__ : PySem.W.keepIn K (.ref f_NoTree_o___init__) = true)
    (c1_NoColumn_o___init__ : PySem.W.codeIn K cd_NoColumn_o___init__ "NoColumn.__init__" = true)
    (k1_NoColumn_o___init__ : PySem.W.keepIn K (.ref f_NoColumn_o___init__) = true)
    (c1_NoFold_o___init__ : PySem.W.codeIn K cd_NoFold_o___init__ "NoFold.__init__" = true)
    (k1_NoFold_o___init__ : PySem.W.keepIn K (.ref f_NoFold_o___init__) = true)
    (c1_TooMany_o___init__ : PySem.W.codeIn K cd_TooMany_o___init__ "TooMany.__init__" = true)
    (k1_TooMany_o___init__ : PySem.W.keepIn K (.ref f_TooMany_o___init__) = true)
    (c1_Fold_o___init__ : PySem.W.codeIn K cd_Fold_o___init__ "Fold.__init__" = true)
    (k1_Fold_o___init__ : PySem.W.keepIn K (.ref f_Fold_o___init__) = true)
    (i1_Fold_o___init__ : PySem.W.isFn K (.ref f_Fold_o___init__) = true)
    (c1_Fold_o___len__ : PySem.W.codeIn K cd_Fold_o___len__ "Fold.__len__" = true)
    (k1_Fold_o___len__ : PySem.W.keepIn K (.ref f_Fold_o___len__) = true)
    (i1_Fold_o___len__ : PySem.W.isFn K (.ref f_Fold_o___len__) = true)
    (c1_Fold_o___eq__ : PySem.W.codeIn K cd_Fold_o___eq__ "Fold.__eq__" = true)
    (k1_Fold_o___eq__ : PySem.W.keepIn K (.ref f_Fold_o___eq__) = true)
    (i1_Fold_o___eq__ : PySem.W.isFn K (.ref f_Fold_o___eq__) = true)
    (c1_Fold_o___str__ : PySem.W.codeIn K cd_Fold_o___str__ "Fold.__str__" = true)
    (k1_Fold_o___str__ : PySem.W.keepIn K (.ref f_Fold_o___str__) = true)
    (i1_Fold_o___str__ : PySem.W.isFn K (.ref f_Fold_o___str__) = true)
    (c1_Fold_o_bunches : PySem.W.codeIn K cd_Fold_o_bunches "Fold.bunches" = true)
    (k1_Fold_o_bunches : PySem.W.keepIn K (.ref f_Fold_o_bunches) = true)
    (i1_Fold_o_bunches : PySem.W.isFn K (.ref f_Fold_o_bunches) = true)
    (c1_Fold_o_tops : PySem.W.codeIn K cd_Fold_o_tops "Fold.tops" = true)
    (k1_Fold_o_tops : PySem.W.keepIn K (.ref f_Fold_o_tops) = true)
    (i1_Fold_o_tops : PySem.W.isFn K (.ref f_Fold_o_tops) = true)
    (c1_Fold_o_count : PySem.W.codeIn K cd_Fold_o_count "Fold.count" = true)
    (k1_Fold_o_count : PySem.W.keepIn K (.ref f_Fold_o_count) = true)
    (i1_Fold_o_count : PySem.W.isFn K (.ref f_Fold_o_count) = true)
    (c1_Fold_o_weight : PySem.W.codeIn K cd_Fold_o_weight "Fold.weight" = true)
    (k1_Fold_o_weight : PySem.W.keepIn K (.ref f_Fold_o_weight) = true)
    (i1_Fold_o_weight : PySem.W.isFn K (.ref f_Fold_o_weight) = true)
    (c1_Fold_o_has : PySem.W.codeIn K cd_Fold_o_has "Fold.has" = true)
    (k1_Fold_o_has : PySem.W.keepIn K (.ref f_Fold_o_has) = true)
    (i1_Fold_o_has : PySem.W.isFn K (.ref f_Fold_o_has) = true)
    (c1_Pool_o___init__ : PySem.W.codeIn K cd_Pool_o___init__ "Pool.__init__" = true)
    (k1_Pool_o___init__ : PySem.W.keepIn K (.ref f_Pool_o___init__) = true)
    (i1_Pool_o___init__ : PySem.W.isFn K (.ref f_Pool_o___init__) = true)
    (c1_Pool_o_put : PySem.W.codeIn K cd_Pool_o_put "Pool.put" = true)
    (k1_Pool_o_put : PySem.W.keepIn K (.ref f_Pool_o_put) = true)
    (i1_Pool_o_put : PySem.W.isFn K (.ref f_Pool_o_put) = true)
    (c1_Pool_o_fold : PySem.W.codeIn K cd_Pool_o_fold "Pool.fold" = true)
    (k1_Pool_o_fold : PySem.W.keepIn K (.ref f_Pool_o_fold) = true)
    (i1_Pool_o_fold : PySem.W.isFn K (.ref f_Pool_o_fold) = true)
    (c1_Tree_o___init__ : PySem.W.codeIn K cd_Tree_o___init__ "Tree.__init__" = true)
    (k1_Tree_o___init__ : PySem.W.keepIn K (.ref f_Tree_o___init__) = true)
    (i1_Tree_o___init__ : PySem.W.isFn K (.ref f_Tree_o___init__) = true)
    (c1_Tree_o___len__ : PySem.W.codeIn K cd_Tree_o___len__ "Tree.__len__" = true)
    (k1_Tree_o___len__ : PySem.W.keepIn K (.ref f_Tree_o___len__) = true)
    (i1_Tree_o___len__ : PySem.W.isFn K (.ref f_Tree_o___len__) = true)
    (c1_Tree_o___eq__ : PySem.W.codeIn K cd_Tree_o___eq__ "Tree.__eq__" = true)
    (k1_Tree_o___eq__ : PySem.W.keepIn K (.ref f_Tree_o___eq__) = true)
    (i1_Tree_o___eq__ : PySem.W.isFn K (.ref f_Tree_o___eq__) = true)
    (c1_Tree_o_want : PySem.W.codeIn K cd_Tree_o_want "Tree.want" = true)
    (k1_Tree_o_want : PySem.W.keepIn K (.ref f_Tree_o_want) = true)
    (i1_Tree_o_want : PySem.W.isFn K (.ref f_Tree_o_want) = true)
    (c1_Tree_o_columns : PySem.W.codeIn K cd_Tree_o_columns "Tree.columns" = true)
    (k1_Tree_o_columns : PySem.W.keepIn K (.ref f_Tree_o_columns) = true)
    (i1_Tree_o_columns : PySem.W.isFn K (.ref f_Tree_o_columns) = true)
    (c1_Tree_o_pairs : PySem.W.codeIn K cd_Tree_o_pairs "Tree.pairs" = true)
    (k1_Tree_o_pairs : PySem.W.keepIn K (.ref f_Tree_o_pairs) = true)
    (i1_Tree_o_pairs : PySem.W.isFn K (.ref f_Tree_o_pairs) = true)
    (c1_Tree_o_over : PySem.W.codeIn K cd_Tree_o_over "Tree.over" = true)
    (k1_Tree_o_over : PySem.W.keepIn K (.ref f_Tree_o_over) = true)
    (i1_Tree_o_over : PySem.W.isFn K (.ref f_Tree_o_over) = true)
    (c1_Tree_o_above : PySem.W.codeIn K cd_Tree_o_above "Tree.above" = true)
    (k1_Tree_o_above : PySem.W.keepIn K (.ref f_Tree_o_above) = true)
    (i1_Tree_o_above : PySem.W.isFn K (.ref f_Tree_o_above) = true)
    (c1_Tree_o_beneath : PySem.W.codeIn K cd_Tree_o_beneath "Tree.beneath" = true)
    (k1_Tree_o_beneath : PySem.W.keepIn K (.ref f_Tree_o_beneath) = true)
    (i1_Tree_o_beneath : PySem.W.isFn K (.ref f_Tree_o_beneath) = true)
    (c1_Tree_o_children : PySem.W.codeIn K cd_Tree_o_children "Tree.children" = true)
    (k1_Tree_o_children : PySem.W.keepIn K (.ref f_Tree_o_children) = true)
    (i1_Tree_o_children : PySem.W.isFn K (.ref f_Tree_o_children) = true)
    (sp_FoldError : PySem.W.specialIn K (.ref c_FoldError) "__getattribute__" = some (some (.builtin "type.__getattribute__")))
    (rd_FoldError : PySem.W.readsIn K c_FoldError (.type "type") = true)
    (fc_FoldError : PySem.W.findCls K (.ref c_FoldError) (.type "type") "__init__" = some (.val (.builtin "ValueError.__init__")))
    (eC_NoRow : PySem.W.subIn K (.ref c_NoRow) (.type "BaseException") = some true)
    (tC_NoRow : PySem.W.typeIn K (.ref c_NoRow) = some (.type "type"))
    (kc_NoRow : PySem.W.keepIn K (.ref c_NoRow) = true)
    (xL_NoRow : K.lookup c_NoRow = some (PySem.excClassObj nm_NoRow q_NoRow c_NoRow N_NoRow bs_NoRow bm_NoRow true sn_NoRow sub_NoRow ab_NoRow col_NoRow dd_NoRow m0_NoRow m1_NoRow m2_NoRow m3_NoRow m5_NoRow "ValueError.__new__"))
    (rv_NoRow : PySem.HandSPX.refsVE bm_NoRow = true)
    (sa_NoRow : PySem.W.findIn K (.ref c_NoRow) "__setattr__" = some (some (.builtin "object.__setattr__")))
    (tI_NoRow : PySem.W.typeIn K (.ref f_NoRow_o___init__) = some (.type "function"))
    (ga_NoRow : PySem.W.findIn K (.ref c_NoRow) "__getattribute__" = some (some (.builtin "BaseException.__getattribute__")))
    (gg_NoRow : PySem.W.findIn K (.ref c_NoRow) "__getattr__" = some none)
    (hd_NoRow : PySem.W.hasDictIn K c_NoRow = true)
    (hc_NoRow : PySem.W.findIn K (.ref c_NoRow) "__class__" = some (some (.builtin "object.__class__")))
    (hnO : PySem.W.specialIn K (.builtin "object.__class__") "__get__" = some (some (.builtin "getset_descriptor.__get__")))
    (htO : PySem.W.takesIn K (.builtin "object.__class__") = some true)
    (hm_NoRow : PySem.W.mroIn K c_NoRow (.type "object") = some true)
    (eC_NoTree : PySem.W.subIn K (.ref c_NoTree) (.type "BaseException") = some true)
    (tC_NoTree : PySem.W.typeIn K (.ref c_NoTree) = some (.type "type"))
    (kc_NoTree : PySem.W.keepIn K (.ref c_NoTree) = true)
    (xL_NoTree : K.lookup c_NoTree = some (PySem.excClassObj nm_NoTree q_NoTree c_NoTree N_NoTree bs_NoTree bm_NoTree true sn_NoTree sub_NoTree ab_NoTree col_NoTree dd_NoTree m0_NoTree m1_NoTree m2_NoTree m3_NoTree m5_NoTree "ValueError.__new__"))
    (rv_NoTree : PySem.HandSPX.refsVE bm_NoTree = true)
    (sa_NoTree : PySem.W.findIn K (.ref c_NoTree) "__setattr__" = some (some (.builtin "object.__setattr__")))
    (tI_NoTree : PySem.W.typeIn K (.ref f_NoTree_o___init__) = some (.type "function"))
    (eC_NoColumn : PySem.W.subIn K (.ref c_NoColumn) (.type "BaseException") = some true)
    (tC_NoColumn : PySem.W.typeIn K (.ref c_NoColumn) = some (.type "type"))
    (kc_NoColumn : PySem.W.keepIn K (.ref c_NoColumn) = true)
    (xL_NoColumn : K.lookup c_NoColumn = some (PySem.excClassObj nm_NoColumn q_NoColumn c_NoColumn N_NoColumn bs_NoColumn bm_NoColumn true sn_NoColumn sub_NoColumn ab_NoColumn col_NoColumn dd_NoColumn m0_NoColumn m1_NoColumn m2_NoColumn m3_NoColumn m5_NoColumn "ValueError.__new__"))
    (rv_NoColumn : PySem.HandSPX.refsVE bm_NoColumn = true)
    (sa_NoColumn : PySem.W.findIn K (.ref c_NoColumn) "__setattr__" = some (some (.builtin "object.__setattr__")))
    (tI_NoColumn : PySem.W.typeIn K (.ref f_NoColumn_o___init__) = some (.type "function"))
    (eC_NoFold : PySem.W.subIn K (.ref c_NoFold) (.type "BaseException") = some true)
    (tC_NoFold : PySem.W.typeIn K (.ref c_NoFold) = some (.type "type"))
    (kc_NoFold : PySem.W.keepIn K (.ref c_NoFold) = true)
    (xL_NoFold : K.lookup c_NoFold = some (PySem.excClassObj nm_NoFold q_NoFold c_NoFold N_NoFold bs_NoFold bm_NoFold true sn_NoFold sub_NoFold ab_NoFold col_NoFold dd_NoFold m0_NoFold m1_NoFold m2_NoFold m3_NoFold m5_NoFold "ValueError.__new__"))
    (rv_NoFold : PySem.HandSPX.refsVE bm_NoFold = true)
    (sa_NoFold : PySem.W.findIn K (.ref c_NoFold) "__setattr__" = some (some (.builtin "object.__setattr__")))
    (tI_NoFold : PySem.W.typeIn K (.ref f_NoFold_o___init__) = some (.type "function"))
    (eC_TooMany : PySem.W.subIn K (.ref c_TooMany) (.type "BaseException") = some true)
    (tC_TooMany : PySem.W.typeIn K (.ref c_TooMany) = some (.type "type"))
    (kc_TooMany : PySem.W.keepIn K (.ref c_TooMany) = true)
    (xL_TooMany : K.lookup c_TooMany = some (PySem.excClassObj nm_TooMany q_TooMany c_TooMany N_TooMany bs_TooMany bm_TooMany true sn_TooMany sub_TooMany ab_TooMany col_TooMany dd_TooMany m0_TooMany m1_TooMany m2_TooMany m3_TooMany m5_TooMany "ValueError.__new__"))
    (rv_TooMany : PySem.HandSPX.refsVE bm_TooMany = true)
    (sa_TooMany : PySem.W.findIn K (.ref c_TooMany) "__setattr__" = some (some (.builtin "object.__setattr__")))
    (tI_TooMany : PySem.W.typeIn K (.ref f_TooMany_o___init__) = some (.type "function"))
    (pg_Fold : PySem.W.plainGet K c_Fold Str.empty = true)
    (hd_Fold : PySem.W.hasDictIn K c_Fold = true)
    (po_Fold : PySem.W.plainOver K c_Fold = true)
    (sa_Fold : PySem.W.findIn K (.ref c_Fold) "__setattr__" = some (some (.builtin "object.__setattr__")))
    (mk_Fold : PySem.W.makesIn K c_Fold = true)
    (kc_Fold : PySem.W.keepIn K (.ref c_Fold) = true)
    (pg_Pool : PySem.W.plainGet K c_Pool Str.empty = true)
    (hd_Pool : PySem.W.hasDictIn K c_Pool = true)
    (po_Pool : PySem.W.plainOver K c_Pool = true)
    (sa_Pool : PySem.W.findIn K (.ref c_Pool) "__setattr__" = some (some (.builtin "object.__setattr__")))
    (mk_Pool : PySem.W.makesIn K c_Pool = true)
    (kc_Pool : PySem.W.keepIn K (.ref c_Pool) = true)
    (pg_Tree : PySem.W.plainGet K c_Tree Str.empty = true)
    (hd_Tree : PySem.W.hasDictIn K c_Tree = true)
    (po_Tree : PySem.W.plainOver K c_Tree = true)
    (sa_Tree : PySem.W.findIn K (.ref c_Tree) "__setattr__" = some (some (.builtin "object.__setattr__")))
    (mk_Tree : PySem.W.makesIn K c_Tree = true)
    (kc_Tree : PySem.W.keepIn K (.ref c_Tree) = true)
    (ex_NoRow_FoldError : PySem.W.exmOne K (.ref c_NoRow) (.ref c_FoldError) = some true)
    (ki_NoRow_NoColumns : PySem.W.kitOne K (.ref c_NoRow) (.ref c_NoColumns) = some false)
    (ki_NoneType_Fold : PySem.W.kitOne K (.type "NoneType") (.ref c_Fold) = some false)
    (ki_NoneType_Tree : PySem.W.kitOne K (.type "NoneType") (.ref c_Tree) = some false)
    (ki_Tree_Fold : PySem.W.kitOne K (.ref c_Tree) (.ref c_Fold) = some false)
    (ki_bool_Fold : PySem.W.kitOne K (.type "bool") (.ref c_Fold) = some false)
    (ki_bool_Tree : PySem.W.kitOne K (.type "bool") (.ref c_Tree) = some false)
    (ki_dict_Fold : PySem.W.kitOne K (.type "dict") (.ref c_Fold) = some false)
    (ki_dict_Tree : PySem.W.kitOne K (.type "dict") (.ref c_Tree) = some false)
    (ki_int_Fold : PySem.W.kitOne K (.type "int") (.ref c_Fold) = some false)
    (ki_int_Tree : PySem.W.kitOne K (.type "int") (.ref c_Tree) = some false)
    (ki_list_Fold : PySem.W.kitOne K (.type "list") (.ref c_Fold) = some false)
    (ki_list_Tree : PySem.W.kitOne K (.type "list") (.ref c_Tree) = some false)
    (ki_str_Fold : PySem.W.kitOne K (.type "str") (.ref c_Fold) = some false)
    (ki_str_Tree : PySem.W.kitOne K (.type "str") (.ref c_Tree) = some false)
    (ki_tuple_Fold : PySem.W.kitOne K (.type "tuple") (.ref c_Fold) = some false)
    (ki_tuple_Tree : PySem.W.kitOne K (.type "tuple") (.ref c_Tree) = some false)
    (kt_Fold_Fold : PySem.W.kitOne K (.ref c_Fold) (.ref c_Fold) = some true)
    (kt_NoRow_NoRow : PySem.W.kitOne K (.ref c_NoRow) (.ref c_NoRow) = some true)
    (kt_Tree_Tree : PySem.W.kitOne K (.ref c_Tree) (.ref c_Tree) = some true)
    (na_Fold_o_held : PySem.W.findIn K (.ref c_Fold) "held" = some none)
    (na_Fold_o_roots : PySem.W.findIn K (.ref c_Fold) "roots" = some none)
    (na_Fold_o_shape : PySem.W.findIn K (.ref c_Fold) "shape" = some none)
    (na_NoColumn_o_name : PySem.W.findIn K (.ref c_NoColumn) "name" = some none)
    (na_NoFold_o_at : PySem.W.findIn K (.ref c_NoFold) "at" = some none)
    (na_NoRow_o_at : PySem.W.findIn K (.ref c_NoRow) "at" = some none)
    (na_NoTree_o_at : PySem.W.findIn K (.ref c_NoTree) "at" = some none)
    (na_Pool_o_held : PySem.W.findIn K (.ref c_Pool) "held" = some none)
    (na_Pool_o_numbers : PySem.W.findIn K (.ref c_Pool) "numbers" = some none)
    (na_Pool_o_shape : PySem.W.findIn K (.ref c_Pool) "shape" = some none)
    (na_TooMany_o_many : PySem.W.findIn K (.ref c_TooMany) "many" = some none)
    (na_Tree_o_kids : PySem.W.findIn K (.ref c_Tree) "kids" = some none)
    (na_Tree_o_order : PySem.W.findIn K (.ref c_Tree) "order" = some none)
    (na_Tree_o_overs : PySem.W.findIn K (.ref c_Tree) "overs" = some none)
    (nf_Fold_Fold : PySem.W.notFirst K c_Fold (.ref c_Fold) = true)
    (nf_Fold_NoneType : PySem.W.notFirst K c_Fold (.type "NoneType") = true)
    (nf_Fold_Tree : PySem.W.notFirst K c_Fold (.ref c_Tree) = true)
    (nf_Fold_list : PySem.W.notFirst K c_Fold (.type "list") = true)
    (nf_Tree_Tree : PySem.W.notFirst K c_Tree (.ref c_Tree) = true)
    (v_LETTERS : PySem.W.nsIn K mainGlobals "LETTERS" = some (some (.str "abcdefghijklmnopqrstuvwxyz" tk_LETTERS)))
    (v_LONGEST_NAME : PySem.W.nsIn K mainGlobals "LONGEST_NAME" = some (some (.int 8 tk_LONGEST_NAME)))
    (v_MOST_COLUMNS : PySem.W.nsIn K mainGlobals "MOST_COLUMNS" = some (some (.int 8 tk_MOST_COLUMNS)))
    (z_all : PySem.W.nsIn K mainGlobals "all" = some none)
    (z_bool : PySem.W.nsIn K mainGlobals "bool" = some none)
    (z_dict : PySem.W.nsIn K mainGlobals "dict" = some none)
    (z_enumerate : PySem.W.nsIn K mainGlobals "enumerate" = some none)
    (z_int : PySem.W.nsIn K mainGlobals "int" = some none)
    (z_isinstance : PySem.W.nsIn K mainGlobals "isinstance" = some none)
    (z_len : PySem.W.nsIn K mainGlobals "len" = some none)
    (z_list : PySem.W.nsIn K mainGlobals "list" = some none)
    (z_range : PySem.W.nsIn K mainGlobals "range" = some none)
    (z_reversed : PySem.W.nsIn K mainGlobals "reversed" = some none)
    (z_str : PySem.W.nsIn K mainGlobals "str" = some none)
    (z_sum : PySem.W.nsIn K mainGlobals "sum" = some none)
    (z_tuple : PySem.W.nsIn K mainGlobals "tuple" = some none)
    (z_zip : PySem.W.nsIn K mainGlobals "zip" = some none)
    (neq_Fold : PySem.W.findIn K (.ref c_Fold) "__ne__" = some (some (.builtin "object.__ne__")))
    (hmO_Fold : PySem.W.mroIn K c_Fold (.type "object") = some true)
    (hc_Fold : PySem.W.findIn K (.ref c_Fold) "__class__" = some (some (.builtin "object.__class__")))
    (neq_Tree : PySem.W.findIn K (.ref c_Tree) "__ne__" = some (some (.builtin "object.__ne__")))
    (hmO_Tree : PySem.W.mroIn K c_Tree (.type "object") = some true)
    (hc_Tree : PySem.W.findIn K (.ref c_Tree) "__class__" = some (some (.builtin "object.__class__"))) :
    ∃ fd : FuncData, (∀ (s : Shared) (v : Value), BindsTo s fd ⟨[v], []⟩ [("_law_script", v)]) ∧ ∀ base : Heap, K.In base → base.Ns mainGlobals mg → FnOk l.prog w K mg base CX0 90 fa fd ["_law_script"] (spL K) := by
  have e := hfa.symm.trans (PySem.W.mg_of X G a_law)
  cases e
  have T : Tx K mg ⟨c_FoldError, c_NoColumns, c_NoRow, c_NoTree, c_NoColumn, c_NoFold, c_TooMany, c_Fold, c_Pool, c_Tree, f_is_name, PySem.W.fnOf "is_name" "is_name" (defArgs s_is_name) (defBody s_is_name) (defScope s_is_name) .none kV_is_name dc_is_name pm_is_name an_is_name cd_is_name ct_is_name, f_is_value, PySem.W.fnOf "is_value" "is_value" (defArgs s_is_value) (defBody s_is_value) (defScope s_is_value) .none kV_is_value dc_is_value pm_is_value an_is_value cd_is_value ct_is_value, f_is_row, PySem.W.fnOf "is_row" "is_row" (defArgs s_is_row) (defBody s_is_row) (defScope s_is_row) .none kV_is_row dc_is_row pm_is_row an_is_row cd_is_row ct_is_row, f_want_row, PySem.W.fnOf "want_row" "want_row" (defArgs s_want_row) (defBody s_want_row) (defScope s_want_row) (.ref dT_want_row) kV_want_row dc_want_row pm_want_row an_want_row cd_want_row ct_want_row, f_product_at, PySem.W.fnOf "product_at" "product_at" (defArgs s_product_at) (defBody s_product_at) (defScope s_product_at) .none kV_product_at dc_product_at pm_product_at an_product_at cd_product_at ct_product_at, f_by_columns, PySem.W.fnOf "by_columns" "by_columns" (defArgs s_by_columns) (defBody s_by_columns) (defScope s_by_columns) .none kV_by_columns dc_by_columns pm_by_columns an_by_columns cd_by_columns ct_by_columns, f_counts_of, PySem.W.fnOf "counts_of" "counts_of" (defArgs s_counts_of) (defBody s_counts_of) (defScope s_counts_of) .none kV_counts_of dc_counts_of pm_counts_of an_counts_of cd_counts_of ct_counts_of, f_parts_at, PySem.W.fnOf "parts_at" "parts_at" (defArgs s_parts_at) (defBody s_parts_at) (defScope s_parts_at) .none kV_parts_at dc_parts_at pm_parts_at an_parts_at cd_parts_at ct_parts_at, f_holds, PySem.W.fnOf "holds" "holds" (defArgs s_holds) (defBody s_holds) (defScope s_holds) .none kV_holds dc_holds pm_holds an_holds cd_holds ct_holds, f_visit, PySem.W.fnOf "visit" "visit" (defArgs s_visit) (defBody s_visit) (defScope s_visit) .none kV_visit dc_visit pm_visit an_visit cd_visit ct_visit, f_moved, PySem.W.fnOf "moved" "moved" (defArgs s_moved) (defBody s_moved) (defScope s_moved) .none kV_moved dc_moved pm_moved an_moved cd_moved ct_moved, f_is_part, PySem.W.fnOf "is_part" "is_part" (defArgs s_is_part) (defBody s_is_part) (defScope s_is_part) .none kV_is_part dc_is_part pm_is_part an_is_part cd_is_part ct_is_part, f_is_bunch, PySem.W.fnOf "is_bunch" "is_bunch" (defArgs s_is_bunch) (defBody s_is_bunch) (defScope s_is_bunch) .none kV_is_bunch dc_is_bunch pm_is_bunch an_is_bunch cd_is_bunch ct_is_bunch, f_fold_of, PySem.W.fnOf "fold_of" "fold_of" (defArgs s_fold_of) (defBody s_fold_of) (defScope s_fold_of) .none kV_fold_of dc_fold_of pm_fold_of an_fold_of cd_fold_of ct_fold_of, f_at_places, PySem.W.fnOf "at_places" "at_places" (defArgs s_at_places) (defBody s_at_places) (defScope s_at_places) .none kV_at_places dc_at_places pm_at_places an_at_places cd_at_places ct_at_places, f_rows_at, PySem.W.fnOf "rows_at" "rows_at" (defArgs s_rows_at) (defBody s_rows_at) (defScope s_rows_at) .none kV_rows_at dc_rows_at pm_rows_at an_rows_at cd_rows_at ct_rows_at, f_rows_of_parts, PySem.W.fnOf "rows_of_parts" "rows_of_parts" (defArgs s_rows_of_parts) (defBody s_rows_of_parts) (defScope s_rows_of_parts) .none kV_rows_of_parts dc_rows_of_parts pm_rows_of_parts an_rows_of_parts cd_rows_of_parts ct_rows_of_parts, f_unfolded, PySem.W.fnOf "unfolded" "unfolded" (defArgs s_unfolded) (defBody s_unfolded) (defScope s_unfolded) (.ref dT_unfolded) kV_unfolded dc_unfolded pm_unfolded an_unfolded cd_unfolded ct_unfolded, f_is_pair, PySem.W.fnOf "is_pair" "is_pair" (defArgs s_is_pair) (defBody s_is_pair) (defScope s_is_pair) .none kV_is_pair dc_is_pair pm_is_pair an_is_pair cd_is_pair ct_is_pair, f_order_from, PySem.W.fnOf "order_from" "order_from" (defArgs s_order_from) (defBody s_order_from) (defScope s_order_from) .none kV_order_from dc_order_from pm_order_from an_order_from cd_order_from ct_order_from, f__law_well, PySem.W.fnOf "_law_well" "_law_well" (defArgs s__law_well) (defBody s__law_well) (defScope s__law_well) .none kV__law_well dc__law_well pm__law_well an__law_well cd__law_well ct__law_well, f__law_draw, PySem.W.fnOf "_law_draw" "_law_draw" (defArgs s__law_draw) (defBody s__law_draw) (defScope s__law_draw) .none kV__law_draw dc__law_draw pm__law_draw an__law_draw cd__law_draw ct__law_draw, f__law_names, PySem.W.fnOf "_law_names" "_law_names" (defArgs s__law_names) (defBody s__law_names) (defScope s__law_names) .none kV__law_names dc__law_names pm__law_names an__law_names cd__law_names ct__law_names, f__law_base, PySem.W.fnOf "_law_base" "_law_base" (defArgs s__law_base) (defBody s__law_base) (defScope s__law_base) .none kV__law_base dc__law_base pm__law_base an__law_base cd__law_base ct__law_base, f__law_pairs, PySem.W.fnOf "_law_pairs" "_law_pairs" (defArgs s__law_pairs) (defBody s__law_pairs) (defScope s__law_pairs) .none kV__law_pairs dc__law_pairs pm__law_pairs an__law_pairs cd__law_pairs ct__law_pairs, f__law_order, PySem.W.fnOf "_law_order" "_law_order" (defArgs s__law_order) (defBody s__law_order) (defScope s__law_order) .none kV__law_order dc__law_order pm__law_order an__law_order cd__law_order ct__law_order, f__law_bunch, PySem.W.fnOf "_law_bunch" "_law_bunch" (defArgs s__law_bunch) (defBody s__law_bunch) (defScope s__law_bunch) .none kV__law_bunch dc__law_bunch pm__law_bunch an__law_bunch cd__law_bunch ct__law_bunch, f__law_raw, PySem.W.fnOf "_law_raw" "_law_raw" (defArgs s__law_raw) (defBody s__law_raw) (defScope s__law_raw) .none kV__law_raw dc__law_raw pm__law_raw an__law_raw cd__law_raw ct__law_raw, f__law_shuffled, PySem.W.fnOf "_law_shuffled" "_law_shuffled" (defArgs s__law_shuffled) (defBody s__law_shuffled) (defScope s__law_shuffled) .none kV__law_shuffled dc__law_shuffled pm__law_shuffled an__law_shuffled cd__law_shuffled ct__law_shuffled, f__law_rows_of, PySem.W.fnOf "_law_rows_of" "_law_rows_of" (defArgs s__law_rows_of) (defBody s__law_rows_of) (defScope s__law_rows_of) .none kV__law_rows_of dc__law_rows_of pm__law_rows_of an__law_rows_of cd__law_rows_of ct__law_rows_of, f__law_refused, PySem.W.fnOf "_law_refused" "_law_refused" (defArgs s__law_refused) (defBody s__law_refused) (defScope s__law_refused) .none kV__law_refused dc__law_refused pm__law_refused an__law_refused cd__law_refused ct__law_refused, f__law_near, PySem.W.fnOf "_law_near" "_law_near" (defArgs s__law_near) (defBody s__law_near) (defScope s__law_near) .none kV__law_near dc__law_near pm__law_near an__law_near cd__law_near ct__law_near, f__law_right, PySem.W.fnOf "_law_right" "_law_right" (defArgs s__law_right) (defBody s__law_right) (defScope s__law_right) .none kV__law_right dc__law_right pm__law_right an__law_right cd__law_right ct__law_right, fa, PySem.W.fnOf "law" "law" (defArgs s_law) (defBody s_law) (defScope s_law) .none kV_law dc_law pm_law an_law cd_law ct_law, f_NoRow_o___init__, PySem.W.fnOf "__init__" "NoRow.__init__" (defArgs s_NoRow_o___init__) (defBody s_NoRow_o___init__) (defScope s_NoRow_o___init__) .none kV_NoRow_o___init__ dc_NoRow_o___init__ pm_NoRow_o___init__ an_NoRow_o___init__ cd_NoRow_o___init__ ct_NoRow_o___init__, f_NoTree_o___init__, PySem.W.fnOf "__init__" "NoTree.__init__" (defArgs s_NoTree_o___init__) (defBody s_NoTree_o___init__) (defScope s_NoTree_o___init__) .none kV_NoTree_o___init__ dc_NoTree_o___init__ pm_NoTree_o___init__ an_NoTree_o___init__ cd_NoTree_o___init__ ct_NoTree_o___init__, f_NoColumn_o___init__, PySem.W.fnOf "__init__" "NoColumn.__init__" (defArgs s_NoColumn_o___init__) (defBody s_NoColumn_o___init__) (defScope s_NoColumn_o___init__) .none kV_NoColumn_o___init__ dc_NoColumn_o___init__ pm_NoColumn_o___init__ an_NoColumn_o___init__ cd_NoColumn_o___init__ ct_NoColumn_o___init__, f_NoFold_o___init__, PySem.W.fnOf "__init__" "NoFold.__init__" (defArgs s_NoFold_o___init__) (defBody s_NoFold_o___init__) (defScope s_NoFold_o___init__) .none kV_NoFold_o___init__ dc_NoFold_o___init__ pm_NoFold_o___init__ an_NoFold_o___init__ cd_NoFold_o___init__ ct_NoFold_o___init__, f_TooMany_o___init__, PySem.W.fnOf "__init__" "TooMany.__init__" (defArgs s_TooMany_o___init__) (defBody s_TooMany_o___init__) (defScope s_TooMany_o___init__) .none kV_TooMany_o___init__ dc_TooMany_o___init__ pm_TooMany_o___init__ an_TooMany_o___init__ cd_TooMany_o___init__ ct_TooMany_o___init__, f_Fold_o___init__, PySem.W.fnOf "__init__" "Fold.__init__" (defArgs s_Fold_o___init__) (defBody s_Fold_o___init__) (defScope s_Fold_o___init__) .none kV_Fold_o___init__ dc_Fold_o___init__ pm_Fold_o___init__ an_Fold_o___init__ cd_Fold_o___init__ ct_Fold_o___init__, f_Fold_o___len__, PySem.W.fnOf "__len__" "Fold.__len__" (defArgs s_Fold_o___len__) (defBody s_Fold_o___len__) (defScope s_Fold_o___len__) .none kV_Fold_o___len__ dc_Fold_o___len__ pm_Fold_o___len__ an_Fold_o___len__ cd_Fold_o___len__ ct_Fold_o___len__, f_Fold_o___eq__, PySem.W.fnOf "__eq__" "Fold.__eq__" (defArgs s_Fold_o___eq__) (defBody s_Fold_o___eq__) (defScope s_Fold_o___eq__) .none kV_Fold_o___eq__ dc_Fold_o___eq__ pm_Fold_o___eq__ an_Fold_o___eq__ cd_Fold_o___eq__ ct_Fold_o___eq__, f_Fold_o___str__, PySem.W.fnOf "__str__" "Fold.__str__" (defArgs s_Fold_o___str__) (defBody s_Fold_o___str__) (defScope s_Fold_o___str__) .none kV_Fold_o___str__ dc_Fold_o___str__ pm_Fold_o___str__ an_Fold_o___str__ cd_Fold_o___str__ ct_Fold_o___str__, f_Fold_o_bunches, PySem.W.fnOf "bunches" "Fold.bunches" (defArgs s_Fold_o_bunches) (defBody s_Fold_o_bunches) (defScope s_Fold_o_bunches) .none kV_Fold_o_bunches dc_Fold_o_bunches pm_Fold_o_bunches an_Fold_o_bunches cd_Fold_o_bunches ct_Fold_o_bunches, f_Fold_o_tops, PySem.W.fnOf "tops" "Fold.tops" (defArgs s_Fold_o_tops) (defBody s_Fold_o_tops) (defScope s_Fold_o_tops) .none kV_Fold_o_tops dc_Fold_o_tops pm_Fold_o_tops an_Fold_o_tops cd_Fold_o_tops ct_Fold_o_tops, f_Fold_o_count, PySem.W.fnOf "count" "Fold.count" (defArgs s_Fold_o_count) (defBody s_Fold_o_count) (defScope s_Fold_o_count) .none kV_Fold_o_count dc_Fold_o_count pm_Fold_o_count an_Fold_o_count cd_Fold_o_count ct_Fold_o_count, f_Fold_o_weight, PySem.W.fnOf "weight" "Fold.weight" (defArgs s_Fold_o_weight) (defBody s_Fold_o_weight) (defScope s_Fold_o_weight) .none kV_Fold_o_weight dc_Fold_o_weight pm_Fold_o_weight an_Fold_o_weight cd_Fold_o_weight ct_Fold_o_weight, f_Fold_o_has, PySem.W.fnOf "has" "Fold.has" (defArgs s_Fold_o_has) (defBody s_Fold_o_has) (defScope s_Fold_o_has) .none kV_Fold_o_has dc_Fold_o_has pm_Fold_o_has an_Fold_o_has cd_Fold_o_has ct_Fold_o_has, f_Pool_o___init__, PySem.W.fnOf "__init__" "Pool.__init__" (defArgs s_Pool_o___init__) (defBody s_Pool_o___init__) (defScope s_Pool_o___init__) .none kV_Pool_o___init__ dc_Pool_o___init__ pm_Pool_o___init__ an_Pool_o___init__ cd_Pool_o___init__ ct_Pool_o___init__, f_Pool_o_put, PySem.W.fnOf "put" "Pool.put" (defArgs s_Pool_o_put) (defBody s_Pool_o_put) (defScope s_Pool_o_put) .none kV_Pool_o_put dc_Pool_o_put pm_Pool_o_put an_Pool_o_put cd_Pool_o_put ct_Pool_o_put, f_Pool_o_fold, PySem.W.fnOf "fold" "Pool.fold" (defArgs s_Pool_o_fold) (defBody s_Pool_o_fold) (defScope s_Pool_o_fold) .none kV_Pool_o_fold dc_Pool_o_fold pm_Pool_o_fold an_Pool_o_fold cd_Pool_o_fold ct_Pool_o_fold, f_Tree_o___init__, PySem.W.fnOf "__init__" "Tree.__init__" (defArgs s_Tree_o___init__) (defBody s_Tree_o___init__) (defScope s_Tree_o___init__) .none kV_Tree_o___init__ dc_Tree_o___init__ pm_Tree_o___init__ an_Tree_o___init__ cd_Tree_o___init__ ct_Tree_o___init__, f_Tree_o___len__, PySem.W.fnOf "__len__" "Tree.__len__" (defArgs s_Tree_o___len__) (defBody s_Tree_o___len__) (defScope s_Tree_o___len__) .none kV_Tree_o___len__ dc_Tree_o___len__ pm_Tree_o___len__ an_Tree_o___len__ cd_Tree_o___len__ ct_Tree_o___len__, f_Tree_o___eq__, PySem.W.fnOf "__eq__" "Tree.__eq__" (defArgs s_Tree_o___eq__) (defBody s_Tree_o___eq__) (defScope s_Tree_o___eq__) .none kV_Tree_o___eq__ dc_Tree_o___eq__ pm_Tree_o___eq__ an_Tree_o___eq__ cd_Tree_o___eq__ ct_Tree_o___eq__, f_Tree_o_want, PySem.W.fnOf "want" "Tree.want" (defArgs s_Tree_o_want) (defBody s_Tree_o_want) (defScope s_Tree_o_want) .none kV_Tree_o_want dc_Tree_o_want pm_Tree_o_want an_Tree_o_want cd_Tree_o_want ct_Tree_o_want, f_Tree_o_columns, PySem.W.fnOf "columns" "Tree.columns" (defArgs s_Tree_o_columns) (defBody s_Tree_o_columns) (defScope s_Tree_o_columns) .none kV_Tree_o_columns dc_Tree_o_columns pm_Tree_o_columns an_Tree_o_columns cd_Tree_o_columns ct_Tree_o_columns, f_Tree_o_pairs, PySem.W.fnOf "pairs" "Tree.pairs" (defArgs s_Tree_o_pairs) (defBody s_Tree_o_pairs) (defScope s_Tree_o_pairs) .none kV_Tree_o_pairs dc_Tree_o_pairs pm_Tree_o_pairs an_Tree_o_pairs cd_Tree_o_pairs ct_Tree_o_pairs, f_Tree_o_over, PySem.W.fnOf "over" "Tree.over" (defArgs s_Tree_o_over) (defBody s_Tree_o_over) (defScope s_Tree_o_over) .none kV_Tree_o_over dc_Tree_o_over pm_Tree_o_over an_Tree_o_over cd_Tree_o_over ct_Tree_o_over, f_Tree_o_above, PySem.W.fnOf "above" "Tree.above" (defArgs s_Tree_o_above) (defBody s_Tree_o_above) (defScope s_Tree_o_above) .none kV_Tree_o_above dc_Tree_o_above pm_Tree_o_above an_Tree_o_above cd_Tree_o_above ct_Tree_o_above, f_Tree_o_beneath, PySem.W.fnOf "beneath" "Tree.beneath" (defArgs s_Tree_o_beneath) (defBody s_Tree_o_beneath) (defScope s_Tree_o_beneath) .none kV_Tree_o_beneath dc_Tree_o_beneath pm_Tree_o_beneath an_Tree_o_beneath cd_Tree_o_beneath ct_Tree_o_beneath, f_Tree_o_children, PySem.W.fnOf "children" "Tree.children" (defArgs s_Tree_o_children) (defBody s_Tree_o_children) (defScope s_Tree_o_children) (.ref dT_Tree_o_children) kV_Tree_o_children dc_Tree_o_children pm_Tree_o_children an_Tree_o_children cd_Tree_o_children ct_Tree_o_children⟩ := {
    F_is_name := df_mk (st := s_is_name) l_is_name c1_is_name k1_is_name,
    g_is_name := PySem.W.mg_of X G a_is_name,
    k_is_name := k1_is_name,
    b_is_name := FunD.bindsN (ps := ["thing"]) (df_mk (st := s_is_name) l_is_name c1_is_name k1_is_name) fun _ _ _ _ _ _ us hl => match us, hl with | [_], _ => rfl,
    F_is_value := df_mk (st := s_is_value) l_is_value c1_is_value k1_is_value,
    g_is_value := PySem.W.mg_of X G a_is_value,
    k_is_value := k1_is_value,
    b_is_value := FunD.bindsN (ps := ["thing"]) (df_mk (st := s_is_value) l_is_value c1_is_value k1_is_value) fun _ _ _ _ _ _ us hl => match us, hl with | [_], _ => rfl,
    F_is_row := df_mk (st := s_is_row) l_is_row c1_is_row k1_is_row,
    g_is_row := PySem.W.mg_of X G a_is_row,
    k_is_row := k1_is_row,
    b_is_row := FunD.bindsN (ps := ["thing", "many"]) (df_mk (st := s_is_row) l_is_row c1_is_row k1_is_row) fun _ _ _ _ _ _ us hl => match us, hl with | [_, _], _ => rfl,
    F_want_row := df_mkD l_want_row c1_want_row k1_want_row ld_want_row (by simp) (.cons ⟨_, rfl⟩ .nil),
    g_want_row := PySem.W.mg_of X G a_want_row,
    k_want_row := k1_want_row,
    b_want_row := (by
    obtain ⟨ds, h1, h2⟩ := FunD.binds1 (ps := ["thing", "many", "at"]) (df_mkD (st := s_want_row) (dvs := [.int 0]) l_want_row c1_want_row k1_want_row ld_want_row (by simp) (.cons ⟨_, rfl⟩ .nil)) 3 1 (by simp) rfl fun _ _ _ _ _ _ _ us its h1 h2 => match us, h1, its, h2 with | [_, _, _], _, [_], _ => ⟨_, rfl, rfl⟩
    cases h1
    exact h2),
    bx1_want_row := FunD.binds1 (ps := ["thing", "many", "at"]) (df_mkD (st := s_want_row) (dvs := [.int 0]) l_want_row c1_want_row k1_want_row ld_want_row (by simp) (.cons ⟨_, rfl⟩ .nil)) 2 0 (by simp) rfl fun _ _ _ _ _ _ _ us its h1 h2 => match us, h1, its, h2 with | [_, _], _, [_], _ => ⟨_, rfl, rfl⟩,
    F_product_at := df_mk (st := s_product_at) l_product_at c1_product_at k1_product_at,
    g_product_at := PySem.W.mg_of X G a_product_at,
    k_product_at := k1_product_at,
    b_product_at := FunD.bindsN (ps := ["numbers", "parts"]) (df_mk (st := s_product_at) l_product_at c1_product_at k1_product_at) fun _ _ _ _ _ _ us hl => match us, hl with | [_, _], _ => rfl,
    F_by_columns := df_mk (st := s_by_columns) l_by_columns c1_by_columns k1_by_columns,
    g_by_columns := PySem.W.mg_of X G a_by_columns,
    k_by_columns := k1_by_columns,
    b_by_columns := FunD.bindsN (ps := ["fold"]) (df_mk (st := s_by_columns) l_by_columns c1_by_columns k1_by_columns) fun _ _ _ _ _ _ us hl => match us, hl with | [_], _ => rfl,
    F_counts_of := df_mk (st := s_counts_of) l_counts_of c1_counts_of k1_counts_of,
    g_counts_of := PySem.W.mg_of X G a_counts_of,
    k_counts_of := k1_counts_of,
    b_counts_of := FunD.bindsN (ps := ["fold"]) (df_mk (st := s_counts_of) l_counts_of c1_counts_of k1_counts_of) fun _ _ _ _ _ _ us hl => match us, hl with | [_], _ => rfl,
    F_parts_at := df_mk (st := s_parts_at) l_parts_at c1_parts_at k1_parts_at,
    g_parts_at := PySem.W.mg_of X G a_parts_at,
    k_parts_at := k1_parts_at,
    b_parts_at := FunD.bindsN (ps := ["fold", "number", "value"]) (df_mk (st := s_parts_at) l_parts_at c1_parts_at k1_parts_at) fun _ _ _ _ _ _ us hl => match us, hl with | [_, _, _], _ => rfl,
    F_holds := df_mk (st := s_holds) l_holds c1_holds k1_holds,
    g_holds := PySem.W.mg_of X G a_holds,
    k_holds := k1_holds,
    b_holds := FunD.bindsN (ps := ["fold", "number", "values"]) (df_mk (st := s_holds) l_holds c1_holds k1_holds) fun _ _ _ _ _ _ us hl => match us, hl with | [_, _, _], _ => rfl,
    F_visit := df_mk (st := s_visit) l_visit c1_visit k1_visit,
    g_visit := PySem.W.mg_of X G a_visit,
    k_visit := k1_visit,
    b_visit := FunD.bindsN (ps := ["held", "number", "places", "order"]) (df_mk (st := s_visit) l_visit c1_visit k1_visit) fun _ _ _ _ _ _ us hl => match us, hl with | [_, _, _, _], _ => rfl,
    F_moved := df_mk (st := s_moved) l_moved c1_moved k1_moved,
    g_moved := PySem.W.mg_of X G a_moved,
    k_moved := k1_moved,
    b_moved := FunD.bindsN (ps := ["parts", "places"]) (df_mk (st := s_moved) l_moved c1_moved k1_moved) fun _ _ _ _ _ _ us hl => match us, hl with | [_, _], _ => rfl,
    F_is_part := df_mk (st := s_is_part) l_is_part c1_is_part k1_is_part,
    g_is_part := PySem.W.mg_of X G a_is_part,
    k_is_part := k1_is_part,
    b_is_part := FunD.bindsN (ps := ["thing", "columns", "many", "bunches"]) (df_mk (st := s_is_part) l_is_part c1_is_part k1_is_part) fun _ _ _ _ _ _ us hl => match us, hl with | [_, _, _, _], _ => rfl,
    F_is_bunch := df_mk (st := s_is_bunch) l_is_bunch c1_is_bunch k1_is_bunch,
    g_is_bunch := PySem.W.mg_of X G a_is_bunch,
    k_is_bunch := k1_is_bunch,
    b_is_bunch := FunD.bindsN (ps := ["tree", "thing", "bunches"]) (df_mk (st := s_is_bunch) l_is_bunch c1_is_bunch k1_is_bunch) fun _ _ _ _ _ _ us hl => match us, hl with | [_, _, _], _ => rfl,
    F_fold_of := df_mk (st := s_fold_of) l_fold_of c1_fold_of k1_fold_of,
    g_fold_of := PySem.W.mg_of X G a_fold_of,
    k_fold_of := k1_fold_of,
    b_fold_of := FunD.bindsN (ps := ["tree", "bunches", "tops"]) (df_mk (st := s_fold_of) l_fold_of c1_fold_of k1_fold_of) fun _ _ _ _ _ _ us hl => match us, hl with | [_, _, _], _ => rfl,
    F_at_places := df_mk (st := s_at_places) l_at_places c1_at_places k1_at_places,
    g_at_places := PySem.W.mg_of X G a_at_places,
    k_at_places := k1_at_places,
    b_at_places := FunD.bindsN (ps := ["found", "parts"]) (df_mk (st := s_at_places) l_at_places c1_at_places k1_at_places) fun _ _ _ _ _ _ us hl => match us, hl with | [_, _], _ => rfl,
    F_rows_at := df_mk (st := s_rows_at) l_rows_at c1_rows_at k1_rows_at,
    g_rows_at := PySem.W.mg_of X G a_rows_at,
    k_rows_at := k1_rows_at,
    b_rows_at := FunD.bindsN (ps := ["fold", "number", "known"]) (df_mk (st := s_rows_at) l_rows_at c1_rows_at k1_rows_at) fun _ _ _ _ _ _ us hl => match us, hl with | [_, _, _], _ => rfl,
    F_rows_of_parts := df_mk (st := s_rows_of_parts) l_rows_of_parts c1_rows_of_parts k1_rows_of_parts,
    g_rows_of_parts := PySem.W.mg_of X G a_rows_of_parts,
    k_rows_of_parts := k1_rows_of_parts,
    b_rows_of_parts := FunD.bindsN (ps := ["fold", "parts", "known"]) (df_mk (st := s_rows_of_parts) l_rows_of_parts c1_rows_of_parts k1_rows_of_parts) fun _ _ _ _ _ _ us hl => match us, hl with | [_, _, _], _ => rfl,
    F_unfolded := df_mkD l_unfolded c1_unfolded k1_unfolded ld_unfolded (by simp) (.cons ⟨_, rfl⟩ .nil),
    g_unfolded := PySem.W.mg_of X G a_unfolded,
    k_unfolded := k1_unfolded,
    b_unfolded := (by
    obtain ⟨ds, h1, h2⟩ := FunD.binds1 (ps := ["fold", "most"]) (df_mkD (st := s_unfolded) (dvs := [.int 1000]) l_unfolded c1_unfolded k1_unfolded ld_unfolded (by simp) (.cons ⟨_, rfl⟩ .nil)) 2 1 (by simp) rfl fun _ _ _ _ _ _ _ us its h1 h2 => match us, h1, its, h2 with | [_, _], _, [_], _ => ⟨_, rfl, rfl⟩
    cases h1
    exact h2),
    bx1_unfolded := FunD.binds1 (ps := ["fold", "most"]) (df_mkD (st := s_unfolded) (dvs := [.int 1000]) l_unfolded c1_unfolded k1_unfolded ld_unfolded (by simp) (.cons ⟨_, rfl⟩ .nil)) 1 0 (by simp) rfl fun _ _ _ _ _ _ _ us its h1 h2 => match us, h1, its, h2 with | [_], _, [_], _ => ⟨_, rfl, rfl⟩,
    F_is_pair := df_mk (st := s_is_pair) l_is_pair c1_is_pair k1_is_pair,
    g_is_pair := PySem.W.mg_of X G a_is_pair,
    k_is_pair := k1_is_pair,
    b_is_pair := FunD.bindsN (ps := ["thing", "overs"]) (df_mk (st := s_is_pair) l_is_pair c1_is_pair k1_is_pair) fun _ _ _ _ _ _ us hl => match us, hl with | [_, _], _ => rfl,
    F_order_from := df_mk (st := s_order_from) l_order_from c1_order_from k1_order_from,
    g_order_from := PySem.W.mg_of X G a_order_from,
    k_order_from := k1_order_from,
    b_order_from := FunD.bindsN (ps := ["kids", "column"]) (df_mk (st := s_order_from) l_order_from c1_order_from k1_order_from) fun _ _ _ _ _ _ us hl => match us, hl with | [_, _], _ => rfl,
    F__law_well := df_mk (st := s__law_well) l__law_well c1__law_well k1__law_well,
    g__law_well := PySem.W.mg_of X G a__law_well,
    k__law_well := k1__law_well,
    b__law_well := FunD.bindsN (ps := ["_law_cell", "_law_k"]) (df_mk (st := s__law_well) l__law_well c1__law_well k1__law_well) fun _ _ _ _ _ _ us hl => match us, hl with | [_, _], _ => rfl,
    F__law_draw := df_mk (st := s__law_draw) l__law_draw c1__law_draw k1__law_draw,
    g__law_draw := PySem.W.mg_of X G a__law_draw,
    k__law_draw := k1__law_draw,
    b__law_draw := FunD.bindsN (ps := ["_law_well_here", "_law_top"]) (df_mk (st := s__law_draw) l__law_draw c1__law_draw k1__law_draw) fun _ _ _ _ _ _ us hl => match us, hl with | [_, _], _ => rfl,
    F__law_names := df_mk (st := s__law_names) l__law_names c1__law_names k1__law_names,
    g__law_names := PySem.W.mg_of X G a__law_names,
    k__law_names := k1__law_names,
    b__law_names := FunD.bindsN (ps := ["_law_well_here", "_law_count"]) (df_mk (st := s__law_names) l__law_names c1__law_names k1__law_names) fun _ _ _ _ _ _ us hl => match us, hl with | [_, _], _ => rfl,
    F__law_base := df_mk (st := s__law_base) l__law_base c1__law_base k1__law_base,
    g__law_base := PySem.W.mg_of X G a__law_base,
    k__law_base := k1__law_base,
    b__law_base := FunD.bindsN (ps := ["_law_well_here"]) (df_mk (st := s__law_base) l__law_base c1__law_base k1__law_base) fun _ _ _ _ _ _ us hl => match us, hl with | [_], _ => rfl,
    F__law_pairs := df_mk (st := s__law_pairs) l__law_pairs c1__law_pairs k1__law_pairs,
    g__law_pairs := PySem.W.mg_of X G a__law_pairs,
    k__law_pairs := k1__law_pairs,
    b__law_pairs := FunD.bindsN (ps := ["_law_well_here", "_law_names_here"]) (df_mk (st := s__law_pairs) l__law_pairs c1__law_pairs k1__law_pairs) fun _ _ _ _ _ _ us hl => match us, hl with | [_, _], _ => rfl,
    F__law_order := df_mk (st := s__law_order) l__law_order c1__law_order k1__law_order,
    g__law_order := PySem.W.mg_of X G a__law_order,
    k__law_order := k1__law_order,
    b__law_order := FunD.bindsN (ps := ["_law_pairs_here", "_law_over"]) (df_mk (st := s__law_order) l__law_order c1__law_order k1__law_order) fun _ _ _ _ _ _ us hl => match us, hl with | [_, _], _ => rfl,
    F__law_bunch := df_mk (st := s__law_bunch) l__law_bunch c1__law_bunch k1__law_bunch,
    g__law_bunch := PySem.W.mg_of X G a__law_bunch,
    k__law_bunch := k1__law_bunch,
    b__law_bunch := FunD.bindsN (ps := ["_law_well_here", "_law_pairs_here", "_law_made", "_law_name", "_law_base_here"]) (df_mk (st := s__law_bunch) l__law_bunch c1__law_bunch k1__law_bunch) fun _ _ _ _ _ _ us hl => match us, hl with | [_, _, _, _, _], _ => rfl,
    F__law_raw := df_mk (st := s__law_raw) l__law_raw c1__law_raw k1__law_raw,
    g__law_raw := PySem.W.mg_of X G a__law_raw,
    k__law_raw := k1__law_raw,
    b__law_raw := FunD.bindsN (ps := ["_law_well_here", "_law_pairs_here", "_law_base_here"]) (df_mk (st := s__law_raw) l__law_raw c1__law_raw k1__law_raw) fun _ _ _ _ _ _ us hl => match us, hl with | [_, _, _], _ => rfl,
    F__law_shuffled := df_mk (st := s__law_shuffled) l__law_shuffled c1__law_shuffled k1__law_shuffled,
    g__law_shuffled := PySem.W.mg_of X G a__law_shuffled,
    k__law_shuffled := k1__law_shuffled,
    b__law_shuffled := FunD.bindsN (ps := ["_law_well_here", "_law_made", "_law_roots"]) (df_mk (st := s__law_shuffled) l__law_shuffled c1__law_shuffled k1__law_shuffled) fun _ _ _ _ _ _ us hl => match us, hl with | [_, _, _], _ => rfl,
    F__law_rows_of := df_mk (st := s__law_rows_of) l__law_rows_of c1__law_rows_of k1__law_rows_of,
    g__law_rows_of := PySem.W.mg_of X G a__law_rows_of,
    k__law_rows_of := k1__law_rows_of,
    b__law_rows_of := FunD.bindsN (ps := ["_law_bunches", "_law_parts"]) (df_mk (st := s__law_rows_of) l__law_rows_of c1__law_rows_of k1__law_rows_of) fun _ _ _ _ _ _ us hl => match us, hl with | [_, _], _ => rfl,
    F__law_refused := df_mk (st := s__law_refused) l__law_refused c1__law_refused k1__law_refused,
    g__law_refused := PySem.W.mg_of X G a__law_refused,
    k__law_refused := k1__law_refused,
    b__law_refused := FunD.bindsN (ps := ["_law_fold", "_law_odd"]) (df_mk (st := s__law_refused) l__law_refused c1__law_refused k1__law_refused) fun _ _ _ _ _ _ us hl => match us, hl with | [_, _], _ => rfl,
    F__law_near := df_mk (st := s__law_near) l__law_near c1__law_near k1__law_near,
    g__law_near := PySem.W.mg_of X G a__law_near,
    k__law_near := k1__law_near,
    b__law_near := FunD.bindsN (ps := ["_law_well_here", "_law_line", "_law_base_here"]) (df_mk (st := s__law_near) l__law_near c1__law_near k1__law_near) fun _ _ _ _ _ _ us hl => match us, hl with | [_, _, _], _ => rfl,
    F__law_right := df_mk (st := s__law_right) l__law_right c1__law_right k1__law_right,
    g__law_right := PySem.W.mg_of X G a__law_right,
    k__law_right := k1__law_right,
    b__law_right := FunD.bindsN (ps := ["_law_well_here"]) (df_mk (st := s__law_right) l__law_right c1__law_right k1__law_right) fun _ _ _ _ _ _ us hl => match us, hl with | [_], _ => rfl,
    F_law := df_mk (st := s_law) l_law c1_law k1_law,
    g_law := PySem.W.mg_of X G a_law,
    k_law := k1_law,
    b_law := FunD.bindsN (ps := ["_law_script"]) (df_mk (st := s_law) l_law c1_law k1_law) fun _ _ _ _ _ _ us hl => match us, hl with | [_], _ => rfl,
    F_NoRow_o___init__ := df_mk (st := s_NoRow_o___init__) l_NoRow_o___init__ c1_NoRow_o___init__ k1_NoRow_o___init__,
    k_NoRow_o___init__ := k1_NoRow_o___init__,
    b_NoRow_o___init__ := FunD.bindsN (ps := ["self", "at"]) (df_mk (st := s_NoRow_o___init__) l_NoRow_o___init__ c1_NoRow_o___init__ k1_NoRow_o___init__) fun _ _ _ _ _ _ us hl => match us, hl with | [_, _], _ => rfl,
    F_NoTree_o___init__ := df_mk (st := s_NoTree_o___init__) l_NoTree_o___init__ c1_NoTree_o___init__ k1_NoTree_o___init__,
    k_NoTree_o___init__ := k1_NoTree_o___init__,
    b_NoTree_o___init__ := FunD.bindsN (ps := ["self", "at"]) (df_mk (st := s_NoTree_o___init__) l_NoTree_o___init__ c1_NoTree_o___init__ k1_NoTree_o___init__) fun _ _ _ _ _ _ us hl => match us, hl with | [_, _], _ => rfl,
    F_NoColumn_o___init__ := df_mk (st := s_NoColumn_o___init__) l_NoColumn_o___init__ c1_NoColumn_o___init__ k1_NoColumn_o___init__,
    k_NoColumn_o___init__ := k1_NoColumn_o___init__,
    b_NoColumn_o___init__ := FunD.bindsN (ps := ["self", "name"]) (df_mk (st := s_NoColumn_o___init__) l_NoColumn_o___init__ c1_NoColumn_o___init__ k1_NoColumn_o___init__) fun _ _ _ _ _ _ us hl => match us, hl with | [_, _], _ => rfl,
    F_NoFold_o___init__ := df_mk (st := s_NoFold_o___init__) l_NoFold_o___init__ c1_NoFold_o___init__ k1_NoFold_o___init__,
    k_NoFold_o___init__ := k1_NoFold_o___init__,
    b_NoFold_o___init__ := FunD.bindsN (ps := ["self", "at"]) (df_mk (st := s_NoFold_o___init__) l_NoFold_o___init__ c1_NoFold_o___init__ k1_NoFold_o___init__) fun _ _ _ _ _ _ us hl => match us, hl with | [_, _], _ => rfl,
    F_TooMany_o___init__ := df_mk (st := s_TooMany_o___init__) l_TooMany_o___init__ c1_TooMany_o___init__ k1_TooMany_o___init__,
    k_TooMany_o___init__ := k1_TooMany_o___init__,
    b_TooMany_o___init__ := FunD.bindsN (ps := ["self", "many"]) (df_mk (st := s_TooMany_o___init__) l_TooMany_o___init__ c1_TooMany_o___init__ k1_TooMany_o___init__) fun _ _ _ _ _ _ us hl => match us, hl with | [_, _], _ => rfl,
    F_Fold_o___init__ := df_mk (st := s_Fold_o___init__) l_Fold_o___init__ c1_Fold_o___init__ k1_Fold_o___init__,
    k_Fold_o___init__ := k1_Fold_o___init__,
    b_Fold_o___init__ := FunD.bindsN (ps := ["self", "tree", "bunches", "tops"]) (df_mk (st := s_Fold_o___init__) l_Fold_o___init__ c1_Fold_o___init__ k1_Fold_o___init__) fun _ _ _ _ _ _ us hl => match us, hl with | [_, _, _, _], _ => rfl,
    F_Fold_o___len__ := df_mk (st := s_Fold_o___len__) l_Fold_o___len__ c1_Fold_o___len__ k1_Fold_o___len__,
    k_Fold_o___len__ := k1_Fold_o___len__,
    b_Fold_o___len__ := FunD.bindsN (ps := ["self"]) (df_mk (st := s_Fold_o___len__) l_Fold_o___len__ c1_Fold_o___len__ k1_Fold_o___len__) fun _ _ _ _ _ _ us hl => match us, hl with | [_], _ => rfl,
    F_Fold_o___eq__ := df_mk (st := s_Fold_o___eq__) l_Fold_o___eq__ c1_Fold_o___eq__ k1_Fold_o___eq__,
    k_Fold_o___eq__ := k1_Fold_o___eq__,
    b_Fold_o___eq__ := FunD.bindsN (ps := ["self", "other"]) (df_mk (st := s_Fold_o___eq__) l_Fold_o___eq__ c1_Fold_o___eq__ k1_Fold_o___eq__) fun _ _ _ _ _ _ us hl => match us, hl with | [_, _], _ => rfl,
    F_Fold_o___str__ := df_mk (st := s_Fold_o___str__) l_Fold_o___str__ c1_Fold_o___str__ k1_Fold_o___str__,
    k_Fold_o___str__ := k1_Fold_o___str__,
    b_Fold_o___str__ := FunD.bindsN (ps := ["self"]) (df_mk (st := s_Fold_o___str__) l_Fold_o___str__ c1_Fold_o___str__ k1_Fold_o___str__) fun _ _ _ _ _ _ us hl => match us, hl with | [_], _ => rfl,
    F_Fold_o_bunches := df_mk (st := s_Fold_o_bunches) l_Fold_o_bunches c1_Fold_o_bunches k1_Fold_o_bunches,
    k_Fold_o_bunches := k1_Fold_o_bunches,
    b_Fold_o_bunches := FunD.bindsN (ps := ["self"]) (df_mk (st := s_Fold_o_bunches) l_Fold_o_bunches c1_Fold_o_bunches k1_Fold_o_bunches) fun _ _ _ _ _ _ us hl => match us, hl with | [_], _ => rfl,
    m_Fold_o_bunches := ⟨a_Fold_o_bunches, i1_Fold_o_bunches, k1_Fold_o_bunches⟩,
    F_Fold_o_tops := df_mk (st := s_Fold_o_tops) l_Fold_o_tops c1_Fold_o_tops k1_Fold_o_tops,
    k_Fold_o_tops := k1_Fold_o_tops,
    b_Fold_o_tops := FunD.bindsN (ps := ["self"]) (df_mk (st := s_Fold_o_tops) l_Fold_o_tops c1_Fold_o_tops k1_Fold_o_tops) fun _ _ _ _ _ _ us hl => match us, hl with | [_], _ => rfl,
    m_Fold_o_tops := ⟨a_Fold_o_tops, i1_Fold_o_tops, k1_Fold_o_tops⟩,
    F_Fold_o_count := df_mk (st := s_Fold_o_count) l_Fold_o_count c1_Fold_o_count k1_Fold_o_count,
    k_Fold_o_count := k1_Fold_o_count,
    b_Fold_o_count := FunD.bindsN (ps := ["self"]) (df_mk (st := s_Fold_o_count) l_Fold_o_count c1_Fold_o_count k1_Fold_o_count) fun _ _ _ _ _ _ us hl => match us, hl with | [_], _ => rfl,
    m_Fold_o_count := ⟨a_Fold_o_count, i1_Fold_o_count, k1_Fold_o_count⟩,
    F_Fold_o_weight := df_mk (st := s_Fold_o_weight) l_Fold_o_weight c1_Fold_o_weight k1_Fold_o_weight,
    k_Fold_o_weight := k1_Fold_o_weight,
    b_Fold_o_weight := FunD.bindsN (ps := ["self"]) (df_mk (st := s_Fold_o_weight) l_Fold_o_weight c1_Fold_o_weight k1_Fold_o_weight) fun _ _ _ _ _ _ us hl => match us, hl with | [_], _ => rfl,
    m_Fold_o_weight := ⟨a_Fold_o_weight, i1_Fold_o_weight, k1_Fold_o_weight⟩,
    F_Fold_o_has := df_mk (st := s_Fold_o_has) l_Fold_o_has c1_Fold_o_has k1_Fold_o_has,
    k_Fold_o_has := k1_Fold_o_has,
    b_Fold_o_has := FunD.bindsN (ps := ["self", "row"]) (df_mk (st := s_Fold_o_has) l_Fold_o_has c1_Fold_o_has k1_Fold_o_has) fun _ _ _ _ _ _ us hl => match us, hl with | [_, _], _ => rfl,
    m_Fold_o_has := ⟨a_Fold_o_has, i1_Fold_o_has, k1_Fold_o_has⟩,
    F_Pool_o___init__ := df_mk (st := s_Pool_o___init__) l_Pool_o___init__ c1_Pool_o___init__ k1_Pool_o___init__,
    k_Pool_o___init__ := k1_Pool_o___init__,
    b_Pool_o___init__ := FunD.bindsN (ps := ["self", "tree"]) (df_mk (st := s_Pool_o___init__) l_Pool_o___init__ c1_Pool_o___init__ k1_Pool_o___init__) fun _ _ _ _ _ _ us hl => match us, hl with | [_, _], _ => rfl,
    F_Pool_o_put := df_mk (st := s_Pool_o_put) l_Pool_o_put c1_Pool_o_put k1_Pool_o_put,
    k_Pool_o_put := k1_Pool_o_put,
    b_Pool_o_put := FunD.bindsN (ps := ["self", "column", "entries"]) (df_mk (st := s_Pool_o_put) l_Pool_o_put c1_Pool_o_put k1_Pool_o_put) fun _ _ _ _ _ _ us hl => match us, hl with | [_, _, _], _ => rfl,
    m_Pool_o_put := ⟨a_Pool_o_put, i1_Pool_o_put, k1_Pool_o_put⟩,
    F_Pool_o_fold := df_mk (st := s_Pool_o_fold) l_Pool_o_fold c1_Pool_o_fold k1_Pool_o_fold,
    k_Pool_o_fold := k1_Pool_o_fold,
    b_Pool_o_fold := FunD.bindsN (ps := ["self", "tops"]) (df_mk (st := s_Pool_o_fold) l_Pool_o_fold c1_Pool_o_fold k1_Pool_o_fold) fun _ _ _ _ _ _ us hl => match us, hl with | [_, _], _ => rfl,
    m_Pool_o_fold := ⟨a_Pool_o_fold, i1_Pool_o_fold, k1_Pool_o_fold⟩,
    F_Tree_o___init__ := df_mk (st := s_Tree_o___init__) l_Tree_o___init__ c1_Tree_o___init__ k1_Tree_o___init__,
    k_Tree_o___init__ := k1_Tree_o___init__,
    b_Tree_o___init__ := FunD.bindsN (ps := ["self", "pairs"]) (df_mk (st := s_Tree_o___init__) l_Tree_o___init__ c1_Tree_o___init__ k1_Tree_o___init__) fun _ _ _ _ _ _ us hl => match us, hl with | [_, _], _ => rfl,
    F_Tree_o___len__ := df_mk (st := s_Tree_o___len__) l_Tree_o___len__ c1_Tree_o___len__ k1_Tree_o___len__,
    k_Tree_o___len__ := k1_Tree_o___len__,
    b_Tree_o___len__ := FunD.bindsN (ps := ["self"]) (df_mk (st := s_Tree_o___len__) l_Tree_o___len__ c1_Tree_o___len__ k1_Tree_o___len__) fun _ _ _ _ _ _ us hl => match us, hl with | [_], _ => rfl,
    F_Tree_o___eq__ := df_mk (st := s_Tree_o___eq__) l_Tree_o___eq__ c1_Tree_o___eq__ k1_Tree_o___eq__,
    k_Tree_o___eq__ := k1_Tree_o___eq__,
    b_Tree_o___eq__ := FunD.bindsN (ps := ["self", "other"]) (df_mk (st := s_Tree_o___eq__) l_Tree_o___eq__ c1_Tree_o___eq__ k1_Tree_o___eq__) fun _ _ _ _ _ _ us hl => match us, hl with | [_, _], _ => rfl,
    F_Tree_o_want := df_mk (st := s_Tree_o_want) l_Tree_o_want c1_Tree_o_want k1_Tree_o_want,
    k_Tree_o_want := k1_Tree_o_want,
    b_Tree_o_want := FunD.bindsN (ps := ["self", "column"]) (df_mk (st := s_Tree_o_want) l_Tree_o_want c1_Tree_o_want k1_Tree_o_want) fun _ _ _ _ _ _ us hl => match us, hl with | [_, _], _ => rfl,
    m_Tree_o_want := ⟨a_Tree_o_want, i1_Tree_o_want, k1_Tree_o_want⟩,
    F_Tree_o_columns := df_mk (st := s_Tree_o_columns) l_Tree_o_columns c1_Tree_o_columns k1_Tree_o_columns,
    k_Tree_o_columns := k1_Tree_o_columns,
    b_Tree_o_columns := FunD.bindsN (ps := ["self"]) (df_mk (st := s_Tree_o_columns) l_Tree_o_columns c1_Tree_o_columns k1_Tree_o_columns) fun _ _ _ _ _ _ us hl => match us, hl with | [_], _ => rfl,
    m_Tree_o_columns := ⟨a_Tree_o_columns, i1_Tree_o_columns, k1_Tree_o_columns⟩,
    F_Tree_o_pairs := df_mk (st := s_Tree_o_pairs) l_Tree_o_pairs c1_Tree_o_pairs k1_Tree_o_pairs,
    k_Tree_o_pairs := k1_Tree_o_pairs,
    b_Tree_o_pairs := FunD.bindsN (ps := ["self"]) (df_mk (st := s_Tree_o_pairs) l_Tree_o_pairs c1_Tree_o_pairs k1_Tree_o_pairs) fun _ _ _ _ _ _ us hl => match us, hl with | [_], _ => rfl,
    m_Tree_o_pairs := ⟨a_Tree_o_pairs, i1_Tree_o_pairs, k1_Tree_o_pairs⟩,
    F_Tree_o_over := df_mk (st := s_Tree_o_over) l_Tree_o_over c1_Tree_o_over k1_Tree_o_over,
    k_Tree_o_over := k1_Tree_o_over,
    b_Tree_o_over := FunD.bindsN (ps := ["self", "column"]) (df_mk (st := s_Tree_o_over) l_Tree_o_over c1_Tree_o_over k1_Tree_o_over) fun _ _ _ _ _ _ us hl => match us, hl with | [_, _], _ => rfl,
    m_Tree_o_over := ⟨a_Tree_o_over, i1_Tree_o_over, k1_Tree_o_over⟩,
    F_Tree_o_above := df_mk (st := s_Tree_o_above) l_Tree_o_above c1_Tree_o_above k1_Tree_o_above,
    k_Tree_o_above := k1_Tree_o_above,
    b_Tree_o_above := FunD.bindsN (ps := ["self", "column"]) (df_mk (st := s_Tree_o_above) l_Tree_o_above c1_Tree_o_above k1_Tree_o_above) fun _ _ _ _ _ _ us hl => match us, hl with | [_, _], _ => rfl,
    F_Tree_o_beneath := df_mk (st := s_Tree_o_beneath) l_Tree_o_beneath c1_Tree_o_beneath k1_Tree_o_beneath,
    k_Tree_o_beneath := k1_Tree_o_beneath,
    b_Tree_o_beneath := FunD.bindsN (ps := ["self", "column"]) (df_mk (st := s_Tree_o_beneath) l_Tree_o_beneath c1_Tree_o_beneath k1_Tree_o_beneath) fun _ _ _ _ _ _ us hl => match us, hl with | [_, _], _ => rfl,
    F_Tree_o_children := df_mkD l_Tree_o_children c1_Tree_o_children k1_Tree_o_children ld_Tree_o_children (by simp) (.cons rfl .nil),
    k_Tree_o_children := k1_Tree_o_children,
    b_Tree_o_children := (by
    obtain ⟨ds, h1, h2⟩ := FunD.binds1 (ps := ["self", "column"]) (df_mkD (st := s_Tree_o_children) (dvs := [.non]) l_Tree_o_children c1_Tree_o_children k1_Tree_o_children ld_Tree_o_children (by simp) (.cons rfl .nil)) 2 1 (by simp) rfl fun _ _ _ _ _ _ _ us its h1 h2 => match us, h1, its, h2 with | [_, _], _, [_], _ => ⟨_, rfl, rfl⟩
    cases h1
    exact h2),
    bx1_Tree_o_children := FunD.binds1 (ps := ["self", "column"]) (df_mkD (st := s_Tree_o_children) (dvs := [.non]) l_Tree_o_children c1_Tree_o_children k1_Tree_o_children ld_Tree_o_children (by simp) (.cons rfl .nil)) 1 0 (by simp) rfl fun _ _ _ _ _ _ _ us its h1 h2 => match us, h1, its, h2 with | [_], _, [_], _ => ⟨_, rfl, rfl⟩,
    m_Tree_o_children := ⟨a_Tree_o_children, i1_Tree_o_children, k1_Tree_o_children⟩,
    gc_FoldError := PySem.W.mg_of X G gc_FoldError,
    sp_FoldError := sp_FoldError,
    rd_FoldError := rd_FoldError,
    fc_FoldError := fc_FoldError,
    gc_NoColumns := PySem.W.mg_of X G gc_NoColumns,
    gc_NoRow := PySem.W.mg_of X G gc_NoRow,
    ox_NoRow := ⟨⟨_, _, _, _, _, _, _, _, _, _, _, _, _, _, _, xL_NoRow, rv_NoRow⟩, sa_NoRow, eC_NoRow, tC_NoRow, kc_NoRow⟩,
    iC_NoRow := a_NoRow_o___init__,
    tI_NoRow := tI_NoRow,
    xc_NoRow := ⟨ga_NoRow, gg_NoRow, eC_NoRow, hd_NoRow, hc_NoRow, hnO, htO, hm_NoRow⟩,
    xf_NoRow := ⟨ga_NoRow, gg_NoRow, eC_NoRow, hd_NoRow⟩,
    gc_NoTree := PySem.W.mg_of X G gc_NoTree,
    ox_NoTree := ⟨⟨_, _, _, _, _, _, _, _, _, _, _, _, _, _, _, xL_NoTree, rv_NoTree⟩, sa_NoTree, eC_NoTree, tC_NoTree, kc_NoTree⟩,
    iC_NoTree := a_NoTree_o___init__,
    tI_NoTree := tI_NoTree,
    gc_NoColumn := PySem.W.mg_of X G gc_NoColumn,
    ox_NoColumn := ⟨⟨_, _, _, _, _, _, _, _, _, _, _, _, _, _, _, xL_NoColumn, rv_NoColumn⟩, sa_NoColumn, eC_NoColumn, tC_NoColumn, kc_NoColumn⟩,
    iC_NoColumn := a_NoColumn_o___init__,
    tI_NoColumn := tI_NoColumn,
    gc_NoFold := PySem.W.mg_of X G gc_NoFold,
    ox_NoFold := ⟨⟨_, _, _, _, _, _, _, _, _, _, _, _, _, _, _, xL_NoFold, rv_NoFold⟩, sa_NoFold, eC_NoFold, tC_NoFold, kc_NoFold⟩,
    iC_NoFold := a_NoFold_o___init__,
    tI_NoFold := tI_NoFold,
    gc_TooMany := PySem.W.mg_of X G gc_TooMany,
    ox_TooMany := ⟨⟨_, _, _, _, _, _, _, _, _, _, _, _, _, _, _, xL_TooMany, rv_TooMany⟩, sa_TooMany, eC_TooMany, tC_TooMany, kc_TooMany⟩,
    iC_TooMany := a_TooMany_o___init__,
    tI_TooMany := tI_TooMany,
    gc_Fold := PySem.W.mg_of X G gc_Fold,
    cl_Fold := ⟨pg_Fold, hd_Fold, po_Fold, sa_Fold⟩,
    mk_Fold := ⟨mk_Fold, a_Fold_o___init__, i1_Fold_o___init__, kc_Fold⟩,
    fl_Fold := a_Fold_o___len__,
    il_Fold := i1_Fold_o___len__,
    fs_Fold := a_Fold_o___str__,
    is_Fold := i1_Fold_o___str__,
    eq_Fold := ⟨a_Fold_o___eq__, neq_Fold, i1_Fold_o___eq__, hmO_Fold, ⟨pg_Fold, hd_Fold, po_Fold, sa_Fold⟩, hc_Fold, hnO, htO⟩,
    gc_Pool := PySem.W.mg_of X G gc_Pool,
    cl_Pool := ⟨pg_Pool, hd_Pool, po_Pool, sa_Pool⟩,
    mk_Pool := ⟨mk_Pool, a_Pool_o___init__, i1_Pool_o___init__, kc_Pool⟩,
    gc_Tree := PySem.W.mg_of X G gc_Tree,
    cl_Tree := ⟨pg_Tree, hd_Tree, po_Tree, sa_Tree⟩,
    mk_Tree := ⟨mk_Tree, a_Tree_o___init__, i1_Tree_o___init__, kc_Tree⟩,
    fl_Tree := a_Tree_o___len__,
    il_Tree := i1_Tree_o___len__,
    eq_Tree := ⟨a_Tree_o___eq__, neq_Tree, i1_Tree_o___eq__, hmO_Tree, ⟨pg_Tree, hd_Tree, po_Tree, sa_Tree⟩, hc_Tree, hnO, htO⟩,
    ex_NoRow_FoldError := ex_NoRow_FoldError,
    ki_NoRow_NoColumns := ki_NoRow_NoColumns,
    ki_NoneType_Fold := ki_NoneType_Fold,
    ki_NoneType_Tree := ki_NoneType_Tree,
    ki_Tree_Fold := ki_Tree_Fold,
    ki_bool_Fold := ki_bool_Fold,
    ki_bool_Tree := ki_bool_Tree,
    ki_dict_Fold := ki_dict_Fold,
    ki_dict_Tree := ki_dict_Tree,
    ki_int_Fold := ki_int_Fold,
    ki_int_Tree := ki_int_Tree,
    ki_list_Fold := ki_list_Fold,
    ki_list_Tree := ki_list_Tree,
    ki_str_Fold := ki_str_Fold,
    ki_str_Tree := ki_str_Tree,
    ki_tuple_Fold := ki_tuple_Fold,
    ki_tuple_Tree := ki_tuple_Tree,
    kt_Fold_Fold := kt_Fold_Fold,
    kt_NoRow_NoRow := kt_NoRow_NoRow,
    kt_Tree_Tree := kt_Tree_Tree,
    na_Fold_o_held := na_Fold_o_held,
    na_Fold_o_roots := na_Fold_o_roots,
    na_Fold_o_shape := na_Fold_o_shape,
    na_NoColumn_o_name := na_NoColumn_o_name,
    na_NoFold_o_at := na_NoFold_o_at,
    na_NoRow_o_at := na_NoRow_o_at,
    na_NoTree_o_at := na_NoTree_o_at,
    na_Pool_o_held := na_Pool_o_held,
    na_Pool_o_numbers := na_Pool_o_numbers,
    na_Pool_o_shape := na_Pool_o_shape,
    na_TooMany_o_many := na_TooMany_o_many,
    na_Tree_o_kids := na_Tree_o_kids,
    na_Tree_o_order := na_Tree_o_order,
    na_Tree_o_overs := na_Tree_o_overs,
    nf_Fold_Fold := nf_Fold_Fold,
    nf_Fold_NoneType := nf_Fold_NoneType,
    nf_Fold_Tree := nf_Fold_Tree,
    nf_Fold_list := nf_Fold_list,
    nf_Tree_Tree := nf_Tree_Tree,
    v_LETTERS := ⟨_, PySem.W.mg_of X G v_LETTERS, ⟨_, rfl⟩⟩,
    v_LONGEST_NAME := ⟨_, PySem.W.mg_of X G v_LONGEST_NAME, ⟨_, rfl⟩⟩,
    v_MOST_COLUMNS := ⟨_, PySem.W.mg_of X G v_MOST_COLUMNS, ⟨_, rfl⟩⟩,
    z_all := PySem.W.mg_none_of X G z_all,
    z_bool := PySem.W.mg_none_of X G z_bool,
    z_dict := PySem.W.mg_none_of X G z_dict,
    z_enumerate := PySem.W.mg_none_of X G z_enumerate,
    z_int := PySem.W.mg_none_of X G z_int,
    z_isinstance := PySem.W.mg_none_of X G z_isinstance,
    z_len := PySem.W.mg_none_of X G z_len,
    z_list := PySem.W.mg_none_of X G z_list,
    z_range := PySem.W.mg_none_of X G z_range,
    z_reversed := PySem.W.mg_none_of X G z_reversed,
    z_str := PySem.W.mg_none_of X G z_str,
    z_sum := PySem.W.mg_none_of X G z_sum,
    z_tuple := PySem.W.mg_none_of X G z_tuple,
    z_zip := PySem.W.mg_none_of X G z_zip }
  exact ⟨_, fun s v => .of_eq rfl, fun base _ _ => ok_law T⟩
end Law
open PySem PySem.W PyProof.Rows in
set_option maxRecDepth 100000 in
set_option maxHeartbeats 0 in
theorem PySem.Challenge.cw_foldbough_k20_rows_of_a_fold_holds : PySem.Challenge.rw_foldbough_k20_rows_of_a_fold.Holds := by
  w_on; o_law; k_head; (case hw => w_witness2)
  k_fill
  refine DL.walkL (l := PySem.Challenge.rw_foldbough_k20_rows_of_a_fold) (k := 90) ⟨rfl, by decide, by decide⟩ rfl rfl (fun w h Y => PySem.W.kIn_of Y) ?F
  case F =>
    intro w mg fa h KX G hmg
    refine' Law.all_mk KX G hmg ?gc_FoldError ?gc_NoColumns ?gc_NoRow ?gc_NoTree ?gc_NoColumn ?gc_NoFold ?gc_TooMany ?gc_Fold ?gc_Pool ?gc_Tree ?a_is_name ?a_is_value ?a_is_row ?a_want_row ?a_product_at ?a_by_columns ?a_counts_of ?a_parts_at ?a_holds ?a_visit ?a_moved ?a_is_part ?a_is_bunch ?a_fold_of ?a_at_places ?a_rows_at ?a_rows_of_parts ?a_unfolded ?a_is_pair ?a_order_from ?a__law_well ?a__law_draw ?a__law_names ?a__law_base ?a__law_pairs ?a__law_order ?a__law_bunch ?a__law_raw ?a__law_shuffled ?a__law_rows_of ?a__law_refused ?a__law_near ?a__law_right ?a_law ?a_NoRow_o___init__ ?a_NoTree_o___init__ ?a_NoColumn_o___init__ ?a_NoFold_o___init__ ?a_TooMany_o___init__ ?a_Fold_o___init__ ?a_Fold_o___len__ ?a_Fold_o___eq__ ?a_Fold_o___str__ ?a_Fold_o_bunches ?a_Fold_o_tops ?a_Fold_o_count ?a_Fold_o_weight ?a_Fold_o_has ?a_Pool_o___init__ ?a_Pool_o_put ?a_Pool_o_fold ?a_Tree_o___init__ ?a_Tree_o___len__ ?a_Tree_o___eq__ ?a_Tree_o_want ?a_Tree_o_columns ?a_Tree_o_pairs ?a_Tree_o_over ?a_Tree_o_above ?a_Tree_o_beneath ?a_Tree_o_children ?l_is_name ?l_is_value ?l_is_row ?l_want_row ?ld_want_row ?l_product_at ?l_by_columns ?l_counts_of ?l_parts_at ?l_holds ?l_visit ?l_moved ?l_is_part ?l_is_bunch ?l_fold_of ?l_at_places ?l_rows_at ?l_rows_of_parts ?l_unfolded ?ld_unfolded ?l_is_pair ?l_order_from ?l__law_well ?l__law_draw ?l__law_names ?l__law_base ?l__law_pairs ?l__law_order ?l__law_bunch ?l__law_raw ?l__law_shuffled ?l__law_rows_of ?l__law_refused ?l__law_near ?l__law_right ?l_law ?l_NoRow_o___init__ ?l_NoTree_o___init__ ?l_NoColumn_o___init__ ?l_NoFold_o___init__ ?l_TooMany_o___init__ ?l_Fold_o___init__ ?l_Fold_o___len__ ?l_Fold_o___eq__ ?l_Fold_o___str__ ?l_Fold_o_bunches ?l_Fold_o_tops ?l_Fold_o_count ?l_Fold_o_weight ?l_Fold_o_has ?l_Pool_o___init__ ?l_Pool_o_put ?l_Pool_o_fold ?l_Tree_o___init__ ?l_Tree_o___len__ ?l_Tree_o___eq__ ?l_Tree_o_want ?l_Tree_o_columns ?l_Tree_o_pairs ?l_Tree_o_over ?l_Tree_o_above ?l_Tree_o_beneath ?l_Tree_o_children ?ld_Tree_o_children ?c1_is_name ?k1_is_name ?c1_is_value ?k1_is_value ?c1_is_row ?k1_is_row ?c1_want_row ?k1_want_row ?c1_product_at ?k1_product_at ?c1_by_columns ?k1_by_columns ?c1_counts_of ?k1_counts_of ?c1_parts_at ?k1_parts_at ?c1_holds ?k1_holds ?c1_visit ?k1_visit ?c1_moved ?k1_moved ?c1_is_part ?k1_is_part ?c1_is_bunch ?k1_is_bunch ?c1_fold_of ?k1_fold_of ?c1_at_places ?k1_at_places ?c1_rows_at ?k1_rows_at ?c1_rows_of_parts ?k1_rows_of_parts ?c1_unfolded ?k1_unfolded ?c1_is_pair ?k1_is_pair ?c1_order_from ?k1_order_from ?c1__law_well ?k1__law_well ?c1__law_draw ?k1__law_draw ?c1__law_names ?k1__law_names ?c1__law_base ?k1__law_base ?c1__law_pairs ?k1__law_pairs ?c1__law_order ?k1__law_order ?c1__law_bunch ?k1__law_bunch ?c1__law_raw ?k1__law_raw ?c1__law_shuffled ?k1__law_shuffled ?c1__law_rows_of ?k1__law_rows_of ?c1__law_refused ?k1__law_refused ?c1__law_near ?k1__law_near ?c1__law_right ?k1__law_right ?c1_law ?k1_law ?c1_NoRow_o___init__ ?k1_NoRow_o___init__ ?c1_NoTree_o___init__ ?k1_NoTree_o___init__ ?c1_NoColumn_o___init__ ?k1_NoColumn_o___init__ ?c1_NoFold_o___init__ ?k1_NoFold_o___init__ ?c1_TooMany_o___init__ ?k1_TooMany_o___init__ ?c1_Fold_o___init__ ?k1_Fold_o___init__ ?i1_Fold_o___init__ ?c1_Fold_o___len__ ?k1_Fold_o___len__ ?i1_Fold_o___len__ ?c1_Fold_o___eq__ ?k1_Fold_o___eq__ ?i1_Fold_o___eq__ ?c1_Fold_o___str__ ?k1_Fold_o___str__ ?i1_Fold_o___str__ ?c1_Fold_o_bunches ?k1_Fold_o_bunches ?i1_Fold_o_bunches ?c1_Fold_o_tops ?k1_Fold_o_tops ?i1_Fold_o_tops ?c1_Fold_o_count ?k1_Fold_o_count ?i1_Fold_o_count ?c1_Fold_o_weight ?k1_Fold_o_weight ?i1_Fold_o_weight ?c1_Fold_o_has ?k1_Fold_o_has ?i1_Fold_o_has ?c1_Pool_o___init__ ?k1_Pool_o___init__ ?i1_Pool_o___init__ ?c1_Pool_o_put ?k1_Pool_o_put ?i1_Pool_o_put ?c1_Pool_o_fold ?k1_Pool_o_fold ?i1_Pool_o_fold ?c1_Tree_o___init__ ?k1_Tree_o___init__ ?i1_Tree_o___init__ ?c1_Tree_o___len__ ?k1_Tree_o___len__ ?i1_Tree_o___len__ ?c1_Tree_o___eq__ ?k1_Tree_o___eq__ ?i1_Tree_o___eq__ ?c1_Tree_o_want ?k1_Tree_o_want ?i1_Tree_o_want ?c1_Tree_o_columns ?k1_Tree_o_columns ?i1_Tree_o_columns ?c1_Tree_o_pairs ?k1_Tree_o_pairs ?i1_Tree_o_pairs ?c1_Tree_o_over ?k1_Tree_o_over ?i1_Tree_o_over ?c1_Tree_o_above ?k1_Tree_o_above ?i1_Tree_o_above ?c1_Tree_o_beneath ?k1_Tree_o_beneath ?i1_Tree_o_beneath ?c1_Tree_o_children ?k1_Tree_o_children ?i1_Tree_o_children ?sp_FoldError ?rd_FoldError ?fc_FoldError ?eC_NoRow ?tC_NoRow ?kc_NoRow ?xL_NoRow ?rv_NoRow ?sa_NoRow ?tI_NoRow ?ga_NoRow ?gg_NoRow ?hd_NoRow ?hc_NoRow ?hnO ?htO ?hm_NoRow ?eC_NoTree ?tC_NoTree ?kc_NoTree ?xL_NoTree ?rv_NoTree ?sa_NoTree ?tI_NoTree ?eC_NoColumn ?tC_NoColumn ?kc_NoColumn ?xL_NoColumn ?rv_NoColumn ?sa_NoColumn ?tI_NoColumn ?eC_NoFold ?tC_NoFold ?kc_NoFold ?xL_NoFold ?rv_NoFold ?sa_NoFold ?tI_NoFold ?eC_TooMany ?tC_TooMany ?kc_TooMany ?xL_TooMany ?rv_TooMany ?sa_TooMany ?tI_TooMany ?pg_Fold ?hd_Fold ?po_Fold ?sa_Fold ?mk_Fold ?kc_Fold ?pg_Pool ?hd_Pool ?po_Pool ?sa_Pool ?mk_Pool ?kc_Pool ?pg_Tree ?hd_Tree ?po_Tree ?sa_Tree ?mk_Tree ?kc_Tree ?ex_NoRow_FoldError ?ki_NoRow_NoColumns ?ki_NoneType_Fold ?ki_NoneType_Tree ?ki_Tree_Fold ?ki_bool_Fold ?ki_bool_Tree ?ki_dict_Fold ?ki_dict_Tree ?ki_int_Fold ?ki_int_Tree ?ki_list_Fold ?ki_list_Tree ?ki_str_Fold ?ki_str_Tree ?ki_tuple_Fold ?ki_tuple_Tree ?kt_Fold_Fold ?kt_NoRow_NoRow ?kt_Tree_Tree ?na_Fold_o_held ?na_Fold_o_roots ?na_Fold_o_shape ?na_NoColumn_o_name ?na_NoFold_o_at ?na_NoRow_o_at ?na_NoTree_o_at ?na_Pool_o_held ?na_Pool_o_numbers ?na_Pool_o_shape ?na_TooMany_o_many ?na_Tree_o_kids ?na_Tree_o_order ?na_Tree_o_overs ?nf_Fold_Fold ?nf_Fold_NoneType ?nf_Fold_Tree ?nf_Fold_list ?nf_Tree_Tree ?v_LETTERS ?v_LONGEST_NAME ?v_MOST_COLUMNS ?z_all ?z_bool ?z_dict ?z_enumerate ?z_int ?z_isinstance ?z_len ?z_list ?z_range ?z_reversed ?z_str ?z_sum ?z_tuple ?z_zip ?neq_Fold ?hmO_Fold ?hc_Fold ?neq_Tree ?hmO_Tree ?hc_Tree
    (case gc_FoldError => first | k_is | rfl | decide +kernel)
    (case gc_NoColumns => first | k_is | rfl | decide +kernel)
    (case gc_NoRow => first | k_is | rfl | decide +kernel)
    (case gc_NoTree => first | k_is | rfl | decide +kernel)
    (case gc_NoColumn => first | k_is | rfl | decide +kernel)
    (case gc_NoFold => first | k_is | rfl | decide +kernel)
    (case gc_TooMany => first | k_is | rfl | decide +kernel)
    (case gc_Fold => first | k_is | rfl | decide +kernel)
    (case gc_Pool => first | k_is | rfl | decide +kernel)
    (case gc_Tree => first | k_is | rfl | decide +kernel)
    (case a_is_name => first | k_is | rfl | decide +kernel)
    (case a_is_value => first | k_is | rfl | decide +kernel)
    (case a_is_row => first | k_is | rfl | decide +kernel)
    (case a_want_row => first | k_is | rfl | decide +kernel)
    (case a_product_at => first | k_is | rfl | decide +kernel)
    (case a_by_columns => first | k_is | rfl | decide +kernel)
    (case a_counts_of => first | k_is | rfl | decide +kernel)
    (case a_parts_at => first | k_is | rfl | decide +kernel)
    (case a_holds => first | k_is | rfl | decide +kernel)
    (case a_visit => first | k_is | rfl | decide +kernel)
    (case a_moved => first | k_is | rfl | decide +kernel)
    (case a_is_part => first | k_is | rfl | decide +kernel)
    (case a_is_bunch => first | k_is | rfl | decide +kernel)
    (case a_fold_of => first | k_is | rfl | decide +kernel)
    (case a_at_places => first | k_is | rfl | decide +kernel)
    (case a_rows_at => first | k_is | rfl | decide +kernel)
    (case a_rows_of_parts => first | k_is | rfl | decide +kernel)
    (case a_unfolded => first | k_is | rfl | decide +kernel)
    (case a_is_pair => first | k_is | rfl | decide +kernel)
    (case a_order_from => first | k_is | rfl | decide +kernel)
    (case a__law_well => first | k_is | rfl | decide +kernel)
    (case a__law_draw => first | k_is | rfl | decide +kernel)
    (case a__law_names => first | k_is | rfl | decide +kernel)
    (case a__law_base => first | k_is | rfl | decide +kernel)
    (case a__law_pairs => first | k_is | rfl | decide +kernel)
    (case a__law_order => first | k_is | rfl | decide +kernel)
    (case a__law_bunch => first | k_is | rfl | decide +kernel)
    (case a__law_raw => first | k_is | rfl | decide +kernel)
    (case a__law_shuffled => first | k_is | rfl | decide +kernel)
    (case a__law_rows_of => first | k_is | rfl | decide +kernel)
    (case a__law_refused => first | k_is | rfl | decide +kernel)
    (case a__law_near => first | k_is | rfl | decide +kernel)
    (case a__law_right => first | k_is | rfl | decide +kernel)
    (case a_law => first | k_is | rfl | decide +kernel)
    (case a_NoRow_o___init__ => first | k_is | rfl | decide +kernel)
    (case a_NoTree_o___init__ => first | k_is | rfl | decide +kernel)
    (case a_NoColumn_o___init__ => first | k_is | rfl | decide +kernel)
    (case a_NoFold_o___init__ => first | k_is | rfl | decide +kernel)
    (case a_TooMany_o___init__ => first | k_is | rfl | decide +kernel)
    (case a_Fold_o___init__ => first | k_is | rfl | decide +kernel)
    (case a_Fold_o___len__ => first | k_is | rfl | decide +kernel)
    (case a_Fold_o___eq__ => first | k_is | rfl | decide +kernel)
    (case a_Fold_o___str__ => first | k_is | rfl | decide +kernel)
    (case a_Fold_o_bunches => first | k_is | rfl | decide +kernel)
    (case a_Fold_o_tops => first | k_is | rfl | decide +kernel)
    (case a_Fold_o_count => first | k_is | rfl | decide +kernel)
    (case a_Fold_o_weight => first | k_is | rfl | decide +kernel)
    (case a_Fold_o_has => first | k_is | rfl | decide +kernel)
    (case a_Pool_o___init__ => first | k_is | rfl | decide +kernel)
    (case a_Pool_o_put => first | k_is | rfl | decide +kernel)
    (case a_Pool_o_fold => first | k_is | rfl | decide +kernel)
    (case a_Tree_o___init__ => first | k_is | rfl | decide +kernel)
    (case a_Tree_o___len__ => first | k_is | rfl | decide +kernel)
    (case a_Tree_o___eq__ => first | k_is | rfl | decide +kernel)
    (case a_Tree_o_want => first | k_is | rfl | decide +kernel)
    (case a_Tree_o_columns => first | k_is | rfl | decide +kernel)
    (case a_Tree_o_pairs => first | k_is | rfl | decide +kernel)
    (case a_Tree_o_over => first | k_is | rfl | decide +kernel)
    (case a_Tree_o_above => first | k_is | rfl | decide +kernel)
    (case a_Tree_o_beneath => first | k_is | rfl | decide +kernel)
    (case a_Tree_o_children => first | k_is | rfl | decide +kernel)
    (case l_is_name => first | k_is | rfl | decide +kernel)
    (case l_is_value => first | k_is | rfl | decide +kernel)
    (case l_is_row => first | k_is | rfl | decide +kernel)
    (case l_want_row => first | k_is | rfl | decide +kernel)
    (case ld_want_row => first | k_is | rfl | decide +kernel)
    (case l_product_at => first | k_is | rfl | decide +kernel)
    (case l_by_columns => first | k_is | rfl | decide +kernel)
    (case l_counts_of => first | k_is | rfl | decide +kernel)
    (case l_parts_at => first | k_is | rfl | decide +kernel)
    (case l_holds => first | k_is | rfl | decide +kernel)
    (case l_visit => first | k_is | rfl | decide +kernel)
    (case l_moved => first | k_is | rfl | decide +kernel)
    (case l_is_part => first | k_is | rfl | decide +kernel)
    (case l_is_bunch => first | k_is | rfl | decide +kernel)
    (case l_fold_of => first | k_is | rfl | decide +kernel)
    (case l_at_places => first | k_is | rfl | decide +kernel)
    (case l_rows_at => first | k_is | rfl | decide +kernel)
    (case l_rows_of_parts => first | k_is | rfl | decide +kernel)
    (case l_unfolded => first | k_is | rfl | decide +kernel)
    (case ld_unfolded => first | k_is | rfl | decide +kernel)
    (case l_is_pair => first | k_is | rfl | decide +kernel)
    (case l_order_from => first | k_is | rfl | decide +kernel)
    (case l__law_well => first | k_is | rfl | decide +kernel)
    (case l__law_draw => first | k_is | rfl | decide +kernel)
    (case l__law_names => first | k_is | rfl | decide +kernel)
    (case l__law_base => first | k_is | rfl | decide +kernel)
    (case l__law_pairs => first | k_is | rfl | decide +kernel)
    (case l__law_order => first | k_is | rfl | decide +kernel)
    (case l__law_bunch => first | k_is | rfl | decide +kernel)
    (case l__law_raw => first | k_is | rfl | decide +kernel)
    (case l__law_shuffled => first | k_is | rfl | decide +kernel)
    (case l__law_rows_of => first | k_is | rfl | decide +kernel)
    (case l__law_refused => first | k_is | rfl | decide +kernel)
    (case l__law_near => first | k_is | rfl | decide +kernel)
    (case l__law_right => first | k_is | rfl | decide +kernel)
    (case l_law => first | k_is | rfl | decide +kernel)
    (case l_NoRow_o___init__ => first | k_is | rfl | decide +kernel)
    (case l_NoTree_o___init__ => first | k_is | rfl | decide +kernel)
    (case l_NoColumn_o___init__ => first | k_is | rfl | decide +kernel)
    (case l_NoFold_o___init__ => first | k_is | rfl | decide +kernel)
    (case l_TooMany_o___init__ => first | k_is | rfl | decide +kernel)
    (case l_Fold_o___init__ => first | k_is | rfl | decide +kernel)
    (case l_Fold_o___len__ => first | k_is | rfl | decide +kernel)
    (case l_Fold_o___eq__ => first | k_is | rfl | decide +kernel)
    (case l_Fold_o___str__ => first | k_is | rfl | decide +kernel)
    (case l_Fold_o_bunches => first | k_is | rfl | decide +kernel)
    (case l_Fold_o_tops => first | k_is | rfl | decide +kernel)
    (case l_Fold_o_count => first | k_is | rfl | decide +kernel)
    (case l_Fold_o_weight => first | k_is | rfl | decide +kernel)
    (case l_Fold_o_has => first | k_is | rfl | decide +kernel)
    (case l_Pool_o___init__ => first | k_is | rfl | decide +kernel)
    (case l_Pool_o_put => first | k_is | rfl | decide +kernel)
    (case l_Pool_o_fold => first | k_is | rfl | decide +kernel)
    (case l_Tree_o___init__ => first | k_is | rfl | decide +kernel)
    (case l_Tree_o___len__ => first | k_is | rfl | decide +kernel)
    (case l_Tree_o___eq__ => first | k_is | rfl | decide +kernel)
    (case l_Tree_o_want => first | k_is | rfl | decide +kernel)
    (case l_Tree_o_columns => first | k_is | rfl | decide +kernel)
    (case l_Tree_o_pairs => first | k_is | rfl | decide +kernel)
    (case l_Tree_o_over => first | k_is | rfl | decide +kernel)
    (case l_Tree_o_above => first | k_is | rfl | decide +kernel)
    (case l_Tree_o_beneath => first | k_is | rfl | decide +kernel)
    (case l_Tree_o_children => first | k_is | rfl | decide +kernel)
    (case ld_Tree_o_children => first | k_is | rfl | decide +kernel)
    (case c1_is_name => first | k_is | rfl | decide +kernel)
    (case k1_is_name => first | k_is | rfl | decide +kernel)
    (case c1_is_value => first | k_is | rfl | decide +kernel)
    (case k1_is_value => first | k_is | rfl | decide +kernel)
    (case c1_is_row => first | k_is | rfl | decide +kernel)
    (case k1_is_row => first | k_is | rfl | decide +kernel)
    (case c1_want_row => first | k_is | rfl | decide +kernel)
    (case k1_want_row => first | k_is | rfl | decide +kernel)
    (case c1_product_at => first | k_is | rfl | decide +kernel)
    (case k1_product_at => first | k_is | rfl | decide +kernel)
    (case c1_by_columns => first | k_is | rfl | decide +kernel)
    (case k1_by_columns => first | k_is | rfl | decide +kernel)
    (case c1_counts_of => first | k_is | rfl | decide +kernel)
    (case k1_counts_of => first | k_is | rfl | decide +kernel)
    (case c1_parts_at => first | k_is | rfl | decide +kernel)
    (case k1_parts_at => first | k_is | rfl | decide +kernel)
    (case c1_holds => first | k_is | rfl | decide +kernel)
    (case k1_holds => first | k_is | rfl | decide +kernel)
    (case c1_visit => first | k_is | rfl | decide +kernel)
    (case k1_visit => first | k_is | rfl | decide +kernel)
    (case c1_moved => first | k_is | rfl | decide +kernel)
    (case k1_moved => first | k_is | rfl | decide +kernel)
    (case c1_is_part => first | k_is | rfl | decide +kernel)
    (case k1_is_part => first | k_is | rfl | decide +kernel)
    (case c1_is_bunch => first | k_is | rfl | decide +kernel)
    (case k1_is_bunch => first | k_is | rfl | decide +kernel)
    (case c1_fold_of => first | k_is | rfl | decide +kernel)
    (case k1_fold_of => first | k_is | rfl | decide +kernel)
    (case c1_at_places => first | k_is | rfl | decide +kernel)
    (case k1_at_places => first | k_is | rfl | decide +kernel)
    (case c1_rows_at => first | k_is | rfl | decide +kernel)
    (case k1_rows_at => first | k_is | rfl | decide +kernel)
    (case c1_rows_of_parts => first | k_is | rfl | decide +kernel)
    (case k1_rows_of_parts => first | k_is | rfl | decide +kernel)
    (case c1_unfolded => first | k_is | rfl | decide +kernel)
    (case k1_unfolded => first | k_is | rfl | decide +kernel)
    (case c1_is_pair => first | k_is | rfl | decide +kernel)
    (case k1_is_pair => first | k_is | rfl | decide +kernel)
    (case c1_order_from => first | k_is | rfl | decide +kernel)
    (case k1_order_from => first | k_is | rfl | decide +kernel)
    (case c1__law_well => first | k_is | rfl | decide +kernel)
    (case k1__law_well => first | k_is | rfl | decide +kernel)
    (case c1__law_draw => first | k_is | rfl | decide +kernel)
    (case k1__law_draw => first | k_is | rfl | decide +kernel)
    (case c1__law_names => first | k_is | rfl | decide +kernel)
    (case k1__law_names => first | k_is | rfl | decide +kernel)
    (case c1__law_base => first | k_is | rfl | decide +kernel)
    (case k1__law_base => first | k_is | rfl | decide +kernel)
    (case c1__law_pairs => first | k_is | rfl | decide +kernel)
    (case k1__law_pairs => first | k_is | rfl | decide +kernel)
    (case c1__law_order => first | k_is | rfl | decide +kernel)
    (case k1__law_order => first | k_is | rfl | decide +kernel)
    (case c1__law_bunch => first | k_is | rfl | decide +kernel)
    (case k1__law_bunch => first | k_is | rfl | decide +kernel)
    (case c1__law_raw => first | k_is | rfl | decide +kernel)
    (case k1__law_raw => first | k_is | rfl | decide +kernel)
    (case c1__law_shuffled => first | k_is | rfl | decide +kernel)
    (case k1__law_shuffled => first | k_is | rfl | decide +kernel)
    (case c1__law_rows_of => first | k_is | rfl | decide +kernel)
    (case k1__law_rows_of => first | k_is | rfl | decide +kernel)
    (case c1__law_refused => first | k_is | rfl | decide +kernel)
    (case k1__law_refused => first | k_is | rfl | decide +kernel)
    (case c1__law_near => first | k_is | rfl | decide +kernel)
    (case k1__law_near => first | k_is | rfl | decide +kernel)
    (case c1__law_right => first | k_is | rfl | decide +kernel)
    (case k1__law_right => first | k_is | rfl | decide +kernel)
    (case c1_law => first | k_is | rfl | decide +kernel)
    (case k1_law => first | k_is | rfl | decide +kernel)
    (case c1_NoRow_o___init__ => first | k_is | rfl | decide +kernel)
    (case k1_NoRow_o___init__ => first | k_is | rfl | decide +kernel)
    (case c1_NoTree_o___init__ => first | k_is | rfl | decide +kernel)
    (case k1_NoTree_o___init__ => first | k_is | rfl | decide +kernel)
    (case c1_NoColumn_o___init__ => first | k_is | rfl | decide +kernel)
    (case k1_NoColumn_o___init__ => first | k_is | rfl | decide +kernel)
    (case c1_NoFold_o___init__ => first | k_is | rfl | decide +kernel)
    (case k1_NoFold_o___init__ => first | k_is | rfl | decide +kernel)
    (case c1_TooMany_o___init__ => first | k_is | rfl | decide +kernel)
    (case k1_TooMany_o___init__ => first | k_is | rfl | decide +kernel)
    (case c1_Fold_o___init__ => first | k_is | rfl | decide +kernel)
    (case k1_Fold_o___init__ => first | k_is | rfl | decide +kernel)
    (case i1_Fold_o___init__ => first | k_is | rfl | decide +kernel)
    (case c1_Fold_o___len__ => first | k_is | rfl | decide +kernel)
    (case k1_Fold_o___len__ => first | k_is | rfl | decide +kernel)
    (case i1_Fold_o___len__ => first | k_is | rfl | decide +kernel)
    (case c1_Fold_o___eq__ => first | k_is | rfl | decide +kernel)
    (case k1_Fold_o___eq__ => first | k_is | rfl | decide +kernel)
    (case i1_Fold_o___eq__ => first | k_is | rfl | decide +kernel)
    (case c1_Fold_o___str__ => first | k_is | rfl | decide +kernel)
    (case k1_Fold_o___str__ => first | k_is | rfl | decide +kernel)
    (case i1_Fold_o___str__ => first | k_is | rfl | decide +kernel)
    (case c1_Fold_o_bunches => first | k_is | rfl | decide +kernel)
    (case k1_Fold_o_bunches => first | k_is | rfl | decide +kernel)
    (case i1_Fold_o_bunches => first | k_is | rfl | decide +kernel)
    (case c1_Fold_o_tops => first | k_is | rfl | decide +kernel)
    (case k1_Fold_o_tops => first | k_is | rfl | decide +kernel)
    (case i1_Fold_o_tops => first | k_is | rfl | decide +kernel)
    (case c1_Fold_o_count => first | k_is | rfl | decide +kernel)
    (case k1_Fold_o_count => first | k_is | rfl | decide +kernel)
    (case i1_Fold_o_count => first | k_is | rfl | decide +kernel)
    (case c1_Fold_o_weight => first | k_is | rfl | decide +kernel)
    (case k1_Fold_o_weight => first | k_is | rfl | decide +kernel)
    (case i1_Fold_o_weight => first | k_is | rfl | decide +kernel)
    (case c1_Fold_o_has => first | k_is | rfl | decide +kernel)
    (case k1_Fold_o_has => first | k_is | rfl | decide +kernel)
    (case i1_Fold_o_has => first | k_is | rfl | decide +kernel)
    (case c1_Pool_o___init__ => first | k_is | rfl | decide +kernel)
    (case k1_Pool_o___init__ => first | k_is | rfl | decide +kernel)
    (case i1_Pool_o___init__ => first | k_is | rfl | decide +kernel)
    (case c1_Pool_o_put => first | k_is | rfl | decide +kernel)
    (case k1_Pool_o_put => first | k_is | rfl | decide +kernel)
    (case i1_Pool_o_put => first | k_is | rfl | decide +kernel)
    (case c1_Pool_o_fold => first | k_is | rfl | decide +kernel)
    (case k1_Pool_o_fold => first | k_is | rfl | decide +kernel)
    (case i1_Pool_o_fold => first | k_is | rfl | decide +kernel)
    (case c1_Tree_o___init__ => first | k_is | rfl | decide +kernel)
    (case k1_Tree_o___init__ => first | k_is | rfl | decide +kernel)
    (case i1_Tree_o___init__ => first | k_is | rfl | decide +kernel)
    (case c1_Tree_o___len__ => first | k_is | rfl | decide +kernel)
    (case k1_Tree_o___len__ => first | k_is | rfl | decide +kernel)
    (case i1_Tree_o___len__ => first | k_is | rfl | decide +kernel)
    (case c1_Tree_o___eq__ => first | k_is | rfl | decide +kernel)
    (case k1_Tree_o___eq__ => first | k_is | rfl | decide +kernel)
    (case i1_Tree_o___eq__ => first | k_is | rfl | decide +kernel)
    (case c1_Tree_o_want => first | k_is | rfl | decide +kernel)
    (case k1_Tree_o_want => first | k_is | rfl | decide +kernel)
    (case i1_Tree_o_want => first | k_is | rfl | decide +kernel)
    (case c1_Tree_o_columns => first | k_is | rfl | decide +kernel)
    (case k1_Tree_o_columns => first | k_is | rfl | decide +kernel)
    (case i1_Tree_o_columns => first | k_is | rfl | decide +kernel)
    (case c1_Tree_o_pairs => first | k_is | rfl | decide +kernel)
    (case k1_Tree_o_pairs => first | k_is | rfl | decide +kernel)
    (case i1_Tree_o_pairs => first | k_is | rfl | decide +kernel)
    (case c1_Tree_o_over => first | k_is | rfl | decide +kernel)
    (case k1_Tree_o_over => first | k_is | rfl | decide +kernel)
    (case i1_Tree_o_over => first | k_is | rfl | decide +kernel)
    (case c1_Tree_o_above => first | k_is | rfl | decide +kernel)
    (case k1_Tree_o_above => first | k_is | rfl | decide +kernel)
    (case i1_Tree_o_above => first | k_is | rfl | decide +kernel)
    (case c1_Tree_o_beneath => first | k_is | rfl | decide +kernel)
    (case k1_Tree_o_beneath => first | k_is | rfl | decide +kernel)
    (case i1_Tree_o_beneath => first | k_is | rfl | decide +kernel)
    (case c1_Tree_o_children => first | k_is | rfl | decide +kernel)
    (case k1_Tree_o_children => first | k_is | rfl | decide +kernel)
    (case i1_Tree_o_children => first | k_is | rfl | decide +kernel)
    (case sp_FoldError => first | k_is | rfl | decide +kernel)
    (case rd_FoldError => first | k_is | rfl | decide +kernel)
    (case fc_FoldError => first | k_is | rfl | decide +kernel)
    (case eC_NoRow => first | k_is | rfl | decide +kernel)
    (case tC_NoRow => first | k_is | rfl | decide +kernel)
    (case kc_NoRow => first | k_is | rfl | decide +kernel)
    (case xL_NoRow => first | k_is | rfl | decide +kernel)
    (case rv_NoRow => decide +kernel)
    (case sa_NoRow => first | k_is | rfl | decide +kernel)
    (case tI_NoRow => first | k_is | rfl | decide +kernel)
    (case ga_NoRow => first | k_is | rfl | decide +kernel)
    (case gg_NoRow => first | k_is | rfl | decide +kernel)
    (case hd_NoRow => first | k_is | rfl | decide +kernel)
    (case hc_NoRow => first | k_is | rfl | decide +kernel)
    (case hnO => first | k_is | rfl | decide +kernel)
    (case htO => first | k_is | rfl | decide +kernel)
    (case hm_NoRow => first | k_is | rfl | decide +kernel)
    (case eC_NoTree => first | k_is | rfl | decide +kernel)
    (case tC_NoTree => first | k_is | rfl | decide +kernel)
    (case kc_NoTree => first | k_is | rfl | decide +kernel)
    (case xL_NoTree => first | k_is | rfl | decide +kernel)
    (case rv_NoTree => decide +kernel)
    (case sa_NoTree => first | k_is | rfl | decide +kernel)
    (case tI_NoTree => first | k_is | rfl | decide +kernel)
    (case eC_NoColumn => first | k_is | rfl | decide +kernel)
    (case tC_NoColumn => first | k_is | rfl | decide +kernel)
    (case kc_NoColumn => first | k_is | rfl | decide +kernel)
    (case xL_NoColumn => first | k_is | rfl | decide +kernel)
    (case rv_NoColumn => decide +kernel)
    (case sa_NoColumn => first | k_is | rfl | decide +kernel)
    (case tI_NoColumn => first | k_is | rfl | decide +kernel)
    (case eC_NoFold => first | k_is | rfl | decide +kernel)
    (case tC_NoFold => first | k_is | rfl | decide +kernel)
    (case kc_NoFold => first | k_is | rfl | decide +kernel)
    (case xL_NoFold => first | k_is | rfl | decide +kernel)
    (case rv_NoFold => decide +kernel)
    (case sa_NoFold => first | k_is | rfl | decide +kernel)
    (case tI_NoFold => first | k_is | rfl | decide +kernel)
    (case eC_TooMany => first | k_is | rfl | decide +kernel)
    (case tC_TooMany => first | k_is | rfl | decide +kernel)
    (case kc_TooMany => first | k_is | rfl | decide +kernel)
    (case xL_TooMany => first | k_is | rfl | decide +kernel)
    (case rv_TooMany => decide +kernel)
    (case sa_TooMany => first | k_is | rfl | decide +kernel)
    (case tI_TooMany => first | k_is | rfl | decide +kernel)
    (case pg_Fold => first | k_is | rfl | decide +kernel)
    (case hd_Fold => first | k_is | rfl | decide +kernel)
    (case po_Fold => first | k_is | rfl | decide +kernel)
    (case sa_Fold => first | k_is | rfl | decide +kernel)
    (case mk_Fold => first | k_is | rfl | decide +kernel)
    (case kc_Fold => first | k_is | rfl | decide +kernel)
    (case pg_Pool => first | k_is | rfl | decide +kernel)
    (case hd_Pool => first | k_is | rfl | decide +kernel)
    (case po_Pool => first | k_is | rfl | decide +kernel)
    (case sa_Pool => first | k_is | rfl | decide +kernel)
    (case mk_Pool => first | k_is | rfl | decide +kernel)
    (case kc_Pool => first | k_is | rfl | decide +kernel)
    (case pg_Tree => first | k_is | rfl | decide +kernel)
    (case hd_Tree => first | k_is | rfl | decide +kernel)
    (case po_Tree => first | k_is | rfl | decide +kernel)
    (case sa_Tree => first | k_is | rfl | decide +kernel)
    (case mk_Tree => first | k_is | rfl | decide +kernel)
    (case kc_Tree => first | k_is | rfl | decide +kernel)
    (case ex_NoRow_FoldError => first | k_is | rfl | decide +kernel)
    (case ki_NoRow_NoColumns => first | k_is | rfl | decide +kernel)
    (case ki_NoneType_Fold => first | k_is | rfl | decide +kernel)
    (case ki_NoneType_Tree => first | k_is | rfl | decide +kernel)
    (case ki_Tree_Fold => first | k_is | rfl | decide +kernel)
    (case ki_bool_Fold => first | k_is | rfl | decide +kernel)
    (case ki_bool_Tree => first | k_is | rfl | decide +kernel)
    (case ki_dict_Fold => first | k_is | rfl | decide +kernel)
    (case ki_dict_Tree => first | k_is | rfl | decide +kernel)
    (case ki_int_Fold => first | k_is | rfl | decide +kernel)
    (case ki_int_Tree => first | k_is | rfl | decide +kernel)
    (case ki_list_Fold => first | k_is | rfl | decide +kernel)
    (case ki_list_Tree => first | k_is | rfl | decide +kernel)
    (case ki_str_Fold => first | k_is | rfl | decide +kernel)
    (case ki_str_Tree => first | k_is | rfl | decide +kernel)
    (case ki_tuple_Fold => first | k_is | rfl | decide +kernel)
    (case ki_tuple_Tree => first | k_is | rfl | decide +kernel)
    (case kt_Fold_Fold => first | k_is | rfl | decide +kernel)
    (case kt_NoRow_NoRow => first | k_is | rfl | decide +kernel)
    (case kt_Tree_Tree => first | k_is | rfl | decide +kernel)
    (case na_Fold_o_held => first | k_is | rfl | decide +kernel)
    (case na_Fold_o_roots => first | k_is | rfl | decide +kernel)
    (case na_Fold_o_shape => first | k_is | rfl | decide +kernel)
    (case na_NoColumn_o_name => first | k_is | rfl | decide +kernel)
    (case na_NoFold_o_at => first | k_is | rfl | decide +kernel)
    (case na_NoRow_o_at => first | k_is | rfl | decide +kernel)
    (case na_NoTree_o_at => first | k_is | rfl | decide +kernel)
    (case na_Pool_o_held => first | k_is | rfl | decide +kernel)
    (case na_Pool_o_numbers => first | k_is | rfl | decide +kernel)
    (case na_Pool_o_shape => first | k_is | rfl | decide +kernel)
    (case na_TooMany_o_many => first | k_is | rfl | decide +kernel)
    (case na_Tree_o_kids => first | k_is | rfl | decide +kernel)
    (case na_Tree_o_order => first | k_is | rfl | decide +kernel)
    (case na_Tree_o_overs => first | k_is | rfl | decide +kernel)
    (case nf_Fold_Fold => first | k_is | rfl | decide +kernel)
    (case nf_Fold_NoneType => first | k_is | rfl | decide +kernel)
    (case nf_Fold_Tree => first | k_is | rfl | decide +kernel)
    (case nf_Fold_list => first | k_is | rfl | decide +kernel)
    (case nf_Tree_Tree => first | k_is | rfl | decide +kernel)
    (case v_LETTERS => first | k_is | rfl | decide +kernel)
    (case v_LONGEST_NAME => first | k_is | rfl | decide +kernel)
    (case v_MOST_COLUMNS => first | k_is | rfl | decide +kernel)
    (case z_all => first | k_is | rfl | decide +kernel)
    (case z_bool => first | k_is | rfl | decide +kernel)
    (case z_dict => first | k_is | rfl | decide +kernel)
    (case z_enumerate => first | k_is | rfl | decide +kernel)
    (case z_int => first | k_is | rfl | decide +kernel)
    (case z_isinstance => first | k_is | rfl | decide +kernel)
    (case z_len => first | k_is | rfl | decide +kernel)
    (case z_list => first | k_is | rfl | decide +kernel)
    (case z_range => first | k_is | rfl | decide +kernel)
    (case z_reversed => first | k_is | rfl | decide +kernel)
    (case z_str => first | k_is | rfl | decide +kernel)
    (case z_sum => first | k_is | rfl | decide +kernel)
    (case z_tuple => first | k_is | rfl | decide +kernel)
    (case z_zip => first | k_is | rfl | decide +kernel)
    (case neq_Fold => first | k_is | rfl | decide +kernel)
    (case hmO_Fold => first | k_is | rfl | decide +kernel)
    (case hc_Fold => first | k_is | rfl | decide +kernel)
    (case neq_Tree => first | k_is | rfl | decide +kernel)
    (case hmO_Tree => first | k_is | rfl | decide +kernel)
    (case hc_Tree => first | k_is | rfl | decide +kernel)
