import PyProof.Rows.All
import Wide.All
import OpenK.AllK
import Wide.FinOn
import HandS.ForMost
import HandS.ExcInit
import HandS.IsInst
import HandS.TryOnly
import HandS.WordsExc
import KE.KDictCopyH
import HandS.Lambda
import HandS.CallSlots
import HandS.Deep
import HandS.ExcField
import HandS.ExcIs
import KE.KExcIs
import HandS.TupSets
import HandS.SortOrd
import HandS.Defaults
import HandS.MakeKw
import HandS.StrMore
import HandS.SortInts
import HandS.MakeKwOnly
import HandS.Style
import HandS.Steps
import HandS.TupMul
import HandS.Set
import PyProof.Tail
import PyProof.FactsAll.set_1
import PyProof.FactsAll.subtypes_5
import HandS.FStr
import HandS.RaiseMore
import KE.KCallOwn
import HandS.Iter
import HandS.Zip
import KE.GoesZip
import KE.GoesMore
import KE.KDictPairs
import KE.KDictZip
import KE.GoesEnumKw
import PyProof.Rows.StrStep
import KE.KNestM
import HandS.EndTab
import KE.KEqDict
import PySem.Challenge.RW_foldbough_k03_rows_put_in_and_taken_out
set_option Elab.async false
set_option linter.all false
set_option maxRecDepth 100000
set_option maxHeartbeats 2000000
/-! DL1: data as values. DV: a value with all its frozen data; Mu: the cells that may change. -/
namespace DL
open PySem PySem.Spec PyProof.Rows L2

/-- what a proof stands in: the program, the world, the written part -/
structure Wd where
  P : Program
  w : World
  K : PySem.W.Frag

inductive DV where
  | v (x : V)
  | tup (xs : List DV)
  | lst (xs : List DV)
  | obj (C : Addr) (ns : List Str) (xs : List DV)
  | dk (ks : List Key) (xs : List DV)
  | dl (ks : List Leaf) (xs : List DV)
  | fn (q : Str) (o : Addr → Addr → HO)

abbrev DV.i (n : Int) : DV := .v (.int n)
abbrev DV.s (x : Str) : DV := .v (.str x)
abbrev DV.b (k : Bool) : DV := .v (.bl k)
abbrev DV.n : DV := .v .non
abbrev DV.r (a : Addr) : DV := .v (.ref a)

/-- a dict whose keys are None, ints and texts, by any key kind's rules -/
def leafO (W : Wd) (a : Addr) (kvs : List (Leaf × V)) : HO := .ext fun h => kvs.length ≤ sizeLine ∧ (a == sysModules) = false ∧ ∃ us, KV kvs us ∧ h.DictOf (leafKind W.P W.w) a us

mutual
def Dat (W : Wd) (G : Hp) : DV → V → Prop
  | .v x, y => y = x
  | .tup ds, y => ∃ a xs, y = .ref a ∧ SqT W.K G a xs ∧ DatL W G ds xs
  | .lst ds, y => ∃ a xs, y = .ref a ∧ G a = some (.lst xs) ∧ DatL W G ds xs
  | .obj C ns ds, y => ∃ a dx xs, y = .ref a ∧ G a = some (.ins C dx (ns.zip xs)) ∧ ns.length = ds.length ∧ DatL W G ds xs
  | .dk ks ds, y => ∃ a xs, y = .ref a ∧ Rd G a (.dK (ks.zip xs)) ∧ ks.length = ds.length ∧ DatL W G ds xs
  | .dl ks ds, y => ∃ a xs, y = .ref a ∧ G a = some (leafO W a (ks.zip xs)) ∧ ks.length = ds.length ∧ DatL W G ds xs
  | .fn q o, y => ∃ a c, y = .ref a ∧ G a = some (o a c) ∧ G c = some (LamX.CodeO c q)
def DatL (W : Wd) (G : Hp) : List DV → List V → Prop
  | [], ys => ys = []
  | d :: ds, ys => ∃ y r, ys = y :: r ∧ Dat W G d y ∧ DatL W G ds r
end

inductive MO where
  | lst (xs : List DV)
  | ins (C : Addr) (ns : List Str) (xs : List DV)
  | dk (ks : List Key) (xs : List DV)
  | dl (ks : List Leaf) (xs : List DV)
  | pre (P : List DV → Prop)
  | tab (q : Str)
abbrev Mu := Addr → Option MO
def updM (M : Mu) (a : Addr) (o : MO) : Mu := fun b => if b = a then some o else M b
def delM (M : Mu) (a : Addr) : Mu := fun b => if b = a then none else M b
theorem updM_same {M : Mu} {a : Addr} {o : MO} : updM M a o a = some o := if_pos rfl
theorem updM_ne {M : Mu} {a b : Addr} {o : MO} (h : b ≠ a) : updM M a o b = M b := if_neg h
theorem updM_upd {M : Mu} {a : Addr} {o u : MO} : updM (updM M a o) a u = updM M a u := by
  funext b; unfold updM; split <;> rfl
theorem delM_same {M : Mu} {a : Addr} : delM M a a = none := if_pos rfl
theorem delM_ne {M : Mu} {a b : Addr} (h : b ≠ a) : delM M a b = M b := if_neg h
theorem delM_updM {M : Mu} {a : Addr} {o : MO} (h : M a = none) : delM (updM M a o) a = M := by
  funext b; unfold delM updM
  by_cases e : b = a
  · rw [if_pos e, e, h]
  · rw [if_neg e, if_neg e]

def MAt (W : Wd) (G H : Hp) (a : Addr) : MO → Prop
  | .lst ds => ∃ xs, H a = some (.lst xs) ∧ DatL W G ds xs
  | .ins C ns ds => ∃ dx xs, H a = some (.ins C dx (ns.zip xs)) ∧ ns.length = ds.length ∧ DatL W G ds xs
  | .dk ks ds => ∃ xs, H a = some (.dK (ks.zip xs)) ∧ ks.length = ds.length ∧ DatL W G ds xs
  | .dl ks ds => ∃ xs, H a = some (leafO W a (ks.zip xs)) ∧ ks.length = ds.length ∧ DatL W G ds xs
  | .pre P => ∃ ds xs, P ds ∧ H a = some (.lst xs) ∧ DatL W G ds xs
  | .tab q => ∃ ps : Array Value, H a = some (.tbl ps) ∧ TriplesOk ps.toList ∧ ∀ pos cv, codeAmong pos ps.toList = some cv → ∃ c, cv = .ref c ∧ G c = some (LamX.CodeO c q)

structure Rep (W : Wd) (G : Hp) (M : Mu) (F H : Hp) : Prop where
  ex : Same G H
  fr : Same F H
  fd : ∀ a o, F a = some o → G a = none ∧ M a = none
  mu : ∀ a o, M a = some o → G a = none ∧ MAt W G H a o

theorem Rd.same {G G' : Hp} {a : Addr} {u : HO} (e : Same G G') (h : Rd G a u) : Rd G' a u := by
  rcases h with h | ⟨o, h⟩
  · exact .inl (e _ _ h)
  · exact .inr ⟨o, e _ _ h⟩
theorem sql_mono {K : PySem.W.Frag} {G G' : Hp} {a : Addr} {xs : List V} (e : Same G G') (h : SqL K G a xs) : SqL K G' a xs := by
  rcases h with h | h
  · exact .inl (Rd.same e h)
  · exact .inr h
theorem sqt_mono {K : PySem.W.Frag} {G G' : Hp} {a : Addr} {xs : List V} (e : Same G G') (h : SqT K G a xs) : SqT K G' a xs := by
  rcases h with h | h
  · exact .inl (Rd.same e h)
  · exact .inr h
section
variable {W : Wd} {G G' : Hp}
mutual
theorem Dat.mono (e : Same G G') : ∀ {d : DV} {y : V}, Dat W G d y → Dat W G' d y
  | .v x, y, h => by simpa only [Dat] using h
  | .tup ds, y, h => by
    simp only [Dat] at h ⊢
    obtain ⟨a, xs, h1, h2, h3⟩ := h
    exact ⟨a, xs, h1, sqt_mono e h2, DatL.mono e h3⟩
  | .lst ds, y, h => by
    simp only [Dat] at h ⊢
    obtain ⟨a, xs, h1, h2, h3⟩ := h
    exact ⟨a, xs, h1, e _ _ h2, DatL.mono e h3⟩
  | .obj C ns ds, y, h => by
    simp only [Dat] at h ⊢
    obtain ⟨a, dx, xs, h1, h2, h3, h4⟩ := h
    exact ⟨a, dx, xs, h1, e _ _ h2, h3, DatL.mono e h4⟩
  | .dk ks ds, y, h => by
    simp only [Dat] at h ⊢
    obtain ⟨a, xs, h1, h2, h3, h4⟩ := h
    exact ⟨a, xs, h1, Rd.same e h2, h3, DatL.mono e h4⟩
  | .dl ks ds, y, h => by
    simp only [Dat] at h ⊢
    obtain ⟨a, xs, h1, h2, h3, h4⟩ := h
    exact ⟨a, xs, h1, e _ _ h2, h3, DatL.mono e h4⟩
  | .fn q o, y, h => by
    simp only [Dat] at h ⊢
    obtain ⟨a, c, h1, h2, h3⟩ := h
    exact ⟨a, c, h1, e _ _ h2, e _ _ h3⟩
theorem DatL.mono (e : Same G G') : ∀ {ds : List DV} {ys : List V}, DatL W G ds ys → DatL W G' ds ys
  | [], ys, h => by simpa only [DatL] using h
  | d :: ds, ys, h => by
    simp only [DatL] at h ⊢
    obtain ⟨y, r, h1, h2, h3⟩ := h
    exact ⟨y, r, h1, Dat.mono e h2, DatL.mono e h3⟩
end
theorem dat_v {x y : V} : Dat W G (.v x) y ↔ y = x := by simp only [Dat]
theorem dat_v' {x : V} : Dat W G (.v x) x := dat_v.mpr rfl
theorem dat_tup {ds : List DV} {y : V} : Dat W G (.tup ds) y ↔ ∃ a xs, y = .ref a ∧ SqT W.K G a xs ∧ DatL W G ds xs := by simp only [Dat]
theorem dat_lst {ds : List DV} {y : V} : Dat W G (.lst ds) y ↔ ∃ a xs, y = .ref a ∧ G a = some (.lst xs) ∧ DatL W G ds xs := by simp only [Dat]
theorem dat_obj {C : Addr} {ns : List Str} {ds : List DV} {y : V} : Dat W G (.obj C ns ds) y ↔ ∃ a dx xs, y = .ref a ∧ G a = some (.ins C dx (ns.zip xs)) ∧ ns.length = ds.length ∧ DatL W G ds xs := by simp only [Dat]
theorem dat_dk {ks : List Key} {ds : List DV} {y : V} : Dat W G (.dk ks ds) y ↔ ∃ a xs, y = .ref a ∧ Rd G a (.dK (ks.zip xs)) ∧ ks.length = ds.length ∧ DatL W G ds xs := by simp only [Dat]
theorem dat_dl {ks : List Leaf} {ds : List DV} {y : V} : Dat W G (.dl ks ds) y ↔ ∃ a xs, y = .ref a ∧ G a = some (leafO W a (ks.zip xs)) ∧ ks.length = ds.length ∧ DatL W G ds xs := by simp only [Dat]
theorem dat_fn {q : Str} {o : Addr → Addr → HO} {y : V} : Dat W G (.fn q o) y ↔ ∃ a c, y = .ref a ∧ G a = some (o a c) ∧ G c = some (LamX.CodeO c q) := by simp only [Dat]
theorem datL_nil {ys : List V} : DatL W G [] ys ↔ ys = [] := by simp only [DatL]
theorem datL_nil' : DatL W G [] [] := datL_nil.mpr rfl
theorem datL_cons {d : DV} {ds : List DV} {ys : List V} : DatL W G (d :: ds) ys ↔ ∃ y r, ys = y :: r ∧ Dat W G d y ∧ DatL W G ds r := by simp only [DatL]
theorem datL_cons' {d : DV} {ds : List DV} {y : V} {ys : List V} (h : Dat W G d y) (t : DatL W G ds ys) : DatL W G (d :: ds) (y :: ys) := datL_cons.mpr ⟨y, ys, rfl, h, t⟩
theorem DatL.length : ∀ {ds : List DV} {ys : List V}, DatL W G ds ys → ys.length = ds.length
  | [], ys, h => by rw [datL_nil.mp h]; rfl
  | d :: ds, ys, h => by
    obtain ⟨y, r, e, _, t⟩ := datL_cons.mp h
    rw [e, List.length_cons, List.length_cons, DatL.length t]
theorem DatL.append : ∀ {ds es : List DV} {xs ys : List V}, DatL W G ds xs → DatL W G es ys → DatL W G (ds ++ es) (xs ++ ys)
  | [], es, xs, ys, h, k => by rw [datL_nil.mp h]; exact k
  | d :: ds, es, xs, ys, h, k => by
    obtain ⟨y, r, e, a, t⟩ := datL_cons.mp h
    rw [e]
    exact datL_cons' a (DatL.append t k)
theorem DatL.get : ∀ {ds : List DV} {ys : List V} {i : Nat} {d : DV}, DatL W G ds ys → ds[i]? = some d → ∃ y, ys[i]? = some y ∧ Dat W G d y
  | [], ys, i, d, h, e => by simp at e
  | d :: ds, ys, 0, d', h, e => by
    obtain ⟨y, r, e1, a, t⟩ := datL_cons.mp h
    simp at e
    subst e e1
    exact ⟨y, rfl, a⟩
  | d :: ds, ys, i + 1, d', h, e => by
    obtain ⟨y, r, e1, a, t⟩ := datL_cons.mp h
    subst e1
    obtain ⟨z, e2, hz⟩ := DatL.get (i := i) t (by simpa using e)
    exact ⟨z, by simpa using e2, hz⟩
theorem DatL.getV : ∀ {ds : List DV} {ys : List V} {i : Nat} {y : V}, DatL W G ds ys → ys[i]? = some y → ∃ d, ds[i]? = some d ∧ Dat W G d y := fun {ds ys i y} h e => by
  have hl := h.length
  have hi : i < ds.length := by rw [← hl]; exact (List.getElem?_eq_some_iff.mp e).1
  obtain ⟨z, e2, hz⟩ := h.get (List.getElem?_eq_getElem hi)
  rw [e] at e2
  cases e2
  exact ⟨_, List.getElem?_eq_getElem hi, hz⟩
theorem DatL.set : ∀ {ds : List DV} {ys : List V} {d : DV} {y : V} (i : Nat), DatL W G ds ys → Dat W G d y → DatL W G (ds.set i d) (ys.set i y)
  | [], ys, d, y, i, h, k => by rw [datL_nil.mp h]; exact datL_nil'
  | e :: ds, ys, d, y, 0, h, k => by
    obtain ⟨z, r, e1, a, t⟩ := datL_cons.mp h
    subst e1
    exact datL_cons' k t
  | e :: ds, ys, d, y, i + 1, h, k => by
    obtain ⟨z, r, e1, a, t⟩ := datL_cons.mp h
    subst e1
    exact datL_cons' a (DatL.set i t k)
theorem DatL.drop : ∀ {ds : List DV} {ys : List V} (i : Nat), DatL W G ds ys → DatL W G (ds.drop i) (ys.drop i)
  | ds, ys, 0, h => h
  | [], ys, i + 1, h => by rw [datL_nil.mp h]; exact datL_nil'
  | e :: ds, ys, i + 1, h => by
    obtain ⟨z, r, e1, a, t⟩ := datL_cons.mp h
    subst e1
    exact DatL.drop i t
theorem DatL.take : ∀ {ds : List DV} {ys : List V} (i : Nat), DatL W G ds ys → DatL W G (ds.take i) (ys.take i)
  | ds, ys, 0, h => datL_nil'
  | [], ys, i + 1, h => by rw [datL_nil.mp h]; exact datL_nil'
  | e :: ds, ys, i + 1, h => by
    obtain ⟨z, r, e1, a, t⟩ := datL_cons.mp h
    subst e1
    exact datL_cons' a (DatL.take i t)
theorem DatL.reverse : ∀ {ds : List DV} {ys : List V}, DatL W G ds ys → DatL W G ds.reverse ys.reverse
  | [], ys, h => by rw [datL_nil.mp h]; exact datL_nil'
  | e :: ds, ys, h => by
    obtain ⟨z, r, e1, a, t⟩ := datL_cons.mp h
    subst e1
    rw [List.reverse_cons, List.reverse_cons]
    exact (DatL.reverse t).append (datL_cons' a datL_nil')
theorem datL_v : ∀ (xs : List V), DatL W G (xs.map DV.v) xs
  | [] => datL_nil'
  | x :: xs => datL_cons' dat_v' (datL_v xs)
theorem datL_vs : ∀ {xs ys : List V}, DatL W G (xs.map DV.v) ys → ys = xs
  | [], ys, h => datL_nil.mp h
  | x :: xs, ys, h => by
    obtain ⟨y, r, e, a, t⟩ := datL_cons.mp h
    rw [e, dat_v.mp a, datL_vs t]
end

/-! ### what is kept when the heap goes on -/
section
variable {W : Wd} {G G' : Hp} {M : Mu} {F H H' : Hp}
theorem MAt.mono (e : Same G G') {a : Addr} : ∀ {o : MO}, MAt W G H a o → MAt W G' H a o
  | .lst ds, ⟨xs, h1, h2⟩ => ⟨xs, h1, h2.mono e⟩
  | .ins C ns ds, ⟨dx, xs, h1, h2, h3⟩ => ⟨dx, xs, h1, h2, h3.mono e⟩
  | .dk ks ds, ⟨xs, h1, h2, h3⟩ => ⟨xs, h1, h2, h3.mono e⟩
  | .dl ks ds, ⟨xs, h1, h2, h3⟩ => ⟨xs, h1, h2, h3.mono e⟩
  | .pre P, ⟨ds, xs, h0, h1, h2⟩ => ⟨ds, xs, h0, h1, h2.mono e⟩
  | .tab q, ⟨ps, h0, h1, h2⟩ => ⟨ps, h0, h1, fun pos cv k => let ⟨c, e1, e2⟩ := h2 pos cv k; ⟨c, e1, e _ _ e2⟩⟩
theorem MAt.heap {a : Addr} (e : H' a = H a) : ∀ {o : MO}, MAt W G H a o → MAt W G H' a o
  | .lst ds, ⟨xs, h1, h2⟩ => ⟨xs, e.trans h1, h2⟩
  | .ins C ns ds, ⟨dx, xs, h1, h2, h3⟩ => ⟨dx, xs, e.trans h1, h2, h3⟩
  | .dk ks ds, ⟨xs, h1, h2, h3⟩ => ⟨xs, e.trans h1, h2, h3⟩
  | .dl ks ds, ⟨xs, h1, h2, h3⟩ => ⟨xs, e.trans h1, h2, h3⟩
  | .pre P, ⟨ds, xs, h0, h1, h2⟩ => ⟨ds, xs, h0, e.trans h1, h2⟩
  | .tab q, ⟨ps, h0, h1, h2⟩ => ⟨ps, e.trans h0, h1, h2⟩
theorem MAt.there {a : Addr} : ∀ {o : MO}, MAt W G H a o → ∃ u, H a = some u
  | .lst ds, ⟨xs, h1, h2⟩ => ⟨_, h1⟩
  | .ins C ns ds, ⟨dx, xs, h1, h2, h3⟩ => ⟨_, h1⟩
  | .dk ks ds, ⟨xs, h1, h2, h3⟩ => ⟨_, h1⟩
  | .dl ks ds, ⟨xs, h1, h2, h3⟩ => ⟨_, h1⟩
  | .pre P, ⟨ds, xs, h0, h1, h2⟩ => ⟨_, h1⟩
  | .tab q, ⟨ps, h0, h1, h2⟩ => ⟨_, h0⟩
/-- a new frozen object -/
theorem Rep.new {p : Addr} {o : HO} (R : Rep W G M F H) (hp : H p = none) : Rep W (upd G p o) M F (upd H p o) where
  ex := fun a u e => by
    by_cases h : a = p
    · subst h; rw [upd_same] at e ⊢; exact e
    · rw [upd_ne h] at e ⊢; exact R.ex a u e
  fr := fun a u e => by rw [upd_ne (ne_of_none (R.fr a u e) hp)]; exact R.fr a u e
  fd := fun a u e => by rw [upd_ne (ne_of_none (R.fr a u e) hp)]; exact R.fd a u e
  mu := fun a u e => by
    obtain ⟨h1, h2⟩ := R.mu a u e
    obtain ⟨z, hz⟩ := h2.there
    have ne := ne_of_none hz hp
    refine ⟨by rw [upd_ne ne]; exact h1, (h2.mono (G' := upd G p o) ?_).heap (upd_ne ne)⟩
    exact fun b v hb => by rw [upd_ne (ne_of_none (R.ex b v hb) hp)]; exact hb
theorem Rep.gnone {p : Addr} (R : Rep W G M F H) (hp : H p = none) : G p = none := R.ex.free hp
theorem same_new {p : Addr} {o : HO} (hp : G p = none) : Same G (upd G p o) := fun b v hb => by rw [upd_ne (ne_of_none hb hp)]; exact hb
/-- a new object that is dropped -/
theorem Rep.skip {p : Addr} {o : HO} (R : Rep W G M F H) (hp : H p = none) : Rep W G M F (upd H p o) where
  ex := fun a u e => by rw [upd_ne (ne_of_none (R.ex a u e) hp)]; exact R.ex a u e
  fr := fun a u e => by rw [upd_ne (ne_of_none (R.fr a u e) hp)]; exact R.fr a u e
  fd := R.fd
  mu := fun a u e => by
    obtain ⟨h1, h2⟩ := R.mu a u e
    obtain ⟨z, hz⟩ := h2.there
    exact ⟨h1, h2.heap (upd_ne (ne_of_none hz hp))⟩
/-- a new changeable object -/
theorem Rep.newM {p : Addr} {o : HO} {mo : MO} (R : Rep W G M F H) (hp : H p = none) (hm : MAt W G (upd H p o) p mo) : Rep W G (updM M p mo) F (upd H p o) where
  ex := fun a u e => by rw [upd_ne (ne_of_none (R.ex a u e) hp)]; exact R.ex a u e
  fr := fun a u e => by rw [upd_ne (ne_of_none (R.fr a u e) hp)]; exact R.fr a u e
  fd := fun a u e => ⟨(R.fd a u e).1, by rw [updM_ne (ne_of_none (R.fr a u e) hp)]; exact (R.fd a u e).2⟩
  mu := fun a u e => by
    by_cases h : a = p
    · subst h
      rw [updM_same] at e
      cases e
      exact ⟨R.gnone hp, hm⟩
    · rw [updM_ne h] at e
      obtain ⟨h1, h2⟩ := R.mu a u e
      exact ⟨h1, h2.heap (upd_ne h)⟩
theorem Rep.mnone {p : Addr} (R : Rep W G M F H) (hp : H p = none) : M p = none := by
  cases q : M p with
  | none => rfl
  | some o =>
    obtain ⟨z, hz⟩ := (R.mu p o q).2.there
    rw [hp] at hz; cases hz
theorem Rep.fnone {p : Addr} (R : Rep W G M F H) (hp : H p = none) : F p = none := R.fr.free hp
/-- a changeable object is changed -/
theorem Rep.write {p : Addr} {o : HO} {mo mo' : MO} (R : Rep W G M F H) (hp : M p = some mo) (hm : MAt W G (upd H p o) p mo') : Rep W G (updM M p mo') F (upd H p o) where
  ex := fun a u e => by
    have ne : a ≠ p := fun z => by subst z; rw [(R.mu a mo hp).1] at e; cases e
    rw [upd_ne ne]; exact R.ex a u e
  fr := fun a u e => by
    have ne : a ≠ p := fun z => by subst z; rw [(R.fd a u e).2] at hp; cases hp
    rw [upd_ne ne]; exact R.fr a u e
  fd := fun a u e => by
    have ne : a ≠ p := fun z => by subst z; rw [(R.fd a u e).2] at hp; cases hp
    exact ⟨(R.fd a u e).1, by rw [updM_ne ne]; exact (R.fd a u e).2⟩
  mu := fun a u e => by
    by_cases h : a = p
    · subst h
      rw [updM_same] at e
      cases e
      exact ⟨(R.mu a mo hp).1, hm⟩
    · rw [updM_ne h] at e
      obtain ⟨h1, h2⟩ := R.mu a u e
      exact ⟨h1, h2.heap (upd_ne h)⟩
end

/-! ### the slots -/
abbrev Ro := List (Option DV)
structure EnvOk (W : Wd) (G : Hp) (ρ : Ro) (σ : L2.St) : Prop where
  len : ρ.length = σ.length
  get : ∀ (i : Nat) d, ρ[i]? = some (some d) → ∃ v, σ[i]? = some (some v) ∧ Dat W G d v
section
variable {W : Wd} {G G' : Hp} {ρ : Ro} {σ : L2.St}
theorem EnvOk.mono (e : Same G G') (E : EnvOk W G ρ σ) : EnvOk W G' ρ σ := ⟨E.len, fun i d h => by
  obtain ⟨v, h1, h2⟩ := E.get i d h
  exact ⟨v, h1, h2.mono e⟩⟩
theorem EnvOk.set {i : Nat} {d : DV} {v : V} (E : EnvOk W G ρ σ) (h : Dat W G d v) : EnvOk W G (ρ.set i (some d)) (σ.set i (some v)) := ⟨by simp [E.len], fun j e hj => by
  by_cases q : i = j
  · subst q
    have hl : i < ρ.length := by
      have := (List.getElem?_eq_some_iff.mp hj).1
      simpa using this
    rw [List.getElem?_set_self hl] at hj
    cases hj
    exact ⟨v, List.getElem?_set_self (by rw [← E.len]; exact hl), h⟩
  · rw [List.getElem?_set_ne q] at hj
    obtain ⟨u, h1, h2⟩ := E.get j e hj
    exact ⟨u, by rw [List.getElem?_set_ne q]; exact h1, h2⟩⟩
/-- forgetting -/
theorem EnvOk.weak {ρ' : Ro} (E : EnvOk W G ρ σ) (hl : ρ'.length = ρ.length) (h : ∀ (i : Nat) d, ρ'[i]? = some (some d) → ρ[i]? = some (some d)) : EnvOk W G ρ' σ := ⟨hl.trans E.len, fun i d q => E.get i d (h i d q)⟩
def start2 (N : List Str) (ds : List DV) : Ro := ds.map some ++ List.replicate (N.length - ds.length) none
theorem env_start {N : List Str} {ds : List DV} {vs : List V} (h : DatL W G ds vs) : EnvOk W G (start2 N ds) (L2.start N vs) := by
  have hl := h.length
  refine ⟨by simp [start2, L2.start, hl], fun i d e => ?_⟩
  unfold start2 at e
  unfold L2.start
  by_cases q : i < ds.length
  · rw [List.getElem?_append_left (by simpa using q)] at e
    rw [List.getElem?_append_left (by simpa [hl] using q)]
    rw [List.getElem?_map] at e
    cases z : ds[i]? with
    | none => rw [z] at e; cases e
    | some d' =>
      rw [z] at e
      cases e
      obtain ⟨y, e2, hy⟩ := h.get z
      exact ⟨y, by rw [List.getElem?_map, e2]; rfl, hy⟩
  · rw [List.getElem?_append_right (by simpa using q)] at e
    exfalso
    rw [List.getElem?_replicate] at e
    split at e <;> cases e
end

/-! ### judgements over readings -/
/-- where a judgement stands: the world, the frozen heap at the beginning, the frame that is kept -/
structure Zn where
  W : Wd
  G : Hp
  F : Hp
abbrev DQ := DV → Mu → Prop
/-- what is wanted of a value, carried over -/
def RetOk (W : Wd) (G F : Hp) (Q2 : DQ) (Q : VK) : Prop := ∀ d v G' M' H', Same G G' → Rep W G' M' F H' → Dat W G' d v → Q2 d M' → Q v H'
def WE (Z : Zn) (te : TE) (ρ : Ro) (M : Mu) (Q2 : DQ) : Prop :=
  ∀ G σ H Q, Same Z.G G → Rep Z.W G M Z.F H → EnvOk Z.W G ρ σ → RetOk Z.W G Z.F Q2 Q → te σ H Q
def WT (Z : Zn) (tt : TT) (ρ : Ro) (M : Mu) (Q2 : Bool → Mu → Prop) : Prop :=
  ∀ G σ H Q, Same Z.G G → Rep Z.W G M Z.F H → EnvOk Z.W G ρ σ → (∀ b G' M' H', Same G G' → Rep Z.W G' M' Z.F H' → Q2 b M' → Q b H') → tt σ H Q
def WA (Z : Zn) (ta : TA) (ρ : Ro) (M : Mu) (Q2 : List DV → Mu → Prop) : Prop :=
  ∀ G σ H Q, Same Z.G G → Rep Z.W G M Z.F H → EnvOk Z.W G ρ σ → (∀ ds vs G' M' H', Same G G' → Rep Z.W G' M' Z.F H' → DatL Z.W G' ds vs → Q2 ds M' → Q vs H') → ta σ H Q
structure Ends2 where
  nx : Ro → Mu → Prop
  rt : DQ
  bk : Ro → Mu → Prop := fun _ _ => False
  ct : Ro → Mu → Prop := fun _ _ => False
def NxOk (W : Wd) (G F : Hp) (P2 : Ro → Mu → Prop) (P : L2.St → Hp → Prop) : Prop := ∀ ρ' σ' G' M' H', Same G G' → Rep W G' M' F H' → EnvOk W G' ρ' σ' → P2 ρ' M' → P σ' H'
structure EndsOk (W : Wd) (G F : Hp) (D2 : Ends2) (D : Ends) : Prop where
  nx : NxOk W G F D2.nx D.nx
  rt : RetOk W G F D2.rt D.rt
  bk : NxOk W G F D2.bk D.bk
  ct : NxOk W G F D2.ct D.ct
def WS (Z : Zn) (ts : TS) (D2 : Ends2) (ρ : Ro) (M : Mu) : Prop :=
  ∀ G σ H D, Same Z.G G → Rep Z.W G M Z.F H → EnvOk Z.W G ρ σ → EndsOk Z.W G Z.F D2 D → ts D σ H
/-- a two-place operation, a one-place one, a call, by values -/
def WR (Z : Zn) (r : R2) (x y : DV) (M : Mu) (Q2 : DQ) : Prop :=
  ∀ G H vx vy Q, Same Z.G G → Rep Z.W G M Z.F H → Dat Z.W G x vx → Dat Z.W G y vy → RetOk Z.W G Z.F Q2 Q → r vx vy H Q
def WU (Z : Zn) (r : V → Hp → VK → Prop) (x : DV) (M : Mu) (Q2 : DQ) : Prop :=
  ∀ G H vx Q, Same Z.G G → Rep Z.W G M Z.F H → Dat Z.W G x vx → RetOk Z.W G Z.F Q2 Q → r vx H Q
def WC (Z : Zn) (r : List V → Hp → VK → Prop) (xs : List DV) (M : Mu) (Q2 : DQ) : Prop :=
  ∀ G H vs Q, Same Z.G G → Rep Z.W G M Z.F H → DatL Z.W G xs vs → RetOk Z.W G Z.F Q2 Q → r vs H Q
section
variable {W : Wd} {Z : Zn} {G G' F : Hp} {ρ : Ro} {σ : L2.St} {M : Mu} {H : Hp} {te ta tb : TE} {tt tu : TT} {ts tr : TS} {tx : TA} {Q2 Q2' : DQ} {D2 : Ends2}
theorem RetOk.mono {Q : VK} (e : Same G G') (h : RetOk W G F Q2 Q) : RetOk W G' F Q2 Q := fun d v G1 M1 H1 s R x q => h d v G1 M1 H1 (e.trans s) R x q
theorem RetOk.imp {Q : VK} (k : ∀ d M', Q2 d M' → Q2' d M') (h : RetOk W G F Q2' Q) : RetOk W G F Q2 Q := fun d v G1 M1 H1 s R x q => h d v G1 M1 H1 s R x (k d M1 q)
theorem NxOk.mono {P2 : Ro → Mu → Prop} {P : L2.St → Hp → Prop} (e : Same G G') (h : NxOk W G F P2 P) : NxOk W G' F P2 P := fun ρ' σ' G1 M1 H1 s R x q => h ρ' σ' G1 M1 H1 (e.trans s) R x q
theorem EndsOk.mono {D : Ends} (e : Same G G') (h : EndsOk W G F D2 D) : EndsOk W G' F D2 D := ⟨h.nx.mono e, h.rt.mono e, h.bk.mono e, h.ct.mono e⟩
theorem WE.imp (h : WE Z te ρ M Q2) (k : ∀ d M', Q2 d M' → Q2' d M') : WE Z te ρ M Q2' := fun G σ H Q s R E r => h G σ H Q s R E (r.imp k)
theorem WA.imp {P P' : List DV → Mu → Prop} (h : WA Z tx ρ M P) (k : ∀ d M', P d M' → P' d M') : WA Z tx ρ M P' := fun G σ H Q s R E r => h G σ H Q s R E fun d v G' M' H' s' R' x q => r d v G' M' H' s' R' x (k d M' q)
theorem we_var {i : Nat} {d : DV} (hi : ρ[i]? = some (some d)) (h : Q2 d M) : WE Z (tVar i) ρ M Q2 := fun G σ H Q s R E r => by
  obtain ⟨v, h1, h2⟩ := E.get i d hi
  exact ⟨v, h1, r d v G M H (Same.refl G) R h2 h⟩
theorem we_c {x : V} (h : Q2 (.v x) M) : WE Z (tC x) ρ M Q2 := fun G σ H Q s R E r => r _ x G M H (Same.refl G) R dat_v' h
theorem we_op {r : R2} (h : WE Z ta ρ M fun x M1 => WE Z tb ρ M1 fun y M2 => WR Z r x y M2 Q2) : WE Z (tOp r ta tb) ρ M Q2 := fun G σ H Q s R E rt =>
  h G σ H _ s R E fun x vx G1 M1 H1 s1 R1 dx h1 => h1 G1 σ H1 _ (s.trans s1) R1 (E.mono s1) fun y vy G2 M2 H2 s2 R2 dy h2 =>
    h2 G2 H2 vx vy Q ((s.trans s1).trans s2) R2 (dx.mono s2) dy (rt.mono (s1.trans s2))
theorem we_un {r : V → Hp → VK → Prop} (h : WE Z ta ρ M fun x M1 => WU Z r x M1 Q2) : WE Z (tUn r ta) ρ M Q2 := fun G σ H Q s R E rt =>
  h G σ H _ s R E fun x vx G1 M1 H1 s1 R1 dx h1 => h1 G1 H1 vx Q (s.trans s1) R1 dx (rt.mono s1)
theorem wr_I0 {g : Int → Int → V} {i j : Int} (h : Q2 (.v (g i j)) M) : WR Z (rI0 g) (.i i) (.i j) M Q2 := fun G H vx vy Q s R dx dy r =>
  ⟨i, j, dat_v.mp dx, dat_v.mp dy, r _ _ G M H (Same.refl G) R dat_v' h⟩
theorem wr_I {C : Int → Int → Prop} {g : Int → Int → V} {i j : Int} (hc : C i j) (h : Q2 (.v (g i j)) M) : WR Z (rI C g) (.i i) (.i j) M Q2 := fun G H vx vy Q s R dx dy r =>
  ⟨i, j, dat_v.mp dx, dat_v.mp dy, hc, r _ _ G M H (Same.refl G) R dat_v' h⟩
theorem wr_eq {x y : V} (hs : scal x y = true) (h : Q2 (.b (decide (x = y))) M) : WR Z rEq (.v x) (.v y) M Q2 := fun G H vx vy Q s R dx dy r => by
  rw [dat_v] at dx dy
  subst dx dy
  exact ⟨hs, r _ _ G M H (Same.refl G) R dat_v' h⟩
theorem wr_ne {x y : V} (hs : scal x y = true) (h : Q2 (.b (!decide (x = y))) M) : WR Z rNe (.v x) (.v y) M Q2 := fun G H vx vy Q s R dx dy r => by
  rw [dat_v] at dx dy
  subst dx dy
  exact ⟨hs, r _ _ G M H (Same.refl G) R dat_v' h⟩
/-! tests -/
theorem WT.imp {P P' : Bool → Mu → Prop} (h : WT Z tt ρ M P) (k : ∀ b M', P b M' → P' b M') : WT Z tt ρ M P' := fun G σ H Q s R E r => h G σ H Q s R E fun b G' M' H' s' R' q => r b G' M' H' s' R' (k b M' q)
theorem wt_test {P : Bool → Mu → Prop} (h : WE Z te ρ M fun d M' => ∃ b, d = .b b ∧ P b M') : WT Z (tTest te) ρ M P := fun G σ H Q s R E r => by
  refine h G σ H _ s R E fun d v G' M' H' s' R' x q => ?_
  obtain ⟨b, rfl, q⟩ := q
  exact ⟨b, dat_v.mp x, r b G' M' H' s' R' q⟩
theorem wt_B {P : Bool → Mu → Prop} (h : WE Z te ρ M fun d M' => ∃ b, d = .b b ∧ P b M') : WT Z (tB te) ρ M P := wt_test h
theorem wt_and {P : Bool → Mu → Prop} (h : WT Z tt ρ M fun b M1 => if b = true then WT Z tu ρ M1 P else P false M1) : WT Z (tAnd tt tu) ρ M P := fun G σ H Q s R E r =>
  h G σ H _ s R E fun b G1 M1 H1 s1 R1 q => by
    cases b with
    | true => exact q G1 σ H1 Q (s.trans s1) R1 (E.mono s1) fun b G2 M2 H2 s2 R2 q2 => r b G2 M2 H2 (s1.trans s2) R2 q2
    | false => exact r false G1 M1 H1 s1 R1 q
theorem wt_or {P : Bool → Mu → Prop} (h : WT Z tt ρ M fun b M1 => if b = true then P true M1 else WT Z tu ρ M1 P) : WT Z (tOr tt tu) ρ M P := fun G σ H Q s R E r =>
  h G σ H _ s R E fun b G1 M1 H1 s1 R1 q => by
    cases b with
    | false => exact q G1 σ H1 Q (s.trans s1) R1 (E.mono s1) fun b G2 M2 H2 s2 R2 q2 => r b G2 M2 H2 (s1.trans s2) R2 q2
    | true => exact r true G1 M1 H1 s1 R1 q
theorem wt_not {P : Bool → Mu → Prop} (h : WT Z tt ρ M fun b M1 => P (!b) M1) : WT Z (tNot tt) ρ M P := fun G σ H Q s R E r =>
  h G σ H _ s R E fun b G1 M1 H1 s1 R1 q => r (!b) G1 M1 H1 s1 R1 q
theorem wt_yes {P : Bool → Mu → Prop} (h : P true M) : WT Z tYes ρ M P := fun G σ H Q s R E r => r true G M H (Same.refl G) R h
theorem we_andV (h : WE Z ta ρ M fun d M1 => ∃ c, d = .b c ∧ if c = true then WE Z tb ρ M1 Q2 else Q2 (.b false) M1) : WE Z (tAndV ta tb) ρ M Q2 := fun G σ H Q s R E r =>
  h G σ H _ s R E fun d v G1 M1 H1 s1 R1 x q => by
    obtain ⟨c, rfl, q⟩ := q
    refine ⟨c, dat_v.mp x, ?_⟩
    cases c with
    | true => exact q G1 σ H1 Q (s.trans s1) R1 (E.mono s1) (r.mono s1)
    | false => exact r _ _ G1 M1 H1 s1 R1 dat_v' q
theorem we_orV (h : WE Z ta ρ M fun d M1 => ∃ c, d = .b c ∧ if c = true then Q2 (.b true) M1 else WE Z tb ρ M1 Q2) : WE Z (tOrV ta tb) ρ M Q2 := fun G σ H Q s R E r =>
  h G σ H _ s R E fun d v G1 M1 H1 s1 R1 x q => by
    obtain ⟨c, rfl, q⟩ := q
    refine ⟨c, dat_v.mp x, ?_⟩
    cases c with
    | false => exact q G1 σ H1 Q (s.trans s1) R1 (E.mono s1) (r.mono s1)
    | true => exact r _ _ G1 M1 H1 s1 R1 dat_v' q
theorem we_notV (h : WE Z ta ρ M fun d M1 => ∃ c, d = .b c ∧ Q2 (.b (!c)) M1) : WE Z (tNotV ta) ρ M Q2 := fun G σ H Q s R E r =>
  h G σ H _ s R E fun d v G1 M1 H1 s1 R1 x q => by
    obtain ⟨c, rfl, q⟩ := q
    exact ⟨c, dat_v.mp x, r _ _ G1 M1 H1 s1 R1 dat_v' q⟩
theorem we_if (h : WT Z tt ρ M fun b M1 => if b = true then WE Z ta ρ M1 Q2 else WE Z tb ρ M1 Q2) : WE Z (tIf tt ta tb) ρ M Q2 := fun G σ H Q s R E r =>
  h G σ H _ s R E fun b G1 M1 H1 s1 R1 q => by
    cases b with
    | true => exact q G1 σ H1 Q (s.trans s1) R1 (E.mono s1) (r.mono s1)
    | false => exact q G1 σ H1 Q (s.trans s1) R1 (E.mono s1) (r.mono s1)
/-! arguments, displays -/
theorem wa_nil {P : List DV → Mu → Prop} (h : P [] M) : WA Z tNil ρ M P := fun G σ H Q s R E r => r [] [] G M H (Same.refl G) R datL_nil' h
theorem wa_cons {P : List DV → Mu → Prop} (h : WE Z te ρ M fun d M1 => WA Z tx ρ M1 fun ds M2 => P (d :: ds) M2) : WA Z (tCons te tx) ρ M P := fun G σ H Q s R E r =>
  h G σ H _ s R E fun d v G1 M1 H1 s1 R1 x q => q G1 σ H1 _ (s.trans s1) R1 (E.mono s1) fun ds vs G2 M2 H2 s2 R2 xs q2 =>
    r (d :: ds) (v :: vs) G2 M2 H2 (s1.trans s2) R2 (datL_cons' (x.mono s2) xs) q2
theorem we_tup (h : WA Z tx ρ M fun ds M1 => ds.length ≤ sizeLine ∧ Q2 (.tup ds) M1) : WE Z (tTup tx) ρ M Q2 := fun G σ H Q s R E r =>
  h G σ H _ s R E fun ds vs G1 M1 H1 s1 R1 x q => ⟨by rw [x.length]; exact q.1, fun p hp =>
    r _ _ (upd G1 p (.tup vs)) M1 _ (s1.trans (same_new (R1.gnone hp))) (R1.new hp) (dat_tup.mpr ⟨p, vs, rfl, SqT.of upd_same, x.mono (same_new (R1.gnone hp))⟩) q.2⟩
theorem we_lst (h : WA Z tx ρ M fun ds M1 => ds.length ≤ sizeLine ∧ Q2 (.lst ds) M1) : WE Z (tLst tx) ρ M Q2 := fun G σ H Q s R E r =>
  h G σ H _ s R E fun ds vs G1 M1 H1 s1 R1 x q => ⟨by rw [x.length]; exact q.1, fun p hp =>
    r _ _ (upd G1 p (.lst vs)) M1 _ (s1.trans (same_new (R1.gnone hp))) (R1.new hp) (dat_lst.mpr ⟨p, vs, rfl, upd_same, x.mono (same_new (R1.gnone hp))⟩) q.2⟩
/-- a new list that may change -/
theorem we_lstM (h : WA Z tx ρ M fun ds M1 => ds.length ≤ sizeLine ∧ ∀ p, M1 p = none → Q2 (.r p) (updM M1 p (.lst ds))) : WE Z (tLst tx) ρ M Q2 := fun G σ H Q s R E r =>
  h G σ H _ s R E fun ds vs G1 M1 H1 s1 R1 x q => ⟨by rw [x.length]; exact q.1, fun p hp =>
    r _ _ G1 _ _ s1 (R1.newM (mo := .lst ds) hp ⟨vs, upd_same, x⟩) dat_v' (q.2 p (R1.mnone hp))⟩
theorem we_cb {r : List V → Hp → VK → Prop} (h : WA Z tx ρ M fun ds M1 => WC Z r ds M1 Q2) : WE Z (tCB r tx) ρ M Q2 := fun G σ H Q s R E rt =>
  h G σ H _ s R E fun ds vs G1 M1 H1 s1 R1 x q => q G1 H1 vs Q (s.trans s1) R1 x (rt.mono s1)
/-! statements -/
theorem ws_next (h : D2.nx ρ M) : WS Z tNext D2 ρ M := fun G σ H D s R E e => e.nx ρ σ G M H (Same.refl G) R E h
theorem ws_break (h : D2.bk ρ M) : WS Z tBreak D2 ρ M := fun G σ H D s R E e => e.bk ρ σ G M H (Same.refl G) R E h
theorem ws_cont (h : D2.ct ρ M) : WS Z tCont D2 ρ M := fun G σ H D s R E e => e.ct ρ σ G M H (Same.refl G) R E h
theorem WS.imp {D2' : Ends2} (h : WS Z ts D2 ρ M) (hn : ∀ ρ' M', D2.nx ρ' M' → D2'.nx ρ' M') (hr : ∀ d M', D2.rt d M' → D2'.rt d M') (hb : ∀ ρ' M', D2.bk ρ' M' → D2'.bk ρ' M') (hc : ∀ ρ' M', D2.ct ρ' M' → D2'.ct ρ' M') : WS Z ts D2' ρ M :=
  fun G σ H D s R E e => h G σ H D s R E ⟨fun ρ' σ' G' M' H' s' R' E' q => e.nx ρ' σ' G' M' H' s' R' E' (hn _ _ q), fun d v G' M' H' s' R' x q => e.rt d v G' M' H' s' R' x (hr _ _ q), fun ρ' σ' G' M' H' s' R' E' q => e.bk ρ' σ' G' M' H' s' R' E' (hb _ _ q), fun ρ' σ' G' M' H' s' R' E' q => e.ct ρ' σ' G' M' H' s' R' E' (hc _ _ q)⟩
theorem ws_seq (h : WS Z ts { D2 with nx := fun ρ' M' => WS Z tr D2 ρ' M' } ρ M) : WS Z (tSeq ts tr) D2 ρ M := fun G σ H D s R E e =>
  h G σ H _ s R E ⟨fun ρ' σ' G' M' H' s' R' E' q => q G' σ' H' D (s.trans s') R' E' (e.mono s'), e.rt, e.bk, e.ct⟩
theorem ws_drop (h : WE Z te ρ M fun _ M1 => D2.nx ρ M1) : WS Z (tDrop te) D2 ρ M := fun G σ H D s R E e =>
  h G σ H _ s R E fun d v G1 M1 H1 s1 R1 x q => e.nx ρ σ G1 M1 H1 s1 R1 (E.mono s1) q
theorem ws_ret (h : WE Z te ρ M D2.rt) : WS Z (tRet te) D2 ρ M := fun G σ H D s R E e => h G σ H _ s R E e.rt
theorem ws_retN (h : D2.rt .n M) : WS Z tRetN D2 ρ M := fun G σ H D s R E e => e.rt _ _ G M H (Same.refl G) R dat_v' h
theorem ws_if (h : WT Z tt ρ M fun b M1 => if b = true then WS Z ts D2 ρ M1 else WS Z tr D2 ρ M1) : WS Z (tIfS tt ts tr) D2 ρ M := fun G σ H D s R E e =>
  h G σ H _ s R E fun b G1 M1 H1 s1 R1 q => by
    cases b with
    | true => exact q G1 σ H1 D (s.trans s1) R1 (E.mono s1) (e.mono s1)
    | false => exact q G1 σ H1 D (s.trans s1) R1 (E.mono s1) (e.mono s1)
/-! targets -/
def WG (Z : Zn) (g : TG) (d : DV) (ρ : Ro) (M : Mu) (P2 : Ro → Mu → Prop) : Prop :=
  ∀ G σ H v P, Same Z.G G → Rep Z.W G M Z.F H → EnvOk Z.W G ρ σ → Dat Z.W G d v → NxOk Z.W G Z.F P2 P → g v σ H P
def WGs (Z : Zn) (g : TGs) (ds : List DV) (ρ : Ro) (M : Mu) (P2 : Ro → Mu → Prop) : Prop :=
  ∀ G σ H vs P, Same Z.G G → Rep Z.W G M Z.F H → EnvOk Z.W G ρ σ → DatL Z.W G ds vs → NxOk Z.W G Z.F P2 P → g vs σ H P
theorem wg_name {i : Nat} {d : DV} {P2 : Ro → Mu → Prop} (h : P2 (ρ.set i (some d)) M) : WG Z (gName i) d ρ M P2 := fun G σ H v P s R E x n =>
  n _ _ G M H (Same.refl G) R (E.set x) h
theorem wgs_nil {P2 : Ro → Mu → Prop} (h : P2 ρ M) : WGs Z gNil [] ρ M P2 := fun G σ H vs P s R E x n => ⟨datL_nil.mp x, n _ _ G M H (Same.refl G) R E h⟩
theorem wgs_cons {g : TG} {gs : TGs} {d : DV} {ds : List DV} {P2 : Ro → Mu → Prop} (h : WG Z g d ρ M fun ρ1 M1 => WGs Z gs ds ρ1 M1 P2) : WGs Z (gCons g gs) (d :: ds) ρ M P2 := fun G σ H vs P s R E x n => by
  obtain ⟨v, r, e, hv, hr⟩ := datL_cons.mp x
  exact ⟨v, r, e, h G σ H v _ s R E hv fun ρ1 σ1 G1 M1 H1 s1 R1 E1 q => q G1 σ1 H1 r P (s.trans s1) R1 E1 (hr.mono s1) (n.mono s1)⟩
theorem wg_tup {n : Nat} {gs : TGs} {ds : List DV} {P2 : Ro → Mu → Prop} (hn : ds.length = n) (h : WGs Z gs ds ρ M P2) : WG Z (gTup Z.W.K n gs) (.tup ds) ρ M P2 := fun G σ H v P s R E x k => by
  obtain ⟨a, xs, e, h1, h2⟩ := dat_tup.mp x
  exact ⟨a, xs, e, sqt_mono R.ex h1, by rw [h2.length]; exact hn, h G σ H xs P s R E h2 k⟩
theorem ws_asg {g : TG} (h : WE Z te ρ M fun d M1 => WG Z g d ρ M1 D2.nx) : WS Z (tAsg te g) D2 ρ M := fun G σ H D s R E e =>
  h G σ H _ s R E fun d v G1 M1 H1 s1 R1 x q => q G1 σ H1 v _ (s.trans s1) R1 (E.mono s1) x (e.nx.mono s1)
theorem ws_set {i : Nat} (h : WE Z te ρ M fun d M1 => D2.nx (ρ.set i (some d)) M1) : WS Z (tAsg te (gName i)) D2 ρ M := ws_asg (h.imp fun d M' q => wg_name q)
end
end DL
set_option Elab.async false
set_option linter.all false
set_option maxRecDepth 100000
set_option maxHeartbeats 2000000
/-! DL2: sequences, calls, fields. -/
namespace DL
open PySem PySem.Spec PyProof.Rows L2

/-! ### lists that are frozen or may change -/
def LstOf (M : Mu) (d : DV) (ds : List DV) : Prop := d = .lst ds ∨ ∃ a, d = .r a ∧ M a = some (.lst ds)
theorem LstOf.fz {M : Mu} {ds : List DV} : LstOf M (.lst ds) ds := .inl rfl
theorem LstOf.mu {M : Mu} {a : Addr} {ds : List DV} (h : M a = some (.lst ds)) : LstOf M (.r a) ds := .inr ⟨a, rfl, h⟩
def SqOf (M : Mu) (d : DV) (ds : List DV) : Prop := LstOf M d ds ∨ d = .tup ds
theorem SqOf.fz {M : Mu} {ds : List DV} : SqOf M (.lst ds) ds := .inl (.inl rfl)
theorem SqOf.tp {M : Mu} {ds : List DV} : SqOf M (.tup ds) ds := .inr rfl
theorem SqOf.mu {M : Mu} {a : Addr} {ds : List DV} (h : M a = some (.lst ds)) : SqOf M (.r a) ds := .inl (.mu h)
section
variable {W : Wd} {Z : Zn} {G G' F : Hp} {ρ : Ro} {σ : L2.St} {M : Mu} {H : Hp} {te ta tb tc : TE} {tt tu : TT} {ts tr : TS} {tx : TA} {Q2 Q2' : DQ} {D2 : Ends2} {d e x y : DV} {ds es : List DV} {v : V}
theorem lst_at (R : Rep W G M F H) (h : Dat W G d v) (l : LstOf M d ds) : ∃ a xs, v = .ref a ∧ H a = some (.lst xs) ∧ DatL W G ds xs := by
  rcases l with rfl | ⟨a, rfl, hm⟩
  · obtain ⟨a, xs, h1, h2, h3⟩ := dat_lst.mp h
    exact ⟨a, xs, h1, R.ex _ _ h2, h3⟩
  · obtain ⟨xs, h1, h2⟩ := (R.mu a _ hm).2
    exact ⟨a, xs, dat_v.mp h, h1, h2⟩
theorem sq_at {K : PySem.W.Frag} (hK : K = W.K) (R : Rep W G M F H) (h : Dat W G d v) (l : SqOf M d ds) : ∃ a xs, v = .ref a ∧ (SqL K H a xs ∨ SqT K H a xs) ∧ DatL W G ds xs := by
  subst hK
  rcases l with l | rfl
  · obtain ⟨a, xs, h1, h2, h3⟩ := lst_at R h l
    exact ⟨a, xs, h1, .inl (SqL.of h2), h3⟩
  · obtain ⟨a, xs, h1, h2, h3⟩ := dat_tup.mp h
    exact ⟨a, xs, h1, .inr (sqt_mono R.ex h2), h3⟩
theorem atI_dat {xs : List V} {k : Int} (h : DatL W G ds xs) (e1 : atI ds k = some e) : ∃ y, atI xs k = some y ∧ Dat W G e y := by
  unfold atI at e1 ⊢
  rw [h.length]
  cases q : ixN ds.length k with
  | none => rw [q] at e1; cases e1
  | some j =>
    rw [q] at e1
    obtain ⟨y, h1, h2⟩ := h.get (i := j) e1
    exact ⟨y, h1, h2⟩
theorem wr_ixL {k : Int} (l : LstOf M d ds) (h1 : atI ds k = some e) (h : Q2 e M) : WR Z (rIxL Z.W.K) d (.i k) M Q2 := fun G H vx vy Q s R dx dy r => by
  obtain ⟨a, xs, e1, e2, e3⟩ := lst_at R dx l
  obtain ⟨y, h2, h3⟩ := atI_dat e3 h1
  exact ⟨a, xs, k, y, e1, dat_v.mp dy, SqL.of e2, h2, r _ _ G M H (Same.refl G) R h3 h⟩
theorem wr_ixT {k : Int} (h1 : atI ds k = some e) (h : Q2 e M) : WR Z (rIxT Z.W.K) (.tup ds) (.i k) M Q2 := fun G H vx vy Q s R dx dy r => by
  obtain ⟨a, xs, e1, e2, e3⟩ := dat_tup.mp dx
  obtain ⟨y, h2, h3⟩ := atI_dat e3 h1
  exact ⟨a, xs, k, y, e1, dat_v.mp dy, sqt_mono R.ex e2, h2, r _ _ G M H (Same.refl G) R h3 h⟩
theorem wr_ixS {z : Str} {k : Int} {c : Nat} (hz : z.length ≤ sizeLine) (h1 : atI z.cps.toList k = some c) (h : Q2 (.s ⟨#[c]⟩) M) : WR Z rIxS (.s z) (.i k) M Q2 := fun G H vx vy Q s R dx dy r =>
  ⟨z, k, c, dat_v.mp dx, dat_v.mp dy, hz, h1, r _ _ G M H (Same.refl G) R dat_v' h⟩
theorem wc_len (l : SqOf M d ds) (h : Q2 (.i (ds.length : Nat)) M) : WC Z (fun xs H Q => ∃ p ys, xs = [.ref p] ∧ (SqL Z.W.K H p ys ∨ SqT Z.W.K H p ys) ∧ Q (.int ys.length) H) [d] M Q2 := fun G H vs Q s R x r => by
  obtain ⟨y, rr, e1, h1, h2⟩ := datL_cons.mp x
  rw [datL_nil.mp h2] at e1
  obtain ⟨a, xs, e2, e3, e4⟩ := sq_at rfl R h1 l
  subst e1 e2
  refine ⟨a, xs, rfl, e3, ?_⟩
  rw [e4.length]
  exact r _ _ G M H (Same.refl G) R dat_v' h
theorem one_of {xs : List V} (h : DatL W G [d] xs) : ∃ y, xs = [y] ∧ Dat W G d y := by
  obtain ⟨y, rr, e1, h1, h2⟩ := datL_cons.mp h
  rw [datL_nil.mp h2] at e1
  exact ⟨y, e1, h1⟩
theorem two_of {xs : List V} (h : DatL W G [d, e] xs) : ∃ y z, xs = [y, z] ∧ Dat W G d y ∧ Dat W G e z := by
  obtain ⟨y, rr, e1, h1, h2⟩ := datL_cons.mp h
  obtain ⟨z, e2, h3⟩ := one_of h2
  subst e2
  exact ⟨y, z, e1, h1, h3⟩
theorem wc_lenS {z : Str} (hz : z.length ≤ sizeLine) (h : Q2 (.i (z.length : Nat)) M) : WC Z (fun xs H Q => ∃ z, xs = [.str z] ∧ z.length ≤ sizeLine ∧ Q (.int z.length) H) [.s z] M Q2 := fun G H vs Q s R x r => by
  obtain ⟨y, e1, h1⟩ := one_of x
  rw [dat_v.mp h1] at e1
  exact ⟨z, e1, hz, r _ _ G M H (Same.refl G) R dat_v' h⟩
/-- list(..): frozen -/
theorem wc_list (l : SqOf M d ds) (h : Q2 (.lst ds) M) : WC Z (fun xs H Q => ∃ p ys, xs = [.ref p] ∧ (SqL Z.W.K H p ys ∨ SqT Z.W.K H p ys) ∧ ∀ l, H l = none → Q (.ref l) (upd H l (.lst ys))) [d] M Q2 := fun G H vs Q s R x r => by
  obtain ⟨y, e1, h1⟩ := one_of x
  obtain ⟨a, xs, e2, e3, e4⟩ := sq_at rfl R h1 l
  subst e1 e2
  exact ⟨a, xs, rfl, e3, fun p hp => r _ _ (upd G p (.lst xs)) M _ (same_new (R.gnone hp)) (R.new hp) (dat_lst.mpr ⟨p, xs, rfl, upd_same, e4.mono (same_new (R.gnone hp))⟩) h⟩
/-- list(..): may change -/
theorem wc_listM (l : SqOf M d ds) (h : ∀ p, M p = none → Q2 (.r p) (updM M p (.lst ds))) : WC Z (fun xs H Q => ∃ p ys, xs = [.ref p] ∧ (SqL Z.W.K H p ys ∨ SqT Z.W.K H p ys) ∧ ∀ l, H l = none → Q (.ref l) (upd H l (.lst ys))) [d] M Q2 := fun G H vs Q s R x r => by
  obtain ⟨y, e1, h1⟩ := one_of x
  obtain ⟨a, xs, e2, e3, e4⟩ := sq_at rfl R h1 l
  subst e1 e2
  exact ⟨a, xs, rfl, e3, fun p hp => r _ _ G _ _ (Same.refl G) (R.newM (mo := .lst ds) hp ⟨xs, upd_same, e4⟩) dat_v' (h p (R.mnone hp))⟩
theorem wc_tuple (l : SqOf M d ds) (h : Q2 (.tup ds) M) : WC Z (fun xs H Q => ∃ p ys, xs = [.ref p] ∧ ((SqL Z.W.K H p ys ∧ ∀ l, H l = none → Q (.ref l) (upd H l (.tup ys))) ∨ (SqT Z.W.K H p ys ∧ Q (.ref p) H))) [d] M Q2 := fun G H vs Q s R x r => by
  obtain ⟨y, e1, h1⟩ := one_of x
  subst e1
  rcases l with l | rfl
  · obtain ⟨a, xs, e2, e3, e4⟩ := lst_at R h1 l
    subst e2
    exact ⟨a, xs, rfl, .inl ⟨SqL.of e3, fun p hp => r _ _ (upd G p (.tup xs)) M _ (same_new (R.gnone hp)) (R.new hp) (dat_tup.mpr ⟨p, xs, rfl, SqT.of upd_same, e4.mono (same_new (R.gnone hp))⟩) h⟩⟩
  · obtain ⟨a, xs, e2, e3, e4⟩ := dat_tup.mp h1
    subst e2
    exact ⟨a, xs, rfl, .inr ⟨sqt_mono R.ex e3, r _ _ G M H (Same.refl G) R h1 h⟩⟩
/-! ### methods of built-in things -/
def WM (Z : Zn) (r : V → List V → Hp → VK → Prop) (x : DV) (xs : List DV) (M : Mu) (Q2 : DQ) : Prop :=
  ∀ G H vx vs Q, Same Z.G G → Rep Z.W G M Z.F H → Dat Z.W G x vx → DatL Z.W G xs vs → RetOk Z.W G Z.F Q2 Q → r vx vs H Q
def TyOk (W : Wd) (T : String) (M : Mu) (d : DV) : Prop := ∀ G F H v, Rep W G M F H → Dat W G d v → tyV W.K T v H
theorem tyOk_lst (l : LstOf M d ds) : TyOk W "list" M d := fun G F H v R h => by
  obtain ⟨a, xs, e1, e2, e3⟩ := lst_at R h l
  subst e1
  exact .inl ⟨rfl, xs, SqL.of e2⟩
theorem tyOk_str {z : Str} : TyOk W "str" M (.s z) := fun G F H v R h => by
  rw [dat_v.mp h]
  rfl
theorem we_bm {T : String} {r : V → List V → Hp → VK → Prop} (h : WE Z te ρ M fun d M1 => TyOk Z.W T M1 d ∧ WA Z tx ρ M1 fun ds M2 => WM Z r d ds M2 Q2) : WE Z (tBM Z.W.K T r te tx) ρ M Q2 := fun G σ H Q s R E rt =>
  h G σ H _ s R E fun d v G1 M1 H1 s1 R1 x q => ⟨q.1 G1 Z.F H1 v R1 x, q.2 G1 σ H1 _ (s.trans s1) R1 (E.mono s1) fun ds vs G2 M2 H2 s2 R2 xs q2 =>
    q2 G2 H2 v vs Q ((s.trans s1).trans s2) R2 (x.mono s2) xs (rt.mono (s1.trans s2))⟩
theorem we_bm0 {T : String} {r : V → List V → Hp → VK → Prop} (h : WE Z te ρ M fun d M1 => TyOk Z.W T M1 d ∧ WM Z r d [] M1 Q2) : WE Z (tBM0 Z.W.K T r te) ρ M Q2 := fun G σ H Q s R E rt =>
  h G σ H _ s R E fun d v G1 M1 H1 s1 R1 x q => ⟨q.1 G1 Z.F H1 v R1 x, q.2 G1 H1 v [] Q (s.trans s1) R1 x datL_nil' (rt.mono s1)⟩
theorem wm_append {a : Addr} (hm : M a = some (.lst ds)) (hz : ds.length < sizeLine) (h : Q2 .n (updM M a (.lst (ds ++ [e])))) : WM Z rAppend (.r a) [e] M Q2 := fun G H vx vs Q s R x xs r => by
  obtain ⟨y, e1, h1⟩ := one_of xs
  obtain ⟨ys, h2, h3⟩ := (R.mu a _ hm).2
  refine ⟨a, ys, y, dat_v.mp x, e1, h2, by rw [h3.length]; exact hz, ?_⟩
  exact r _ _ G _ _ (Same.refl G) (R.write (mo' := .lst (ds ++ [e])) hm ⟨_, upd_same, h3.append (datL_cons' h1 datL_nil')⟩) dat_v' h
theorem wm_extend {a : Addr} (hm : M a = some (.lst ds)) (l : LstOf M e es) (hz : ds.length + es.length ≤ sizeLine) (h : Q2 .n (updM M a (.lst (ds ++ es)))) : WM Z rExtend (.r a) [e] M Q2 := fun G H vx vs Q s R x xs r => by
  obtain ⟨y, e1, h1⟩ := one_of xs
  obtain ⟨ys, h2, h3⟩ := (R.mu a _ hm).2
  obtain ⟨b, zs, e2, e3, e4⟩ := lst_at R h1 l
  subst e2
  refine ⟨a, b, ys, zs, dat_v.mp x, e1, h2, e3, by rw [h3.length, e4.length]; exact hz, ?_⟩
  exact r _ _ G _ _ (Same.refl G) (R.write (mo' := .lst (ds ++ es)) hm ⟨_, upd_same, h3.append e4⟩) dat_v' h
/-! ### + of lists, slices -/
theorem wr_cat (l : LstOf M x ds) (k : LstOf M y es) (hz : ds.length + es.length ≤ sizeLine) (h : Q2 (.lst (ds ++ es)) M) : WR Z rCat x y M Q2 := fun G H vx vy Q s R dx dy r => by
  obtain ⟨a, xs, e1, e2, e3⟩ := lst_at R dx l
  obtain ⟨b, ys, f1, f2, f3⟩ := lst_at R dy k
  exact ⟨a, b, xs, ys, e1, f1, e2, f2, by rw [e3.length, f3.length]; exact hz, fun p hp =>
    r _ _ (upd G p (.lst (xs ++ ys))) M _ (same_new (R.gnone hp)) (R.new hp) (dat_lst.mpr ⟨p, _, rfl, upd_same, (e3.append f3).mono (same_new (R.gnone hp))⟩) h⟩
theorem datL_flat {xs : List V} (h : DatL W G ds xs) : ∀ n : Nat, DatL W G (List.replicate n ds).flatten (List.replicate n xs).flatten
  | 0 => datL_nil'
  | n + 1 => by
    rw [List.replicate_succ, List.replicate_succ, List.flatten_cons, List.flatten_cons]
    exact h.append (datL_flat h n)
theorem wr_rep {k : Int} (l : LstOf M x ds) (h1 : -(2 ^ 63) ≤ k) (h2 : k < 2 ^ 63) (hz : ds.length * k.toNat ≤ sizeLine) (h : Q2 (.lst (List.replicate k.toNat ds).flatten) M) : WR Z rRep x (.i k) M Q2 := fun G H vx vy Q s R dx dy r => by
  obtain ⟨a, xs, e1, e2, e3⟩ := lst_at R dx l
  exact ⟨a, k, xs, e1, dat_v.mp dy, e2, h1, h2, by rw [e3.length]; exact hz, fun p hp =>
    r _ _ (upd G p _) M _ (same_new (R.gnone hp)) (R.new hp) (dat_lst.mpr ⟨p, _, rfl, upd_same, (datL_flat e3 _).mono (same_new (R.gnone hp))⟩) h⟩
/-- an optional bound -/
def WO (Z : Zn) (t : TO) (ρ : Ro) (M : Mu) (Q2 : Option Int → Mu → Prop) : Prop :=
  ∀ G σ H Q, Same Z.G G → Rep Z.W G M Z.F H → EnvOk Z.W G ρ σ → (∀ o G' M' H', Same G G' → Rep Z.W G' M' Z.F H' → Q2 o M' → Q o H') → t σ H Q
theorem wo_none {P : Option Int → Mu → Prop} (h : P none M) : WO Z tNoPart ρ M P := fun G σ H Q s R E r => r none G M H (Same.refl G) R h
theorem wo_some {P : Option Int → Mu → Prop} (h : WE Z te ρ M fun d M1 => ∃ i, d = .i i ∧ P (some i) M1) : WO Z (tPart te) ρ M P := fun G σ H Q s R E r =>
  h G σ H _ s R E fun d v G1 M1 H1 s1 R1 x q => by
    obtain ⟨i, rfl, q⟩ := q
    exact ⟨i, dat_v.mp x, r _ G1 M1 H1 s1 R1 q⟩
def WL (Z : Zn) (r : V → Option Int → Option Int → Hp → VK → Prop) (x : DV) (lo hi : Option Int) (M : Mu) (Q2 : DQ) : Prop :=
  ∀ G H vx Q, Same Z.G G → Rep Z.W G M Z.F H → Dat Z.W G x vx → RetOk Z.W G Z.F Q2 Q → r vx lo hi H Q
theorem we_sl {r : V → Option Int → Option Int → Hp → VK → Prop} {tl th : TO} (h : WE Z te ρ M fun d M1 => WO Z tl ρ M1 fun lo M2 => WO Z th ρ M2 fun hi M3 => WL Z r d lo hi M3 Q2) : WE Z (tSl r te tl th) ρ M Q2 := fun G σ H Q s R E rt =>
  h G σ H _ s R E fun d v G1 M1 H1 s1 R1 x q => q G1 σ H1 _ (s.trans s1) R1 (E.mono s1) fun lo G2 M2 H2 s2 R2 q2 => q2 G2 σ H2 _ ((s.trans s1).trans s2) R2 ((E.mono s1).mono s2) fun hi G3 M3 H3 s3 R3 q3 =>
    q3 G3 H3 v Q (((s.trans s1).trans s2).trans s3) R3 ((x.mono s2).mono s3) (rt.mono ((s1.trans s2).trans s3))
def cutD {α : Type} (xs : List α) (lo hi : Option Int) : List α := (xs.drop (HT.sIx xs.length 0 lo)).take (HT.sIx xs.length xs.length hi - HT.sIx xs.length 0 lo)
theorem datL_cut {xs : List V} (lo hi : Option Int) (h : DatL W G ds xs) : DatL W G (cutD ds lo hi) (cutV xs lo hi) := by
  unfold cutD cutV
  rw [h.length]
  exact (h.drop _).take _
theorem wl_list {lo hi : Option Int} (l : LstOf M x ds) (h : Q2 (.lst (cutD ds lo hi)) M) : WL Z (rSlL Z.W.K) x lo hi M Q2 := fun G H vx Q s R dx r => by
  obtain ⟨a, xs, e1, e2, e3⟩ := lst_at R dx l
  exact ⟨a, xs, e1, SqL.of e2, fun p hp =>
    r _ _ (upd G p _) M _ (same_new (R.gnone hp)) (R.new hp) (dat_lst.mpr ⟨p, _, rfl, upd_same, (datL_cut lo hi e3).mono (same_new (R.gnone hp))⟩) h⟩
/-- of a thing that stands in the frozen heap at the beginning (the script) -/
theorem wl_list0 {lo hi : Option Int} {a : Addr} {xs : List V} (hs : SqL Z.W.K Z.G a xs) (h : Q2 (.lst ((cutV xs lo hi).map DV.v)) M) : WL Z (rSlL Z.W.K) (.r a) lo hi M Q2 := fun G H vx Q s R dx r =>
  ⟨a, xs, dat_v.mp dx, sql_mono R.ex (sql_mono s hs), fun p hp =>
    r _ _ (upd G p _) M _ (same_new (R.gnone hp)) (R.new hp) (dat_lst.mpr ⟨p, _, rfl, upd_same, datL_v _⟩) h⟩
/-! ### chains -/
theorem we_chain {r r' : R2} (h : WE Z ta ρ M fun x M1 => WE Z tb ρ M1 fun y M2 => WR Z r x y M2 fun z M3 => ∃ k, z = .b k ∧ if k = true then WE Z tc ρ M3 fun w M4 => WR Z r' y w M4 Q2 else Q2 (.b false) M3) : WE Z (tChain r r' ta tb tc) ρ M Q2 := fun G σ H Q s R E rt =>
  h G σ H _ s R E fun x vx G1 M1 H1 s1 R1 dx h1 => h1 G1 σ H1 _ (s.trans s1) R1 (E.mono s1) fun y vy G2 M2 H2 s2 R2 dy h2 =>
    h2 G2 H2 vx vy _ ((s.trans s1).trans s2) R2 (dx.mono s2) dy fun z vz G3 M3 H3 s3 R3 dz h3 => by
      obtain ⟨k, rfl, h3⟩ := h3
      refine ⟨k, dat_v.mp dz, ?_⟩
      cases k with
      | false => exact rt _ _ G3 M3 H3 ((s1.trans s2).trans s3) R3 dat_v' h3
      | true =>
        refine h3 G3 σ H3 _ (((s.trans s1).trans s2).trans s3) R3 (((E.mono s1).mono s2).mono s3) fun w vw G4 M4 H4 s4 R4 dw h4 => ?_
        exact h4 G4 H4 vy vw Q ((((s.trans s1).trans s2).trans s3).trans s4) R4 ((dy.mono s3).mono s4) dw (rt.mono (((s1.trans s2).trans s3).trans s4))
/-! ### all, any, sum -/
theorem datL_bl : ∀ {bs : List Bool} {xs : List V}, DatL W G (bs.map DV.b) xs → xs = bs.map V.bl
  | [], xs, h => datL_nil.mp h
  | b :: bs, xs, h => by
    obtain ⟨y, r, e1, h1, h2⟩ := datL_cons.mp h
    rw [e1, dat_v.mp h1, datL_bl h2]
    rfl
theorem datL_int : ∀ {bs : List Int} {xs : List V}, DatL W G (bs.map DV.i) xs → xs = bs.map V.int
  | [], xs, h => datL_nil.mp h
  | b :: bs, xs, h => by
    obtain ⟨y, r, e1, h1, h2⟩ := datL_cons.mp h
    rw [e1, dat_v.mp h1, datL_int h2]
    rfl
theorem datL_str : ∀ {bs : List Str} {xs : List V}, DatL W G (bs.map DV.s) xs → xs = bs.map V.str
  | [], xs, h => datL_nil.mp h
  | b :: bs, xs, h => by
    obtain ⟨y, r, e1, h1, h2⟩ := datL_cons.mp h
    rw [e1, dat_v.mp h1, datL_str h2]
    rfl
theorem wc_all {bs : List Bool} (l : LstOf M d (bs.map DV.b)) (h : Q2 (.b (bs.all id)) M) : WC Z (rAll Z.W.K) [d] M Q2 := fun G H vs Q s R x r => by
  obtain ⟨y, e1, h1⟩ := one_of x
  obtain ⟨a, xs, e2, e3, e4⟩ := lst_at R h1 l
  rw [datL_bl e4] at e3
  subst e1 e2
  exact ⟨a, bs, rfl, SqL.of e3, r _ _ G M H (Same.refl G) R dat_v' h⟩
theorem wc_any {bs : List Bool} (l : LstOf M d (bs.map DV.b)) (h : Q2 (.b (bs.any id)) M) : WC Z (rAny Z.W.K) [d] M Q2 := fun G H vs Q s R x r => by
  obtain ⟨y, e1, h1⟩ := one_of x
  obtain ⟨a, xs, e2, e3, e4⟩ := lst_at R h1 l
  rw [datL_bl e4] at e3
  subst e1 e2
  exact ⟨a, bs, rfl, SqL.of e3, r _ _ G M H (Same.refl G) R dat_v' h⟩
end
end DL
set_option Elab.async false
set_option linter.all false
set_option maxRecDepth 100000
set_option maxHeartbeats 2000000
/-! DL3: freezing, fields, defs and their promises, loops, comprehensions. -/
namespace DL
open PySem PySem.Spec PyProof.Rows L2

/-! ### a changeable thing is frozen -/
def MO.frz : MO → DV
  | .lst ds => .lst ds
  | .ins C ns ds => .obj C ns ds
  | .dk ks ds => .dk ks ds
  | .dl ks ds => .dl ks ds
  | .pre _ => .n
  | .tab _ => .n
def MO.solid : MO → Prop
  | .pre _ => False
  | .tab _ => False
  | _ => True
section
variable {W : Wd} {Z : Zn} {G G' F : Hp} {ρ : Ro} {σ : L2.St} {M : Mu} {H : Hp} {te ta tb tc : TE} {tt tu : TT} {ts tr : TS} {tx : TA} {Q2 Q2' : DQ} {D2 : Ends2} {d e x y : DV} {ds es : List DV} {v : V}
theorem Rep.freeze {a : Addr} {mo : MO} (R : Rep W G M F H) (hm : M a = some mo) (so : mo.solid) : ∃ G', Same G G' ∧ Rep W G' (delM M a) F H ∧ Dat W G' mo.frz (.ref a) := by
  obtain ⟨g0, at_⟩ := R.mu a mo hm
  have fa : F a = none := by
    cases q : F a with
    | none => rfl
    | some o => rw [(R.fd a o q).2] at hm; cases hm
  have main : ∀ u, H a = some u → Rep W (upd G a u) (delM M a) F H := fun u hu => {
    ex := fun b o e => by
      by_cases h : b = a
      · subst h; rw [upd_same] at e; rw [← e]; exact hu
      · rw [upd_ne h] at e; exact R.ex b o e
    fr := R.fr
    fd := fun b o e => by
      have ne : b ≠ a := fun z => by subst z; rw [fa] at e; cases e
      rw [upd_ne ne, delM_ne ne]; exact R.fd b o e
    mu := fun b o e => by
      have ne : b ≠ a := fun z => by subst z; rw [delM_same] at e; cases e
      rw [delM_ne ne] at e
      obtain ⟨h1, h2⟩ := R.mu b o e
      exact ⟨by rw [upd_ne ne]; exact h1, h2.mono (same_new g0)⟩ }
  cases mo with
  | lst ds =>
    obtain ⟨xs, h1, h2⟩ := at_
    exact ⟨_, same_new g0, main _ h1, dat_lst.mpr ⟨a, xs, rfl, upd_same, h2.mono (same_new g0)⟩⟩
  | ins C ns ds =>
    obtain ⟨dx, xs, h1, h2, h3⟩ := at_
    exact ⟨_, same_new g0, main _ h1, dat_obj.mpr ⟨a, dx, xs, rfl, upd_same, h2, h3.mono (same_new g0)⟩⟩
  | dk ks ds =>
    obtain ⟨xs, h1, h2, h3⟩ := at_
    exact ⟨_, same_new g0, main _ h1, dat_dk.mpr ⟨a, xs, rfl, .inl upd_same, h2, h3.mono (same_new g0)⟩⟩
  | dl ks ds =>
    obtain ⟨xs, h1, h2, h3⟩ := at_
    exact ⟨_, same_new g0, main _ h1, dat_dl.mpr ⟨a, xs, rfl, upd_same, h2, h3.mono (same_new g0)⟩⟩
  | pre P => exact so.elim
  | tab q => exact so.elim
/-- what an expression gives is frozen at once -/
theorem we_frz (h : WE Z te ρ M fun d M1 => ∃ a mo, d = .r a ∧ M1 a = some mo ∧ mo.solid ∧ Q2 mo.frz (delM M1 a)) : WE Z te ρ M Q2 := fun G σ H Q s R E r =>
  h G σ H Q s R E fun d v G1 M1 H1 s1 R1 x q => by
    obtain ⟨a, mo, rfl, hm, so, q⟩ := q
    obtain ⟨G2, s2, R2, x2⟩ := R1.freeze hm so
    rw [dat_v.mp x]
    exact r _ _ G2 _ H1 (s1.trans s2) R2 x2 q
/-- the thing in a slot is frozen -/
theorem ws_frz (i : Nat) {a : Addr} {mo : MO} (hi : ρ[i]? = some (some (.r a))) (hm : M a = some mo) (so : mo.solid) (h : WS Z ts D2 (ρ.set i (some mo.frz)) (delM M a)) : WS Z ts D2 ρ M := fun G σ H D s R E e => by
  obtain ⟨G2, s2, R2, x2⟩ := R.freeze hm so
  have E2 := (E.mono s2).set (i := i) x2
  obtain ⟨v, h1, h2⟩ := E.get i _ hi
  rw [dat_v.mp h2] at h1
  have es : σ.set i (some (.ref a)) = σ := by
    apply List.ext_getElem?
    intro j
    by_cases q : i = j
    · subst q
      rw [List.getElem?_set_self (List.getElem?_eq_some_iff.mp h1).1, h1]
    · rw [List.getElem?_set_ne q]
  rw [es] at E2
  exact h G2 σ H D (s.trans s2) R2 E2 (e.mono s2)
/-! ### fields -/
def ObjOf (M : Mu) (d : DV) (C : Addr) (ns : List Str) (ds : List DV) : Prop := d = .obj C ns ds ∨ ∃ a, d = .r a ∧ M a = some (.ins C ns ds)
theorem ObjOf.fz {C : Addr} {ns : List Str} : ObjOf M (.obj C ns ds) C ns ds := .inl rfl
theorem ObjOf.mu {a C : Addr} {ns : List Str} (h : M a = some (.ins C ns ds)) : ObjOf M (.r a) C ns ds := .inr ⟨a, rfl, h⟩
theorem obj_at {C : Addr} {ns : List Str} (R : Rep W G M F H) (h : Dat W G d v) (l : ObjOf M d C ns ds) : ∃ a dx xs, v = .ref a ∧ H a = some (.ins C dx (ns.zip xs)) ∧ ns.length = ds.length ∧ DatL W G ds xs := by
  rcases l with rfl | ⟨a, rfl, hm⟩
  · obtain ⟨a, dx, xs, h1, h2, h3, h4⟩ := dat_obj.mp h
    exact ⟨a, dx, xs, h1, R.ex _ _ h2, h3, h4⟩
  · obtain ⟨dx, xs, h1, h2, h3⟩ := (R.mu a _ hm).2
    exact ⟨a, dx, xs, dat_v.mp h, h1, h2, h3⟩
theorem zip_look : ∀ {ns : List Str} {ds : List DV} {xs : List V} {f : Str}, DatL W G ds xs → ∀ {e : DV}, (ns.zip ds).lookup f = some e → ∃ y, (ns.zip xs).lookup f = some y ∧ Dat W G e y
  | [], ds, xs, f, h, e, q => by simp at q
  | n :: ns, [], xs, f, h, e, q => by simp at q
  | n :: ns, d :: ds, xs, f, h, e, q => by
    obtain ⟨y, r, e1, h1, h2⟩ := datL_cons.mp h
    subst e1
    rw [List.zip_cons_cons, List.lookup_cons] at q ⊢
    cases z : f == n with
    | true => rw [z] at q; cases q; exact ⟨y, rfl, h1⟩
    | false => rw [z] at q; exact zip_look h2 q
theorem zip_none : ∀ {ns : List Str} {ds : List DV} {xs : List V} {f : Str}, DatL W G ds xs → (ns.zip ds).lookup f = none → (ns.zip xs).lookup f = none
  | [], ds, xs, f, h, q => by simp
  | n :: ns, [], xs, f, h, q => by rw [datL_nil.mp h]; simp
  | n :: ns, d :: ds, xs, f, h, q => by
    obtain ⟨y, r, e1, h1, h2⟩ := datL_cons.mp h
    subst e1
    rw [List.zip_cons_cons, List.lookup_cons] at q ⊢
    cases z : f == n with
    | true => rw [z] at q; cases q
    | false => rw [z] at q; exact zip_none h2 q
theorem we_fld {f : Str} (h : WE Z te ρ M fun d M1 => ∃ C ns ds e, ObjOf M1 d C ns ds ∧ Cls Z.W.K C ∧ NoAttr Z.W.K C f ∧ (ns.zip ds).lookup f = some e ∧ Q2 e M1) : WE Z (tFld Z.W.K te f) ρ M Q2 := fun G σ H Q s R E r =>
  h G σ H _ s R E fun d v G1 M1 H1 s1 R1 x q => by
    obtain ⟨C, ns, ds, e, o, c, n, l, q⟩ := q
    obtain ⟨a, dx, xs, e1, e2, e3, e4⟩ := obj_at R1 x o
    obtain ⟨y, l1, l2⟩ := zip_look e4 l
    exact ⟨a, C, dx, _, y, e1, e2, c, n, l1, r _ _ G1 M1 H1 s1 R1 l2 q⟩
/-- a field is stored -/
def putN (f : Str) : List Str → List Str
  | [] => [f]
  | n :: ns => if n = f then n :: ns else n :: putN f ns
def putD (f : Str) (e : DV) : List Str → List DV → List DV
  | [], _ => [e]
  | n :: ns, [] => []
  | n :: ns, d :: ds => if n = f then e :: ds else d :: putD f e ns ds
theorem putF_eq (f : Str) (v : V) (l : List (Str × V)) : putF f v l = match l with
  | [] => [(f, v)]
  | (n, x) :: r => if n = f then (n, v) :: r else (n, x) :: putF f v r := by
  cases l with
  | nil => rfl
  | cons p r => cases p; rfl
theorem put_len : ∀ {ns : List Str} {ds : List DV} {f : Str} {e : DV}, ns.length = ds.length → (putN f ns).length = (putD f e ns ds).length
  | [], [], f, e, h => rfl
  | [], _ :: _, f, e, h => by simp at h
  | n :: ns, [], f, e, h => by simp at h
  | n :: ns, d :: ds, f, e, h => by
    unfold putN putD
    by_cases q : n = f
    · rw [if_pos q, if_pos q]; simpa using h
    · rw [if_neg q, if_neg q, List.length_cons, List.length_cons, put_len (by simpa using h)]
theorem put_dat : ∀ {ns : List Str} {ds : List DV} {xs : List V} {f : Str} {e : DV} {y : V}, ns.length = ds.length → DatL W G ds xs → Dat W G e y → ∃ zs, putF f y (ns.zip xs) = (putN f ns).zip zs ∧ DatL W G (putD f e ns ds) zs
  | [], ds, xs, f, e, y, hl, h, k => by
    refine ⟨[y], ?_, datL_cons' k datL_nil'⟩
    rw [List.zip_nil_left]
    rfl
  | n :: ns, [], xs, f, e, y, hl, h, k => by simp at hl
  | n :: ns, d :: ds, xs, f, e, y, hl, h, k => by
    obtain ⟨x, r, e1, h1, h2⟩ := datL_cons.mp h
    subst e1
    rw [List.zip_cons_cons, putF_eq]
    unfold putN putD
    by_cases q : n = f
    · refine ⟨y :: r, ?_, ?_⟩
      · rw [if_pos q]; dsimp only; rw [if_pos q]; rfl
      · rw [if_pos q]; exact datL_cons' k h2
    · obtain ⟨zs, z1, z2⟩ := put_dat (f := f) (by simpa using hl) h2 k
      refine ⟨x :: zs, ?_, ?_⟩
      · rw [if_neg q]; dsimp only; rw [if_neg q, z1]; rfl
      · rw [if_neg q]; exact datL_cons' h1 z2
theorem ws_fld {f : Str} (h : WE Z tb ρ M fun e M1 => WE Z ta ρ M1 fun d M2 => ∃ a C ns ds, d = .r a ∧ M2 a = some (.ins C ns ds) ∧ Cls Z.W.K C ∧ NoAttr Z.W.K C f ∧ ns.length < 1000 ∧ D2.nx ρ (updM M2 a (.ins C (putN f ns) (putD f e ns ds)))) : WS Z (sFld Z.W.K ta tb f) D2 ρ M := fun G σ H D s R E k =>
  h G σ H _ s R E fun e ve G1 M1 H1 s1 R1 x q => q G1 σ H1 _ (s.trans s1) R1 (E.mono s1) fun d vd G2 M2 H2 s2 R2 y q2 => by
    obtain ⟨a, C, ns, ds, rfl, hm, c, n, hl, q3⟩ := q2
    obtain ⟨dx, xs, h1, h2, h3⟩ := (R2.mu a _ hm).2
    obtain ⟨zs, z1, z2⟩ := put_dat (f := f) h2 h3 (x.mono s2)
    refine ⟨a, C, dx, _, dat_v.mp y, h1, c, n, ?_, ?_⟩
    · rw [List.length_zip, h3.length]; omega
    · refine k.nx _ _ G2 _ _ (s1.trans s2) (R2.write (mo' := .ins C (putN f ns) (putD f e ns ds)) hm ⟨dx, zs, ?_, put_len h2, z2⟩) ((E.mono s1).mono s2) q3
      rw [upd_same, z1]
end
/-! ### promises -/
abbrev XK2 := Addr → List Str → List DV → Mu → Prop
/-- the fields of an exception, in its own dict -/
def XdOk (W : Wd) (G : Hp) (d : Option Addr) (ns : List Str) (ds : List DV) : Prop := match d with
  | none => ns = [] ∧ ds = []
  | some dd => ∃ xs, G dd = some (.xd (ns.zip xs)) ∧ ns.length = ds.length ∧ DatL W G ds xs
def ExcOk (W : Wd) (G F : Hp) (E2 : XK2) (E : XK) : Prop := ∀ C ns ds d G' M' H', Same G G' → Rep W G' M' F H' → XdOk W G' d ns ds → E2 C ns ds M' → E (.ref C) d H'
theorem ExcOk.mono {W : Wd} {G G' F : Hp} {E2 : XK2} {E : XK} (e : Same G G') (h : ExcOk W G F E2 E) : ExcOk W G' F E2 E := fun C ns ds d G1 M1 H1 s R x q => h C ns ds d G1 M1 H1 (e.trans s) R x q
abbrev Sp2 := List DV → Mu → DQ → XK2 → Prop
def lift (W : Wd) (sp2 : Sp2) : Sp := fun vs H Q E => ∃ G F ds M Q2 E2, Rep W G M F H ∧ DatL W G ds vs ∧ sp2 ds M Q2 E2 ∧ RetOk W G F Q2 Q ∧ ExcOk W G F E2 E
abbrev E0' : XK2 := fun _ _ _ _ => False
theorem exc0 {W : Wd} {G F : Hp} : ExcOk W G F E0' E0 := fun _ _ _ _ _ _ _ _ _ _ h => h
def XcOk (Z : Zn) (E2 : XK2) (E : XK) : Prop := ExcOk Z.W Z.G Z.F E2 E
section
variable {W : Wd} {Z : Zn} {G G' F : Hp} {ρ : Ro} {σ : L2.St} {M : Mu} {H : Hp} {te ta tb tc : TE} {tt tu : TT} {ts tr : TS} {tx : TA} {Q2 Q2' : DQ} {D2 : Ends2} {d e x y : DV} {ds es : List DV} {v : V} {sp2 : Sp2} {E : XK} {E2 : XK2} {dvs : List V}
theorem xc0 : XcOk Z E0' E0 := exc0
theorem we_call (hx : XcOk Z E2 E) (h : WA Z tx ρ M fun ds M1 => sp2 (ds ++ dvs.map DV.v) M1 Q2 E2) : WE Z (tCall (lift Z.W sp2) dvs E tx) ρ M Q2 := fun G σ H Q s R En r =>
  h G σ H _ s R En fun ds vs G1 M1 H1 s1 R1 xs q => ⟨G1, Z.F, _, M1, Q2, E2, R1, xs.append (datL_v dvs), q, r.mono s1, hx.mono (s.trans s1)⟩
theorem we_meth {C : Addr} {m : Str} (hx : XcOk Z E2 E) (h : WE Z ta ρ M fun d M1 => (∃ ns ds, ObjOf M1 d C ns ds ∧ (ns.zip ds).lookup m = none) ∧ WA Z tx ρ M1 fun es M2 => sp2 (d :: (es ++ dvs.map DV.v)) M2 Q2 E2) :
    WE Z (tMeth C m (lift Z.W sp2) dvs E ta tx) ρ M Q2 := fun G σ H Q s R En r =>
  h G σ H _ s R En fun d v G1 M1 H1 s1 R1 x q => by
    obtain ⟨⟨ns, ds, o, l⟩, q⟩ := q
    obtain ⟨a, dx, xs, e1, e2, e3, e4⟩ := obj_at R1 x o
    refine ⟨a, dx, _, e1, e2, zip_none e4 l, ?_⟩
    refine q G1 σ H1 _ (s.trans s1) R1 (En.mono s1) fun es vs G2 M2 H2 s2 R2 xs q2 => ?_
    exact ⟨G2, Z.F, _, M2, Q2, E2, R2, datL_cons' (x.mono s2) (xs.append (datL_v dvs)), q2, r.mono (s1.trans s2), hx.mono ((s.trans s1).trans s2)⟩
theorem Rep.made {x dx C : Addr} (R : Rep W G M F H) (hx : H x = none) (hd : H dx = none) (ne : dx ≠ x) : Rep W G (updM M x (.ins C [] [])) F (upd (upd H dx (.own x)) x (.ins C dx [])) := by
  have R1 : Rep W G M F (upd H dx (.own x)) := R.skip hd
  have hx1 : upd H dx (.own x) x = none := by rw [upd_ne (Ne.symm ne)]; exact hx
  exact R1.newM (mo := .ins C [] []) hx1 ⟨dx, [], upd_same, rfl, datL_nil'⟩
theorem we_make {C : Addr} (hx : XcOk Z E2 E) (h : WA Z tx ρ M fun es M1 => ∀ x, M1 x = none → sp2 (.r x :: (es ++ dvs.map DV.v)) (updM M1 x (.ins C [] [])) (fun d M2 => d = .n ∧ Q2 (.r x) M2) E2) :
    WE Z (tMake C (lift Z.W sp2) dvs E tx) ρ M Q2 := fun G σ H Q s R En r =>
  h G σ H _ s R En fun es vs G1 M1 H1 s1 R1 xs q => fun x dx hx0 hd0 ne =>
    ⟨G1, Z.F, _, _, _, E2, R1.made hx0 hd0 ne, datL_cons' dat_v' (xs.append (datL_v dvs)), q x (R1.mnone hx0), fun d v G2 M2 H2 s2 R2 y q2 => ⟨by rw [q2.1] at y; exact dat_v.mp y, r _ _ G2 M2 H2 (s1.trans s2) R2 dat_v' q2.2⟩, hx.mono (s.trans s1)⟩
/-- .. frozen when it is made -/
theorem we_makeF {C : Addr} (hx : XcOk Z E2 E) (h : WA Z tx ρ M fun es M1 => ∀ x, M1 x = none → sp2 (.r x :: (es ++ dvs.map DV.v)) (updM M1 x (.ins C [] [])) (fun d M2 => d = .n ∧ ∃ mo, M2 x = some mo ∧ mo.solid ∧ Q2 mo.frz (delM M2 x)) E2) :
    WE Z (tMake C (lift Z.W sp2) dvs E tx) ρ M Q2 := we_frz (we_make hx (h.imp fun es M1 k x h0 => by
      have := k x h0
      have e : (fun d M2 => d = DV.n ∧ ∃ mo, M2 x = some mo ∧ mo.solid ∧ Q2 mo.frz (delM M2 x)) = (fun d M2 => d = DV.n ∧ ∃ a mo, DV.r x = .r a ∧ M2 a = some mo ∧ mo.solid ∧ Q2 mo.frz (delM M2 a)) := by
        funext d M2
        apply propext
        constructor
        · rintro ⟨h1, mo, h2, h3⟩
          exact ⟨h1, x, mo, rfl, h2, h3⟩
        · rintro ⟨h1, a, mo, h0, h2, h3⟩
          have e0 : x = a := by
            injection h0 with h0
            injection h0
          subst e0
          exact ⟨h1, mo, h2, h3⟩
      rw [e] at this
      exact this))
end
/-! ### a def keeps its promise -/
section
variable {P : Program} {w : World} {K : PySem.W.Frag} {mg : Str → Option Value} {base : Heap}
abbrev Z_ (P : Program) (w : World) (K : PySem.W.Frag) (G F : Hp) : Zn := ⟨⟨P, w, K⟩, G, F⟩
theorem lift_len {W : Wd} {sp2 : Sp2} {n : Nat} (h : ∀ ds M Q2 E2, sp2 ds M Q2 E2 → ds.length = n) : ∀ vs H Q E, lift W sp2 vs H Q E → vs.length = n := fun vs H Q E ⟨G, F, ds, M, Q2, E2, R, x, q, _⟩ => by
  rw [x.length]
  exact h ds M Q2 E2 q
theorem ok2 {x qual : Str} {st : Stmt} {f : Addr} {fd : FuncData} {N ps : List Str} {k : Nat} {sp2 : Sp2} (F : Fun K x qual st f fd) (S : FnScope N ps (defScope st)) (len : ∀ ds M Q2 E2, sp2 ds M Q2 E2 → ds.length = ps.length)
    (hbody : ∀ (cdv : Value) (A : Around) (outer : List Env) (s : Shared) (H : Hp) (E : XK) (G Fr : Hp) (ds : List DV) (M : Mu) (Q2 : DQ) (E2 : XK2), Room k (A.deeper (envOfC qual (defScope st) s.heap.objs.size f cdv)) → sp2 ds M Q2 E2 →
      ∃ t, PSs (cxOf CX0 P w K mg base N qual (defScope st) f cdv A outer s H E).nox (defBody st) t ∧ WS (Z_ P w K G Fr) t { nx := fun _ M' => Q2 .n M', rt := Q2 } (start2 N ds) M) :
    FnOk P w K mg base CX0 (k + 1) f fd ps (lift ⟨P, w, K⟩ sp2) := by
  refine F.ok S (lift_len len) fun cdv A outer s H vs Q E hr h => ?_
  obtain ⟨G, Fr, ds, M, Q2, E2, R, x, q, r, ex⟩ := h
  obtain ⟨t, h1, h2⟩ := hbody cdv A outer s H E G Fr ds M Q2 E2 hr q
  refine ⟨t, h1, h2 G _ H _ (Same.refl G) R (env_start x) ⟨fun ρ' σ' G' M' H' s' R' _ q' => r _ _ G' M' H' s' R' dat_v' q', r, fun _ _ _ _ _ _ _ _ z => z.elim, fun _ _ _ _ _ _ _ _ z => z.elim⟩⟩
theorem okX2 {x qual : Str} {st : Stmt} {f : Addr} {fd : FuncData} {N ps : List Str} {k : Nat} {sp2 : Sp2} (F : Fun K x qual st f fd) (S : FnScope N ps (defScope st)) (len : ∀ ds M Q2 E2, sp2 ds M Q2 E2 → ds.length = ps.length)
    (hbody : ∀ (cdv : Value) (A : Around) (outer : List Env) (s : Shared) (H : Hp) (E : XK) (G Fr : Hp) (ds : List DV) (M : Mu) (Q2 : DQ) (E2 : XK2), Room k (A.deeper (envOfC qual (defScope st) s.heap.objs.size f cdv)) → sp2 ds M Q2 E2 → XcOk (Z_ P w K G Fr) E2 E →
      ∃ t, PSs (cxOf (L2.CX P w) P w K mg base N qual (defScope st) f cdv A outer s H E) (defBody st) t ∧ WS (Z_ P w K G Fr) t { nx := fun _ M' => Q2 .n M', rt := Q2 } (start2 N ds) M) :
    FnOk P w K mg base (L2.CX P w) (k + 1) f fd ps (lift ⟨P, w, K⟩ sp2) := by
  refine F.okX S (lift_len len) fun cdv A outer s H vs Q E hr h => ?_
  obtain ⟨G, Fr, ds, M, Q2, E2, R, x, q, r, ex⟩ := h
  obtain ⟨t, h1, h2⟩ := hbody cdv A outer s H E G Fr ds M Q2 E2 hr q ex
  refine ⟨t, h1, h2 G _ H _ (Same.refl G) R (env_start x) ⟨fun ρ' σ' G' M' H' s' R' _ q' => r _ _ G' M' H' s' R' dat_v' q', r, fun _ _ _ _ _ _ _ _ z => z.elim, fun _ _ _ _ _ _ _ _ z => z.elim⟩⟩
end
/-! ### loops -/
structure ItOk (W : Wd) (G : Hp) (J : It) (items : List DV) : Prop where
  go : ∀ i G' F M H', Same G G' → Rep W G' M F H' → i < items.length → J.go i H'
  stop : ∀ i G' F M H', Same G G' → Rep W G' M F H' → items.length ≤ i → J.stop i H'
  yld : ∀ i d G' F M H' x H'', Same G G' → Rep W G' M F H' → items[i]? = some d → J.yld i H' x H'' → ∃ G'', Same G' G'' ∧ Rep W G'' M F H'' ∧ Dat W G'' d x
def WI (Z : Zn) (wi : TI) (ρ : Ro) (M : Mu) (R2 : List DV → Mu → Prop) : Prop :=
  ∀ G σ H R, Same Z.G G → Rep Z.W G M Z.F H → EnvOk Z.W G ρ σ → (∀ items J G' M' H', Same G G' → Rep Z.W G' M' Z.F H' → ItOk Z.W G' J items → R2 items M' → R J H') → wi σ H R
def Loop (Z : Zn) (g : TG) (tb : TS) (D2 : Ends2) : List DV → Ro → Mu → Prop
  | [], ρ, M => D2.nx ρ M
  | d :: ds, ρ, M => WG Z g d ρ M fun ρ1 M1 => WS Z tb { D2 with nx := Loop Z g tb D2 ds, ct := Loop Z g tb D2 ds, bk := D2.nx } ρ1 M1
section
variable {W : Wd} {Z : Zn} {G G' F : Hp} {ρ : Ro} {σ : L2.St} {M : Mu} {H : Hp} {te ta tb tc : TE} {tt tu : TT} {ts tr : TS} {tx : TA} {Q2 Q2' : DQ} {D2 : Ends2} {d e x y : DV} {ds es : List DV} {v : V} {wi : TI} {g : TG}
theorem ItOk.mono {J : It} {items : List DV} (s : Same G G') (h : ItOk W G J items) : ItOk W G' J items :=
  ⟨fun i G1 F M H1 s1 R hi => h.go i G1 F M H1 (s.trans s1) R hi, fun i G1 F M H1 s1 R hi => h.stop i G1 F M H1 (s.trans s1) R hi, fun i d G1 F M H1 x H2 s1 R hd y => h.yld i d G1 F M H1 x H2 (s.trans s1) R hd y⟩
theorem itl_ok {a : Addr} {xs : List V} {ds : List DV} (h : SqL W.K G a xs) (hd : DatL W G ds xs) : ItOk W G (Itl W.K a) ds where
  go := fun i G' F M H' s R hi => by
    have hl := hd.length
    exact ⟨xs, xs[i], sql_mono R.ex (sql_mono s h), by simp [hl, hi]⟩
  stop := fun i G' F M H' s R hi => ⟨xs, sql_mono R.ex (sql_mono s h), by rw [hd.length]; exact hi⟩
  yld := fun i d G' F M H' x H'' s R e ⟨e1, y⟩ => by
    subst e1
    obtain ⟨z, h1, h2⟩ := (hd.mono s).get e
    have q := y xs (sql_mono R.ex (sql_mono s h))
    rw [h1] at q
    cases q
    exact ⟨G', Same.refl G', R, h2⟩
theorem wi_list {R2 : List DV → Mu → Prop} (h : WE Z te ρ M fun d M1 => ∃ ds, d = .lst ds ∧ R2 ds M1) : WI Z (iList Z.W.K te) ρ M R2 := fun G σ H R s Rp E r =>
  h G σ H _ s Rp E fun d v G1 M1 H1 s1 R1 x q => by
    obtain ⟨ds, rfl, q⟩ := q
    obtain ⟨a, xs, e1, e2, e3⟩ := dat_lst.mp x
    exact ⟨a, e1, ⟨xs, SqL.of (R1.ex _ _ e2)⟩, r ds _ G1 M1 H1 s1 R1 (itl_ok (SqL.of e2) e3) q⟩
theorem itt_ok {a : Addr} {xs : List V} {ds : List DV} (h : SqT W.K G a xs) (hd : DatL W G ds xs) : ItOk W G (Itt W.K a) ds where
  go := fun i G' F M H' s R hi => by
    have hl := hd.length
    exact ⟨xs, xs[i], sqt_mono R.ex (sqt_mono s h), by simp [hl, hi]⟩
  stop := fun i G' F M H' s R hi => ⟨xs, sqt_mono R.ex (sqt_mono s h), by rw [hd.length]; exact hi⟩
  yld := fun i d G' F M H' x H'' s R e ⟨e1, y⟩ => by
    subst e1
    obtain ⟨z, h1, h2⟩ := (hd.mono s).get e
    have q := y xs (sqt_mono R.ex (sqt_mono s h))
    rw [h1] at q
    cases q
    exact ⟨G', Same.refl G', R, h2⟩
theorem wi_tup {R2 : List DV → Mu → Prop} (h : WE Z te ρ M fun d M1 => ∃ ds, d = .tup ds ∧ R2 ds M1) : WI Z (iTup Z.W.K te) ρ M R2 := fun G σ H R s Rp E r =>
  h G σ H _ s Rp E fun d v G1 M1 H1 s1 R1 x q => by
    obtain ⟨ds, rfl, q⟩ := q
    obtain ⟨a, xs, e1, e2, e3⟩ := dat_tup.mp x
    exact ⟨a, e1, ⟨xs, sqt_mono R1.ex e2⟩, r ds _ G1 M1 H1 s1 R1 (itt_ok e2 e3) q⟩
def rangeD (lo : Int) (n : Nat) : List DV := (List.range n).map fun (i : Nat) => DV.i (lo + (i : Int))
theorem itr_ok {lo : Int} {n : Nat} : ItOk W G (Itr lo n) (rangeD lo n) where
  go := fun i G' F M H' s R hi => by
    have hi' : i < n := by simpa [rangeD] using hi
    exact hi'
  stop := fun i G' F M H' s R hi => by
    have hi' : n ≤ i := by simpa [rangeD] using hi
    exact hi'
  yld := fun i d G' F M H' x H'' s R e ⟨e1, y⟩ => by
    subst e1 y
    refine ⟨G', Same.refl G', R, ?_⟩
    unfold rangeD at e
    rw [List.getElem?_map] at e
    have hi : i < n := by
      cases q : (List.range n)[i]? with
      | none => rw [q] at e; cases e
      | some j => simpa using (List.getElem?_eq_some_iff.mp q).1
    rw [List.getElem?_range hi] at e
    cases e
    exact dat_v'
theorem wi_range1 {R2 : List DV → Mu → Prop} (h : WA Z tx ρ M fun ds M1 => ∃ j : Int, ds = [.i j] ∧ -(2 ^ 62) ≤ j ∧ j < 2 ^ 62 ∧ R2 (rangeD 0 j.toNat) M1) : WI Z (iRng1 tx) ρ M R2 := fun G σ H R s Rp E r =>
  h G σ H _ s Rp E fun ds vs G1 M1 H1 s1 R1 x q => by
    obtain ⟨j, rfl, h1, h2, q⟩ := q
    obtain ⟨y, e1, h3⟩ := one_of x
    rw [dat_v.mp h3] at e1
    exact ⟨j, e1, h1, h2, r _ _ G1 M1 H1 s1 R1 itr_ok q⟩
theorem wi_range2 {R2 : List DV → Mu → Prop} (h : WA Z tx ρ M fun ds M1 => ∃ i j : Int, ds = [.i i, .i j] ∧ (-(2 ^ 62) ≤ i ∧ i < 2 ^ 62 ∧ -(2 ^ 62) ≤ j ∧ j < 2 ^ 62) ∧ R2 (rangeD i (j - i).toNat) M1) : WI Z (iRng2 tx) ρ M R2 := fun G σ H R s Rp E r =>
  h G σ H _ s Rp E fun ds vs G1 M1 H1 s1 R1 x q => by
    obtain ⟨i, j, rfl, h1, q⟩ := q
    obtain ⟨y, z, e1, h3, h4⟩ := two_of x
    rw [dat_v.mp h3, dat_v.mp h4] at e1
    exact ⟨i, j, e1, h1, r _ _ G1 M1 H1 s1 R1 itr_ok q⟩
def enumD (ds : List DV) : List DV := ds.mapIdx fun i d => DV.tup [.i (i : Nat), d]
theorem ite_ok {a : Addr} {xs : List V} {ds : List DV} (h : SqL W.K G a xs) (hd : DatL W G ds xs) : ItOk W G (Ite W.K a) (enumD ds) where
  go := fun i G' F M H' s R hi => by
    have hl := hd.length
    have hi' : i < ds.length := by simpa [enumD] using hi
    exact ⟨xs, xs[i], sql_mono R.ex (sql_mono s h), by simp [hl, hi']⟩
  stop := fun i G' F M H' s R hi => by
    have hi' : ds.length ≤ i := by simpa [enumD] using hi
    exact ⟨xs, sql_mono R.ex (sql_mono s h), by rw [hd.length]; exact hi'⟩
  yld := fun i d G' F M H' x H'' s R e ⟨T, z, e1, hT, e2, y⟩ => by
    subst e1 e2
    unfold enumD at e
    rw [List.getElem?_mapIdx] at e
    cases q : ds[i]? with
    | none => rw [q] at e; cases e
    | some d0 =>
      rw [q] at e
      cases e
      obtain ⟨z', h1, h2⟩ := (hd.mono s).get q
      have q2 := y xs (sql_mono R.ex (sql_mono s h))
      rw [h1] at q2
      injection q2 with q2
      subst q2
      have sn := same_new (o := .tup [.int (i : Nat), z']) (R.gnone hT)
      exact ⟨_, sn, R.new hT, dat_tup.mpr ⟨T, _, rfl, SqT.of upd_same, datL_cons' dat_v' (datL_cons' (h2.mono sn) datL_nil')⟩⟩
theorem wi_enum {R2 : List DV → Mu → Prop} (h : WA Z tx ρ M fun ds M1 => ∃ es, ds = [.lst es] ∧ R2 (enumD es) M1) : WI Z (iEnum Z.W.K tx) ρ M R2 := fun G σ H R s Rp E r =>
  h G σ H _ s Rp E fun ds vs G1 M1 H1 s1 R1 x q => by
    obtain ⟨es, rfl, q⟩ := q
    obtain ⟨y, e1, h3⟩ := one_of x
    obtain ⟨a, xs, e2, e3, e4⟩ := dat_lst.mp h3
    subst e1 e2
    exact ⟨a, xs, rfl, SqL.of (R1.ex _ _ e3), r _ _ G1 M1 H1 s1 R1 (ite_ok (SqL.of e3) e4) q⟩
theorem drop_cons {α : Type} {l : List α} {i : Nat} (h : i < l.length) : l.drop i = l[i] :: l.drop (i + 1) := List.drop_eq_getElem_cons h
theorem ws_for (h : WI Z wi ρ M fun items M1 => Loop Z g ts D2 items ρ M1) : WS Z (tFor wi g ts) D2 ρ M := fun G σ H D s R E e => by
  refine h G σ H _ s R E fun items J G1 M1 H1 s1 R1 it q => ?_
  refine ⟨fun i m σ' H' => ∃ G' ρ' M', Same G1 G' ∧ Rep Z.W G' M' Z.F H' ∧ EnvOk Z.W G' ρ' σ' ∧ i ≤ items.length ∧ m = items.length - i ∧ Loop Z g ts D2 (items.drop i) ρ' M', ⟨items.length, G1, ρ, M1, Same.refl G1, R1, E.mono s1, Nat.zero_le _, rfl, q⟩, ?_⟩
  rintro i m σ' H' ⟨G', ρ', M', sg, R', E', hi, rfl, lp⟩
  by_cases hlt : i < items.length
  · rw [drop_cons hlt] at lp
    refine .inr ⟨it.go i G' Z.F M' H' sg R' hlt, fun σ2 H2 => ∃ G2 ρ2 M2, Same G1 G2 ∧ Rep Z.W G2 M2 Z.F H2 ∧ EnvOk Z.W G2 ρ2 σ2 ∧ Loop Z g ts D2 (items.drop (i + 1)) ρ2 M2, ?_, fun x H2 y => ?_⟩
    · rintro σ2 H2 ⟨G2, ρ2, M2, a1, a2, a3, a4⟩
      exact ⟨items.length - (i + 1), by omega, G2, ρ2, M2, a1, a2, a3, hlt, rfl, a4⟩
    · obtain ⟨G2, s2, R2, dx⟩ := it.yld i _ G' Z.F M' H' x H2 sg R' (List.getElem?_eq_getElem hlt) y
      refine lp G2 σ' H2 x _ ((s.trans s1).trans (sg.trans s2)) R2 (E'.mono s2) dx fun ρ3 σ3 G3 M3 H3 s3 R3 E3 q3 => ?_
      have s13 : Same G1 G3 := (sg.trans s2).trans s3
      refine q3 G3 σ3 H3 _ ((s.trans s1).trans s13) R3 E3 ⟨fun ρ4 σ4 G4 M4 H4 s4 R4 E4 q4 => ⟨G4, ρ4, M4, s13.trans s4, R4, E4, q4⟩, e.rt.mono (s1.trans s13), e.nx.mono (s1.trans s13), fun ρ4 σ4 G4 M4 H4 s4 R4 E4 q4 => ⟨G4, ρ4, M4, s13.trans s4, R4, E4, q4⟩⟩
  · have ei : i = items.length := by omega
    subst ei
    rw [List.drop_length] at lp
    exact .inl ⟨it.stop _ G' Z.F M' H' sg R' (Nat.le_refl _), e.nx ρ' σ' G' M' H' (s1.trans sg) R' E' lp⟩
theorem ws_while (I : Nat → Ro → Mu → Prop) {m0 : Nat} (h0 : I m0 ρ M)
    (hs : ∀ m ρ M, I m ρ M → WT Z tt ρ M fun b M1 => if b = true then WS Z ts { D2 with nx := fun ρ' M' => ∃ m', m' < m ∧ I m' ρ' M', ct := fun ρ' M' => ∃ m', m' < m ∧ I m' ρ' M', bk := D2.nx } ρ M1 else D2.nx ρ M1) :
    WS Z (tWhile tt ts) D2 ρ M := fun G σ H D s R E e => by
  refine ⟨fun m σ' H' => ∃ G' ρ' M', Same G G' ∧ Rep Z.W G' M' Z.F H' ∧ EnvOk Z.W G' ρ' σ' ∧ I m ρ' M', ⟨m0, G, ρ, M, Same.refl G, R, E, h0⟩, ?_⟩
  rintro m σ' H' ⟨G', ρ', M', sg, R', E', hI⟩
  refine hs m ρ' M' hI G' σ' H' _ (s.trans sg) R' E' fun b G1 M1 H1 s1 R1 q => ?_
  cases b with
  | false => exact e.nx ρ' σ' G1 M1 H1 (sg.trans s1) R1 (E'.mono s1) q
  | true =>
    refine ⟨fun σ2 H2 => ∃ m', m' < m ∧ ∃ G2 ρ2 M2, Same G G2 ∧ Rep Z.W G2 M2 Z.F H2 ∧ EnvOk Z.W G2 ρ2 σ2 ∧ I m' ρ2 M2, fun σ2 H2 q2 => q2, ?_⟩
    have nx : ∀ ρ2 σ2 G2 M2 H2, Same G1 G2 → Rep Z.W G2 M2 Z.F H2 → EnvOk Z.W G2 ρ2 σ2 → (∃ m', m' < m ∧ I m' ρ2 M2) → ∃ m', m' < m ∧ ∃ G2 ρ2 M2, Same G G2 ∧ Rep Z.W G2 M2 Z.F H2 ∧ EnvOk Z.W G2 ρ2 σ2 ∧ I m' ρ2 M2 := by
      rintro ρ2 σ2 G2 M2 H2 s2 R2 E2 ⟨m', hm, hi⟩
      exact ⟨m', hm, G2, ρ2, M2, (sg.trans s1).trans s2, R2, E2, hi⟩
    exact q G1 σ' H1 _ ((s.trans sg).trans s1) R1 (E'.mono s1) ⟨nx, e.rt.mono (sg.trans s1), e.nx.mono (sg.trans s1), nx⟩
end
end DL
set_option Elab.async false
set_option linter.all false
set_option maxRecDepth 100000
set_option maxHeartbeats 2000000
/-! DL4: comprehensions; == of data; isinstance. -/
namespace DL
open PySem PySem.Spec PyProof.Rows L2

def wipe2 (ρ : Ro) : List Nat → Ro
  | [] => ρ
  | i :: is => (wipe2 ρ is).set i none
section
variable {W : Wd} {Z : Zn} {G G' F : Hp} {ρ : Ro} {σ : L2.St} {M : Mu} {H : Hp} {te ta tb tc : TE} {tt tu : TT} {ts tr : TS} {tx : TA} {Q2 Q2' : DQ} {D2 : Ends2} {d e x y : DV} {ds es : List DV} {v : V} {wi : TI} {g : TG}
theorem wipe2_length : ∀ is : List Nat, (wipe2 ρ is).length = ρ.length
  | [] => rfl
  | i :: is => by unfold wipe2; rw [List.length_set, wipe2_length is]
theorem EnvOk.setN {i : Nat} (E : EnvOk W G ρ σ) : EnvOk W G (ρ.set i none) (σ.set i none) := ⟨by simp [E.len], fun j e hj => by
  by_cases q : i = j
  · subst q
    have hl : i < ρ.length := by
      have := (List.getElem?_eq_some_iff.mp hj).1
      simpa using this
    rw [List.getElem?_set_self hl] at hj
    cases hj
  · rw [List.getElem?_set_ne q] at hj
    obtain ⟨u, h1, h2⟩ := E.get j e hj
    exact ⟨u, by rw [List.getElem?_set_ne q]; exact h1, h2⟩⟩
theorem EnvOk.wipe (E : EnvOk W G ρ σ) : ∀ is : List Nat, EnvOk W G (wipe2 ρ is) (L2.wipe σ is)
  | [] => E
  | i :: is => (EnvOk.wipe E is).setN
/-- a target that touches the block's own slots alone -/
def GOk (g : TG) (is : List Nat) : Prop := ∀ v σ0 σ H P, L2.wipe σ is = L2.wipe σ0 is → g v σ H P → g v σ H fun σ2 H2 => L2.wipe σ2 is = L2.wipe σ0 is ∧ P σ2 H2
def GsOk (g : TGs) (is : List Nat) : Prop := ∀ vs σ0 σ H P, L2.wipe σ is = L2.wipe σ0 is → g vs σ H P → g vs σ H fun σ2 H2 => L2.wipe σ2 is = L2.wipe σ0 is ∧ P σ2 H2
theorem wipe_get (σ : L2.St) (j : Nat) : ∀ is : List Nat, (L2.wipe σ is)[j]? = if j ∈ is ∧ j < σ.length then some none else σ[j]?
  | [] => by simp [L2.wipe]
  | i :: is => by
    unfold L2.wipe
    by_cases q : i = j
    · subst q
      by_cases hl : i < σ.length
      · rw [List.getElem?_set_self (by rw [L2.wipe_length]; exact hl), if_pos ⟨by simp, hl⟩]
      · rw [List.getElem?_eq_none (by simp [L2.wipe_length]; omega), if_neg (fun z => hl z.2), List.getElem?_eq_none (by omega)]
    · rw [List.getElem?_set_ne q, wipe_get σ j is]
      have : (j ∈ i :: is) ↔ j ∈ is := by simp [Ne.symm q]
      simp only [this]
theorem wipe_set {σ : L2.St} {i : Nat} {o : Option V} {is : List Nat} (h : i ∈ is) : L2.wipe (σ.set i o) is = L2.wipe σ is := by
  apply List.ext_getElem?
  intro j
  rw [wipe_get, wipe_get, List.length_set]
  by_cases q : j ∈ is ∧ j < σ.length
  · rw [if_pos q, if_pos q]
  · rw [if_neg q, if_neg q]
    by_cases e : i = j
    · subst e
      have hl : ¬ i < σ.length := fun z => q ⟨h, z⟩
      rw [List.getElem?_eq_none (by simp; omega), List.getElem?_eq_none (by omega)]
    · rw [List.getElem?_set_ne e]
theorem wipe_idem (σ : L2.St) (is : List Nat) : L2.wipe (L2.wipe σ is) is = L2.wipe σ is := by
  apply List.ext_getElem?
  intro j
  rw [wipe_get, wipe_get, L2.wipe_length]
  by_cases q : j ∈ is ∧ j < σ.length
  · rw [if_pos q, if_pos q]
  · rw [if_neg q, if_neg q]
theorem gok_name {i : Nat} {is : List Nat} (h : i ∈ is) : GOk (gName i) is := fun v σ0 σ H P e p => ⟨by rw [wipe_set h]; exact e, p⟩
theorem gsok_nil {is : List Nat} : GsOk gNil is := fun vs σ0 σ H P e p => ⟨p.1, e, p.2⟩
theorem gsok_cons {g : TG} {gs : TGs} {is : List Nat} (h1 : GOk g is) (hm : ∀ v σ H P P', (∀ s h, P s h → P' s h) → g v σ H P → g v σ H P') (h2 : GsOk gs is) : GsOk (gCons g gs) is := fun vs σ0 σ H P e ⟨v, r, e1, p⟩ =>
  ⟨v, r, e1, hm v σ H _ _ (fun s h ⟨q1, q2⟩ => h2 r σ0 s h P q1 q2) (h1 v σ0 σ H _ e p)⟩
theorem gname_mono {i : Nat} : ∀ v σ H P P', (∀ s h, P s h → P' s h) → gName i v σ H P → gName i v σ H P' := fun v σ H P P' k p => k _ _ p
theorem gsok_name {i : Nat} {gs : TGs} {is : List Nat} (h1 : i ∈ is) (h2 : GsOk gs is) : GsOk (gCons (gName i) gs) is := gsok_cons (gok_name h1) gname_mono h2
theorem gok_tup {K : PySem.W.Frag} {n : Nat} {gs : TGs} {is : List Nat} (h : GsOk gs is) : GOk (gTup K n gs) is := fun v σ0 σ H P e ⟨a, xs, e1, e2, e3, p⟩ => ⟨a, xs, e1, e2, e3, h xs σ0 σ H P e p⟩

abbrev Zn.fr (Z : Zn) (F : Hp) : Zn := ⟨Z.W, Z.G, F⟩
/-- the turns of a comprehension: items left, what is made so far -/
def Comp (Z : Zn) (g : TG) (tt : TT) (te : TE) (ρ : Ro) (k : List DV → Mu → Prop) : List DV → List DV → Mu → Prop
  | [], acc, M => k acc M
  | d :: ds, acc, M => acc.length < sizeLine ∧ ∀ F, WG (Z.fr F) g d ρ M fun ρ2 M2 => WT (Z.fr F) tt ρ2 M2 fun b M3 =>
      if b = true then WE (Z.fr F) te ρ2 M3 fun y M4 => Comp Z g tt te ρ k ds (acc ++ [y]) M4 else Comp Z g tt te ρ k ds acc M3
theorem Rep.toFr {p : Addr} {o : HO} (R : Rep W G M F H) (hp : H p = none) : Rep W G M (upd F p o) (upd H p o) where
  ex := fun a u e => by rw [upd_ne (ne_of_none (R.ex a u e) hp)]; exact R.ex a u e
  fr := fun a u e => by
    by_cases h : a = p
    · subst h; rw [upd_same] at e ⊢; exact e
    · rw [upd_ne h] at e ⊢; exact R.fr a u e
  fd := fun a u e => by
    by_cases h : a = p
    · subst h; exact ⟨R.gnone hp, R.mnone hp⟩
    · rw [upd_ne h] at e; exact R.fd a u e
  mu := fun a u e => by
    obtain ⟨h1, h2⟩ := R.mu a u e
    obtain ⟨z, hz⟩ := h2.there
    exact ⟨h1, h2.heap (upd_ne (ne_of_none hz hp))⟩
theorem Rep.frSet {p : Addr} {o u : HO} (R : Rep W G M (upd F p o) H) : Rep W G M (upd F p u) (upd H p u) := by
  have hp := R.fd p o upd_same
  exact {
    ex := fun a w e => by
      have ne : a ≠ p := fun z => by subst z; rw [hp.1] at e; cases e
      rw [upd_ne ne]; exact R.ex a w e
    fr := fun a w e => by
      by_cases h : a = p
      · subst h; rw [upd_same] at e ⊢; exact e
      · rw [upd_ne h] at e ⊢; exact R.fr a w (by rw [upd_ne h]; exact e)
    fd := fun a w e => by
      by_cases h : a = p
      · subst h; exact hp
      · rw [upd_ne h] at e; exact R.fd a w (by rw [upd_ne h]; exact e)
    mu := fun a w e => by
      have ne : a ≠ p := fun z => by subst z; rw [hp.2] at e; cases e
      obtain ⟨h1, h2⟩ := R.mu a w e
      exact ⟨h1, h2.heap (upd_ne ne)⟩ }
theorem Rep.ofFr {p : Addr} {o : HO} (R : Rep W G M (upd F p o) H) (hf : F p = none) : Rep W (upd G p o) M F H := by
  have hp := R.fd p o upd_same
  exact {
    ex := fun a w e => by
      by_cases h : a = p
      · subst h; rw [upd_same] at e; rw [← e]; exact R.fr a o upd_same
      · rw [upd_ne h] at e; exact R.ex a w e
    fr := fun a w e => R.fr a w (by rw [upd_ne (ne_of_none e hf)]; exact e)
    fd := fun a w e => by
      have ne := ne_of_none e hf
      rw [upd_ne ne]; exact R.fd a w (by rw [upd_ne ne]; exact e)
    mu := fun a w e => by
      have ne : a ≠ p := fun z => by subst z; rw [hp.2] at e; cases e
      obtain ⟨h1, h2⟩ := R.mu a w e
      exact ⟨by rw [upd_ne ne]; exact h1, h2.mono (same_new hp.1)⟩ }
theorem we_lc {is : List Nat} (hg : GOk g is) (h : WI Z wi ρ M fun items M1 => Comp Z g tt te (wipe2 ρ is) (fun acc M2 => Q2 (.lst acc) M2) items [] M1) : WE Z (tLc wi g tt te is) ρ M Q2 := fun G σ H Q s R E r => by
  refine h G σ H _ s R E fun items J G1 M1 H1 s1 R1 it q => ?_
  intro D hD
  have fD : Z.F D = none := R1.fnone hD
  refine ⟨fun i m H' => ∃ G' M' acc accV, Same G1 G' ∧ Rep Z.W G' M' (upd Z.F D (.lst accV)) H' ∧ DatL Z.W G' acc accV ∧ i ≤ items.length ∧ m = items.length - i ∧ Comp Z g tt te (wipe2 ρ is) (fun acc M2 => Q2 (.lst acc) M2) (items.drop i) acc M',
    ⟨items.length, G1, M1, [], [], Same.refl G1, R1.toFr hD, datL_nil', Nat.zero_le _, rfl, q⟩, ?_⟩
  rintro i m H' ⟨G', M', acc, accV, sg, R', hacc, hi, rfl, lp⟩
  by_cases hlt : i < items.length
  · rw [drop_cons hlt] at lp
    obtain ⟨hz, lp⟩ := lp
    refine .inr ⟨it.go i G' _ M' H' sg R' hlt, fun H2 => ∃ G2 M2 acc2 acc2V, Same G1 G2 ∧ Rep Z.W G2 M2 (upd Z.F D (.lst acc2V)) H2 ∧ DatL Z.W G2 acc2 acc2V ∧ Comp Z g tt te (wipe2 ρ is) (fun acc M2 => Q2 (.lst acc) M2) (items.drop (i + 1)) acc2 M2, ?_, fun x H2 y => ?_⟩
    · rintro H2 ⟨G2, M2, acc2, acc2V, a1, a2, a3, a4⟩
      exact ⟨items.length - (i + 1), by omega, G2, M2, acc2, acc2V, a1, a2, a3, hlt, rfl, a4⟩
    · obtain ⟨G2, s2, R2, dx⟩ := it.yld i _ G' _ M' H' x H2 sg R' (List.getElem?_eq_getElem hlt) y
      have E2 : EnvOk Z.W G2 (wipe2 ρ is) (L2.wipe σ is) := ((E.mono s1).mono (sg.trans s2)).wipe is
      refine hg x σ (L2.wipe σ is) H2 _ (wipe_idem σ is) ?_
      refine lp (upd Z.F D (.lst accV)) G2 (L2.wipe σ is) H2 x _ ((s.trans s1).trans (sg.trans s2)) R2 E2 dx fun ρ3 σ3 G3 M3 H3 s3 R3 E3 q3 => ?_
      have s13 : Same G1 G3 := (sg.trans s2).trans s3
      refine q3 G3 σ3 H3 _ ((s.trans s1).trans s13) R3 E3 fun b G4 M4 H4 s4 R4 q4 => ?_
      cases b with
      | false => exact ⟨G4, M4, acc, accV, s13.trans s4, R4, hacc.mono ((s2.trans s3).trans s4), q4⟩
      | true =>
        refine q4 G4 σ3 H4 _ ((s.trans s1).trans (s13.trans s4)) R4 (E3.mono s4) fun yd yv G5 M5 H5 s5 R5 dy q5 => ?_
        have s25 : Same G' G5 := ((s2.trans s3).trans s4).trans s5
        refine ⟨accV, R5.fr D _ upd_same, by rw [hacc.length]; exact hz, ?_⟩
        exact ⟨G5, M5, acc ++ [yd], accV ++ [yv], sg.trans s25, R5.frSet, (hacc.mono s25).append (datL_cons' dy datL_nil'), q5⟩
  · have ei : i = items.length := by omega
    subst ei
    rw [List.drop_length] at lp
    refine .inl ⟨it.stop _ G' _ M' H' sg R' (Nat.le_refl _), ?_⟩
    have gD := (R'.fd D _ upd_same).1
    exact r _ _ (upd G' D (.lst accV)) M' H' ((s1.trans sg).trans (same_new gD)) (R'.ofFr fD) (dat_lst.mpr ⟨D, accV, rfl, upd_same, hacc.mono (same_new gD)⟩) lp
/-- each item is taken, each gives a thing of its own: the list of these -/
theorem comp_map {k : List DV → Mu → Prop} (f : DV → DV) : ∀ (items acc : List DV), acc.length + items.length ≤ sizeLine →
    (∀ d ∈ items, ∀ F k2, k2 (f d) M → WG (Z.fr F) g d ρ M fun ρ2 M2 => WT (Z.fr F) tt ρ2 M2 fun b M3 => b = true ∧ WE (Z.fr F) te ρ2 M3 k2) → k (acc ++ items.map f) M → Comp Z g tt te ρ k items acc M
  | [], acc, hz, h, q => by
    show k acc M
    simpa using q
  | d :: ds, acc, hz, h, q => by
    simp only [List.length_cons] at hz
    refine ⟨by omega, fun F => ?_⟩
    have := h d List.mem_cons_self F (fun y M4 => Comp Z g tt te ρ k ds (acc ++ [y]) M4) (comp_map f ds (acc ++ [f d]) (by simp; omega) (fun d' hd => h d' (List.mem_cons_of_mem _ hd)) (by simpa using q))
    intro G σ H v P s R E x n
    refine this G σ H v P s R E x fun ρ1 σ1 G1 M1 H1 s1 R1 E1 q1 => n ρ1 σ1 G1 M1 H1 s1 R1 E1 ?_
    exact q1.imp fun b M' ⟨hb, q⟩ => by rw [if_pos hb]; exact q
/-- with a test -/
theorem comp_filter {k : List DV → Mu → Prop} (p : DV → Bool) (f : DV → DV) : ∀ (items acc : List DV), acc.length + items.length ≤ sizeLine →
    (∀ d ∈ items, ∀ F k1 k2, (p d = false → k1) → (p d = true → k2 (f d) M) → WG (Z.fr F) g d ρ M fun ρ2 M2 => WT (Z.fr F) tt ρ2 M2 fun b M3 => if b = true then WE (Z.fr F) te ρ2 M3 k2 else M3 = M ∧ k1) → k (acc ++ (items.filter p).map f) M → Comp Z g tt te ρ k items acc M
  | [], acc, hz, h, q => by
    show k acc M
    simpa using q
  | d :: ds, acc, hz, h, q => by
    simp only [List.length_cons] at hz
    refine ⟨by omega, fun F => ?_⟩
    have := h d List.mem_cons_self F (Comp Z g tt te ρ k ds acc M) (fun y M4 => Comp Z g tt te ρ k ds (acc ++ [y]) M4)
      (fun hp => comp_filter p f ds acc (by omega) (fun d' hd => h d' (List.mem_cons_of_mem _ hd)) (by simpa [List.filter_cons, hp] using q))
      (fun hp => comp_filter p f ds (acc ++ [f d]) (by simp; omega) (fun d' hd => h d' (List.mem_cons_of_mem _ hd)) (by simpa [List.filter_cons, hp] using q))
    intro G σ H v P s R E x n
    refine this G σ H v P s R E x fun ρ1 σ1 G1 M1 H1 s1 R1 E1 q1 => n ρ1 σ1 G1 M1 H1 s1 R1 E1 ?_
    refine q1.imp fun b M' q => ?_
    cases b with
    | true => exact q
    | false =>
      obtain ⟨rfl, q⟩ := q
      exact q
end

/-! ### == -/
mutual
def DV.py : DV → Option PyData
  | .v .non => some .none
  | .v (.bl b) => some (.bool b)
  | .v (.int i) => some (.int i)
  | .v (.str x) => some (.str x)
  | .lst ds => (pyL ds).map .list
  | .tup ds => (pyL ds).map .tuple
  | _ => none
def pyL : List DV → Option (List PyData)
  | [] => some []
  | d :: ds => match d.py, pyL ds with
    | some p, some ps => some (p :: ps)
    | _, _ => none
end
section
variable {W : Wd} {Z : Zn} {G G' F : Hp} {ρ : Ro} {σ : L2.St} {M : Mu} {H : Hp} {Q2 Q2' : DQ} {d e x y : DV} {ds es : List DV} {v : V}
theorem pyL_cons {ps : List PyData} (h : pyL (d :: ds) = some ps) : ∃ p qs, d.py = some p ∧ pyL ds = some qs ∧ ps = p :: qs := by
  unfold pyL at h
  cases h1 : d.py with
  | none => rw [h1] at h; cases h
  | some p =>
    cases h2 : pyL ds with
    | none => rw [h1, h2] at h; cases h
    | some qs =>
      rw [h1, h2] at h
      cases h
      exact ⟨p, qs, rfl, rfl, rfl⟩
mutual
theorem Dat.dp (ex : Same G H) : ∀ {d : DV} {v : V} {p : PyData}, Dat W G d v → d.py = some p → Dp W.K H v p
  | .v x, v, p, h, e => by
    rw [dat_v.mp h]
    cases x <;> simp [DV.py] at e <;> subst e
    · exact .non
    · exact .bl _
    · exact .int _
    · exact .str _
  | .lst ds, v, p, h, e => by
    obtain ⟨a, xs, h1, h2, h3⟩ := dat_lst.mp h
    simp only [DV.py, Option.map_eq_some_iff] at e
    obtain ⟨ps, e1, e2⟩ := e
    rw [h1, ← e2]
    exact .lst (SqL.of (ex _ _ h2)) (DatL.dp ex h3 e1)
  | .tup ds, v, p, h, e => by
    obtain ⟨a, xs, h1, h2, h3⟩ := dat_tup.mp h
    simp only [DV.py, Option.map_eq_some_iff] at e
    obtain ⟨ps, e1, e2⟩ := e
    rw [h1, ← e2]
    exact .tup (sqt_mono ex h2) (DatL.dp ex h3 e1)
  | .obj C ns ds, v, p, h, e => by simp [DV.py] at e
  | .dk ks ds, v, p, h, e => by simp [DV.py] at e
  | .dl ks ds, v, p, h, e => by simp [DV.py] at e
  | .fn _ _, v, p, h, e => by simp [DV.py] at e
theorem DatL.dp (ex : Same G H) : ∀ {ds : List DV} {vs : List V} {ps : List PyData}, DatL W G ds vs → pyL ds = some ps → DpAll W.K H vs ps
  | [], vs, ps, h, e => by
    rw [datL_nil.mp h]
    simp [pyL] at e
    subst e
    exact .nil
  | d :: ds, vs, ps, h, e => by
    obtain ⟨y, r, e1, h1, h2⟩ := datL_cons.mp h
    obtain ⟨p, qs, f1, f2, f3⟩ := pyL_cons e
    rw [e1, f3]
    exact .cons (Dat.dp ex h1 f1) (DatL.dp ex h2 f2)
end
/-- as data: frozen, or a changeable list at the top -/
def PyOf (M : Mu) (d : DV) (p : PyData) : Prop := d.py = some p ∨ ∃ a ds ps, d = .r a ∧ M a = some (.lst ds) ∧ pyL ds = some ps ∧ p = .list ps
theorem PyOf.dp {p : PyData} (R : Rep W G M F H) (h : Dat W G d v) (o : PyOf M d p) : Dp W.K H v p := by
  rcases o with o | ⟨a, ds, ps, rfl, hm, e, rfl⟩
  · exact h.dp R.ex o
  · obtain ⟨xs, h1, h2⟩ := (R.mu a _ hm).2
    rw [dat_v.mp h]
    exact .lst (SqL.of h1) (h2.dp R.ex e)
theorem wr_eqD {p q : PyData} (h1 : PyOf M x p) (h2 : PyOf M y q) (s1 : SeqAt.shaped p = true) (s2 : SeqAt.shaped q = true) (h : Q2 (.b (PyData.eqv p q)) M) : WR Z (rEqD Z.W.K) x y M Q2 := fun G H vx vy Q s R dx dy r =>
  ⟨p, q, h1.dp R dx, h2.dp R dy, s1, s2, r _ _ G M H (Same.refl G) R dat_v' h⟩
theorem wr_neD {p q : PyData} (h1 : PyOf M x p) (h2 : PyOf M y q) (s1 : SeqAt.shaped p = true) (s2 : SeqAt.shaped q = true) (h : Q2 (.b (!PyData.eqv p q)) M) : WR Z (rNeD Z.W.K) x y M Q2 := fun G H vx vy Q s R dx dy r =>
  ⟨p, q, h1.dp R dx, h2.dp R dy, s1, s2, r _ _ G M H (Same.refl G) R dat_v' h⟩
theorem wr_inD {p : PyData} {qs : List PyData} (h1 : PyOf M x p) (h2 : PyOf M y (.list qs)) (s1 : SeqAt.shaped p = true) (s2 : SeqAt.shaped (.list qs) = true) (h : Q2 (.b (qs.any fun z => PyData.eqv z p)) M) : WR Z (rInD Z.W.K) x y M Q2 := fun G H vx vy Q s R dx dy r =>
  ⟨p, qs, h1.dp R dx, h2.dp R dy, s1, s2, r _ _ G M H (Same.refl G) R dat_v' h⟩
theorem wr_notInD {p : PyData} {qs : List PyData} (h1 : PyOf M x p) (h2 : PyOf M y (.list qs)) (s1 : SeqAt.shaped p = true) (s2 : SeqAt.shaped (.list qs) = true) (h : Q2 (.b (!qs.any fun z => PyData.eqv z p)) M) : WR Z (rNotInD Z.W.K) x y M Q2 := fun G H vx vy Q s R dx dy r =>
  ⟨p, qs, h1.dp R dx, h2.dp R dy, s1, s2, r _ _ G M H (Same.refl G) R dat_v' h⟩
/-! ### isinstance -/
def TyD (W : Wd) (M : Mu) (d : DV) (t : Value) : Prop := ∀ G F H v, Rep W G M F H → Dat W G d v → TyX W.K H v t
theorem wc_isi {x : DV} {c : V} {t u : Value} {b : Bool} (hc : ClsV c u) (ht : TyD Z.W M x t) (hk : PySem.W.kitOne Z.W.K t u = some b) (h : Q2 (.b b) M) : WC Z (rIsi Z.W.K) [x, .v c] M Q2 := fun G H vs Q s R xs r => by
  obtain ⟨y, z, e1, h1, h2⟩ := two_of xs
  rw [dat_v.mp h2] at e1
  exact ⟨y, c, t, u, b, e1, hc, ht G Z.F H y R h1, hk, r _ _ G M H (Same.refl G) R dat_v' h⟩
theorem tyD_non : TyD W M .n (.type "NoneType") := fun G F H v R h => by rw [dat_v.mp h]; exact .base .non
theorem tyD_bl {b : Bool} : TyD W M (.b b) (.type "bool") := fun G F H v R h => by rw [dat_v.mp h]; exact .base (.bl b)
theorem tyD_int {i : Int} : TyD W M (.i i) (.type "int") := fun G F H v R h => by rw [dat_v.mp h]; exact .base (.int i)
theorem tyD_str {z : Str} : TyD W M (.s z) (.type "str") := fun G F H v R h => by rw [dat_v.mp h]; exact .base (.str z)
theorem tyD_lst (l : LstOf M d ds) : TyD W M d (.type "list") := fun G F H v R h => by
  obtain ⟨a, xs, e1, e2, e3⟩ := lst_at R h l
  rw [e1]
  exact .base (.lst e2)
theorem tyD_tup : TyD W M (.tup ds) (.type "tuple") := fun G F H v R h => by
  obtain ⟨a, xs, e1, e2, e3⟩ := dat_tup.mp h
  rw [e1]
  rcases sqt_mono R.ex e2 with (q | ⟨o, q⟩) | ⟨o, its, n, k1, k2, _⟩
  · exact .base (.tup q)
  · exact .fTuple q
  · exact .kTuple k1 k2
theorem tyD_dk {ks : List Key} : TyD W M (.dk ks ds) (.type "dict") := fun G F H v R h => by
  obtain ⟨a, xs, e1, e2, e3, e4⟩ := dat_dk.mp h
  rw [e1]
  rcases Rd.same R.ex e2 with q | ⟨o, q⟩
  · exact .base (.dK q)
  · exact .fDict q
end
end DL
set_option Elab.async false
set_option linter.all false
set_option maxRecDepth 100000
set_option maxHeartbeats 4000000
/-! DL5: own exceptions: made, raised, caught, asked. -/
namespace DL
open PySem PySem.Spec PyProof.Rows L2

/-! ### B.__init__(self, ..), B an own class without __init__ of its own -/
section
variable {X : Cx} {e : Expr} {es : List Expr} {ta : TA} {p1 p2 pos : Pos}
theorem pe_finit {x : Str} {B : Addr} {pl : Sem Bool} (hg : Gl X x) (hm : X.mg x = some (.ref B)) (sp : PySem.W.specialIn X.K (.ref B) "__getattribute__" = some (some (.builtin "type.__getattribute__")))
    (rd : PySem.W.readsIn X.K B (.type "type") = true) (fc : PySem.W.findCls X.K (.ref B) (.type "type") "__init__" = some (.val (.builtin "ValueError.__init__"))) (ha : PA X (e :: es) ta)
    (hc : eval (.Call (.Attribute (.Name x p1) "__init__" p2) (e :: es) [] pos) X.env = (do
      let ov ← eval (.Name x p1) X.env
      standAt p2.atName
      let (f, first) ← holding [ov] (getMethod ov "__init__" pl)
      callWith pos f first (backTo pos (starEach (e :: es) X.env)) (backToKw pos (keywordEach [] X.env))) := by rfl)
    (hdb : (x == ("__debug__" : Str)) = false := by decide)
    (he : starEach (e :: es) X.env = (false, eval e X.env) :: starEach es X.env := by rfl) (hpl : (backTo pos (starEach es X.env)).any (·.1) = false := by rfl) :
    PE X (.Call (.Attribute (.Name x p1) "__init__" p2) (e :: es) [] pos) (tVeI X.K ta) := by
  refine ⟨fun pins s σ H Q I h => ?_⟩
  refine PySem.W.methodCall_KW (ld_glob I hg hm ?_ hdb) hc
  refine PySem.W.method_cls I.kIn sp (PySem.W.cls_value I.kIn rd fc (by decide +kernel) ?_)
  refine PyProof.Rows.callWith_method1 (thn (ha.run pos pins _ σ H _ (I.tok _) h) fun us s1 ⟨vs, H1, I1, r1, a, C, ws, ev, hl, T, ea, q⟩ => ?_) he hpl
  subst ev
  cases r1 with
  | @cons _ u0 _ ur ra rw' =>
    obtain rfl : u0 = Value.ref a := ra
    have hlen : ur.length ≤ sizeLine := by
      rw [← Paired.length rw', sizeLine_eq]
      omega
    exact oinit_ok T I1 ea hlen fun s' J => ⟨.non, H1, J, rfl, q⟩
end
/-- what __init__(self, f): B.__init__(self, ..); self.f = f keeps -/
def spX1 (C : Addr) (f : Str) : Sp := fun vs H Q _ => ∃ (a : Addr) (v : V), vs = [.ref a, v] ∧ H a = some (exo a C none) ∧ ∀ d, H d = none → d ≠ a → Q .non (upd (upd H d (exd d [(f, v)])) a (exo a C (some d)))
/-- two fields, the second one stored last -/
def spX2 (C : Addr) (f g : Str) : Sp := fun vs H Q _ => ∃ (a : Addr) (v w : V), vs = [.ref a, v, w] ∧ H a = some (exo a C none) ∧ ∀ d, H d = none → d ≠ a → Q .non (upd (upd (upd H d (exd d [(f, v)])) a (exo a C (some d))) d (exd d [(g, w), (f, v)]))
abbrev WX2 := Addr → List Str → List DV → Ro → Mu → Prop
def WxOk (Z : Zn) (W2 : WX2) (Wx : WX) : Prop := ∀ C ns ds d ρ' σ' G' M' H', Same Z.G G' → Rep Z.W G' M' Z.F H' → EnvOk Z.W G' ρ' σ' → XdOk Z.W G' d ns ds → W2 C ns ds ρ' M' → Wx (.ref C) d σ' H'
theorem wx_of {Z : Zn} {E2 : XK2} {E : XK} (h : XcOk Z E2 E) : WxOk Z (fun C ns ds _ M => E2 C ns ds M) (fun cls d _ H => E cls d H) := fun C ns ds d ρ' σ' G' M' H' s R _ x q => h C ns ds d G' M' H' s R x q
section
variable {W : Wd} {Z : Zn} {G G' F : Hp} {ρ : Ro} {σ : L2.St} {M : Mu} {H : Hp} {te ta tb tc : TE} {tt tu : TT} {ts tr : TS} {tx : TA} {Q2 Q2' : DQ} {D2 : Ends2} {d e x y : DV} {ds es : List DV} {v : V} {W2 : WX2} {Wx : WX}
theorem Rep.congr {H' : Hp} (R : Rep W G M F H) (h : ∀ a o, H a = some o → H' a = some o) (hu : ∀ a, (∃ mo, M a = some mo) → H' a = H a) : Rep W G M F H' where
  ex := R.ex.trans h
  fr := fun a o e => h a o (R.fr a o e)
  fd := R.fd
  mu := fun a o e => by
    obtain ⟨h1, h2⟩ := R.mu a o e
    exact ⟨h1, h2.heap (hu a ⟨o, e⟩)⟩
/-- raise C(e), C with one field -/
theorem ws_raise1 {C : Addr} {f : Str} (hw : WxOk Z W2 Wx) (h : WA Z tx ρ M fun ds M1 => ∃ d, ds = [d] ∧ W2 C [f] [d] ρ M1) : WS Z (fun _ σ H => tMkO C (spX1 C f) [] tx σ H fun cls d H' => Wx cls d σ H') D2 ρ M := fun G σ H D s R E k =>
  h G σ H _ s R E fun ds vs G1 M1 H1 s1 R1 xs q => by
    obtain ⟨d0, rfl, q⟩ := q
    obtain ⟨y, e1, hy⟩ := one_of xs
    subst e1
    refine ⟨by show 1 ≤ 1000; decide, fun a ha => ⟨a, y, rfl, upd_same, fun dd hd hne => ⟨rfl, ?_⟩⟩⟩
    have hd1 : H1 dd = none := by rw [upd_ne hne] at hd; exact hd
    refine ⟨dd, [(f, y)], upd_same, ?_, hd1, ?_⟩
    · rw [upd_ne hne, upd_same]
    · have R2 : Rep Z.W (upd G1 dd (.xd [(f, y)])) M1 Z.F (upd H1 dd (.xd [(f, y)])) := R1.new hd1
      have sn := same_new (o := .xd [(f, y)]) (R1.gnone hd1)
      have key : upd (L2.del (upd (upd (upd H1 a (exo a C none)) dd (exd dd [(f, y)])) a (exo a C (some dd))) a) dd (.xd [(f, y)]) = upd H1 dd (.xd [(f, y)]) := by
        funext b
        by_cases h1 : b = dd
        · rw [h1, upd_same, upd_same]
        · rw [upd_ne h1, upd_ne h1]
          by_cases h2 : b = a
          · rw [h2, L2.del_same, ha]
          · rw [L2.del_ne h2, upd_ne h2, upd_ne h1, upd_ne h2]
      rw [key]
      exact hw C [f] [d0] (some dd) ρ σ _ M1 _ ((s.trans s1).trans sn) R2 ((E.mono s1).mono sn) ⟨[y], upd_same, rfl, datL_cons' (hy.mono sn) datL_nil'⟩ q
theorem ws_raise2 {C : Addr} {f g : Str} (hw : WxOk Z W2 Wx) (h : WA Z tx ρ M fun ds M1 => ∃ d e, ds = [d, e] ∧ W2 C [g, f] [e, d] ρ M1) : WS Z (fun _ σ H => tMkO C (spX2 C f g) [] tx σ H fun cls d H' => Wx cls d σ H') D2 ρ M := fun G σ H D s R E k =>
  h G σ H _ s R E fun ds vs G1 M1 H1 s1 R1 xs q => by
    obtain ⟨d0, d1, rfl, q⟩ := q
    obtain ⟨y, z, e1, hy, hz⟩ := two_of xs
    subst e1
    refine ⟨by show 2 ≤ 1000; decide, fun a ha => ⟨a, y, z, rfl, upd_same, fun dd hd hne => ⟨rfl, ?_⟩⟩⟩
    have hd1 : H1 dd = none := by rw [upd_ne hne] at hd; exact hd
    refine ⟨dd, [(g, z), (f, y)], ?_, upd_same, hd1, ?_⟩
    · rw [upd_ne (Ne.symm hne), upd_same]
    · have R2 : Rep Z.W (upd G1 dd (.xd [(g, z), (f, y)])) M1 Z.F (upd H1 dd (.xd [(g, z), (f, y)])) := R1.new hd1
      have sn := same_new (o := .xd [(g, z), (f, y)]) (R1.gnone hd1)
      have key : upd (L2.del (upd (upd (upd (upd H1 a (exo a C none)) dd (exd dd [(f, y)])) a (exo a C (some dd))) dd (exd dd [(g, z), (f, y)])) a) dd (.xd [(g, z), (f, y)]) = upd H1 dd (.xd [(g, z), (f, y)]) := by
        funext b
        by_cases h1 : b = dd
        · rw [h1, upd_same, upd_same]
        · rw [upd_ne h1, upd_ne h1]
          by_cases h2 : b = a
          · rw [h2, L2.del_same, ha]
          · rw [L2.del_ne h2, upd_ne h1, upd_ne h2, upd_ne h1, upd_ne h2]
      rw [key]
      exact hw C [g, f] [d1, d0] (some dd) ρ σ _ M1 _ ((s.trans s1).trans sn) R2 ((E.mono s1).mono sn) ⟨[z, y], upd_same, rfl, datL_cons' (hz.mono sn) (datL_cons' (hy.mono sn) datL_nil')⟩ q
/-- raise C('..'), C without __init__ -/
theorem ws_raise0 {C : Addr} (hw : WxOk Z W2 Wx) (h : W2 C [] [] ρ M) : WS Z (fun _ σ H => (fun (_ : L2.St) (H : Hp) (Q : XK) => Q (.ref C) none H) σ H fun cls d H' => Wx cls d σ H') D2 ρ M := fun G σ H D s R E k =>
  hw C [] [] none ρ σ G M H s R E ⟨rfl, rfl⟩ h
abbrev Zn.at (Z : Zn) (G : Hp) : Zn := ⟨Z.W, G, Z.F⟩
/-- try: .. except X as n: .. -/
theorem ws_try {K : PySem.W.Frag} (hK : K = Z.W.K) {tb : WX → TS} {c : Value} {i : Nat} {ts : Addr → Value → Option Addr → TS} {Wout : WX} (W2 : WX2)
    (hb : ∀ G1 Wx, Same Z.G G1 → WxOk (Z.at G1) W2 Wx → WS (Z.at G1) (tb Wx) D2 ρ M)
    (hs : ∀ C ns ds ρ' M', W2 C ns ds ρ' M' → PySem.W.exmOne Z.W.K (.ref C) c = some true ∧ ∀ G1 d a, Same Z.G G1 → XdOk Z.W G1 d ns ds →
      WS (Z.at G1) (ts a (.ref C) d) { nx := fun ρ2 M2 => D2.nx (ρ2.set i none) M2, rt := D2.rt, bk := fun ρ2 M2 => D2.bk (ρ2.set i none) M2, ct := fun ρ2 M2 => D2.ct (ρ2.set i none) M2 } (ρ'.set i (some (.r a))) M') :
    WS Z (fun D σ H => tb (wAs K c i ts Wout D) D σ H) D2 ρ M := fun G σ H D s R E k => by
  subst hK
  refine hb G _ s ?_ G σ H D (Same.refl G) R E k
  intro C ns ds d ρ' σ' G' M' H' s' R' E' x' q
  obtain ⟨e1, e2⟩ := hs C ns ds ρ' M' q
  refine ⟨true, e1, fun _ a ha => ?_, fun z => nomatch z⟩
  have ss : Same G G' := s'
  refine e2 G' d a (s.trans ss) x' G' _ H' _ (Same.refl G') R' (E'.set dat_v') ?_
  have nx : ∀ (P2 : Ro → Mu → Prop) (P : L2.St → Hp → Prop), NxOk Z.W G Z.F P2 P → NxOk Z.W G' Z.F (fun ρ2 M2 => P2 (ρ2.set i none) M2) (fun σ' H' => P (σ'.set i none) H') := fun P2 P h ρ2 σ2 G2 M2 H2 s2 R2 E2 q2 =>
    h _ _ G2 M2 H2 (ss.trans s2) R2 E2.setN q2
  exact ⟨nx _ _ k.nx, k.rt.mono ss, nx _ _ k.bk, nx _ _ k.ct⟩
end
/-! ### isinstance of the exception that a suite holds -/
def rIsX (K : PySem.W.Frag) (cls : Value) (d : Option Addr) (a : Addr) : List V → Hp → VK → Prop := fun xs H Q => ∃ (D : Addr) (c : V) (cv : Value) (b : Bool), cls = .ref D ∧ ExcC K D ∧ xs = [.ref a, c] ∧ ClsV c cv ∧
  PySem.W.kitOne K (.ref D) cv = some b ∧ (d = none ∨ ∃ dd fs, d = some dd ∧ H dd = some (.xd fs)) ∧ Q (.bl b) H
def rIsXT (K : PySem.W.Frag) (cls : Value) (d : Option Addr) (a : Addr) : List V → Hp → VK → Prop := fun xs H Q => ∃ (D tp : Addr) (cs : List V) (us : List Value) (b : Bool), cls = .ref D ∧ ExcC K D ∧ xs = [.ref a, .ref tp] ∧ H tp = some (.tup cs) ∧ Paired ClsV cs us ∧
  PySem.W.kitAny K (.ref D) us = some b ∧ (d = none ∨ ∃ dd fs, d = some dd ∧ H dd = some (.xd fs)) ∧ Q (.bl b) H
section
variable {X : Cx} {a : Addr} {oe : Obj} {cls : Value} {d : Option Addr} {pn : List (Addr × Obj)}
theorem inst_of {D : Addr} {pins : List (Addr × Obj)} {σ : L2.St} {H : Hp} {s : Shared} (I : Inv (X.suite a ((a, oe) :: pn)) pins σ H s) (hz : Zc (.ref D) d oe) (hf : ∃ vs, oe.data = .fields vs) (hd : d = none ∨ ∃ dd fs, d = some dd ∧ H dd = some (.xd fs)) :
    ∃ od, PySem.W.InstAt s.heap a oe D od := by
  obtain ⟨hget, _⟩ := I.pin (a, oe) (List.mem_append.mpr (.inl List.mem_cons_self))
  obtain ⟨vs, hv⟩ := hf
  obtain ⟨oc, od, oda, osl⟩ := oe
  obtain ⟨h1, h2⟩ := hz
  dsimp only at h1 h2 hv
  rcases hd with rfl | ⟨dd, fs, rfl, e⟩
  · subst h1 h2 hv
    exact ⟨none, hget, rfl, rfl, trivial⟩
  · obtain ⟨u, hu⟩ := objOk_get (I.hok dd _ e)
    subst h1 h2 hv
    exact ⟨some u, hget, rfl, rfl, hu⟩
theorem kitx_of_excC {K : PySem.W.Frag} {D x : Addr} {ox : Obj} {od : Option Obj} (C : ExcC K D) : PySem.W.KitX K (.ref x) (.ref D) (fun h => PySem.W.InstAt h x ox D od) := by
  obtain ⟨cd, hc, _⟩ := PySem.W.any_some C.hd
  exact PySem.W.kitx_exc (by rw [hc]; rfl) C.hg C.hk C.hs C.ha C.hn C.ht C.hm
theorem call_isX (hz : Zc cls d oe) (hf : ∃ vs, oe.data = .fields vs) : CallR (X.suite a ((a, oe) :: pn)) (.builtin "isinstance") (rIsX X.K cls d a) := by
  intro pins s σ H xs us Q I r h
  obtain ⟨D, c, cv, b, rfl, C, rfl, hcv, e, hd, q⟩ := h
  obtain ⟨u1, u2, rfl, r1, r2⟩ := vals2 r
  cases (show u1 = Value.ref a from r1)
  have ec := hcv.eq r2
  subst ec
  obtain ⟨od, J⟩ := inst_of I hz hf hd
  exact PySem.W.kia_one (kitx_of_excC C) I.kIn J e (fun z => nomatch z) fun tk => ⟨.bl b, H, I.kept (t' := tk) fun _ _ z => z, rfl, q⟩
theorem call_isXT (hz : Zc cls d oe) (hf : ∃ vs, oe.data = .fields vs) : CallR (X.suite a ((a, oe) :: pn)) (.builtin "isinstance") (rIsXT X.K cls d a) := by
  intro pins s σ H xs us Q I r h
  obtain ⟨D, tp, cs, ws, b, rfl, C, rfl, hT, k, e, hd, q⟩ := h
  obtain ⟨u1, u2, rfl, r1, r2⟩ := vals2 r
  cases (show u1 = Value.ref a from r1)
  cases (show u2 = Value.ref tp from r2)
  obtain ⟨od, J⟩ := inst_of I hz hf hd
  obtain ⟨_, its, rv, o, h1, h2, n, h3⟩ := (show ObjOk X.prog X.w H s.heap tp (.tup cs) from I.hok tp _ hT)
  have e3 := ClsV.all k rv
  subst e3
  obtain ⟨oc, od', dt, sl⟩ := o
  simp only at h2 h3
  subst h2 h3
  exact PySem.W.kia_tup (kitx_of_excC C) I.kIn J h1 e (fun z => nomatch z) fun tk => ⟨.bl b, H, I.kept (t' := tk) fun _ _ z => z, rfl, q⟩
end
section
variable {W : Wd} {Z : Zn} {G G' F : Hp} {ρ : Ro} {σ : L2.St} {M : Mu} {H : Hp} {te : TE} {Q2 Q2' : DQ} {ns : List Str} {ds : List DV}
theorem xd_there (hx : XdOk W G d ns ds) (s : Same G H) : d = none ∨ ∃ dd fs, d = some dd ∧ H dd = some (.xd fs) := by
  cases d with
  | none => exact .inl rfl
  | some dd =>
    obtain ⟨xs, h1, _⟩ := hx
    exact .inr ⟨dd, _, rfl, s _ _ h1⟩
theorem wc_isX {a D : Addr} {d : Option Addr} {c : V} {cv : Value} {b : Bool} (C : ExcC Z.W.K D) (hx : XdOk Z.W Z.G d ns ds) (hc : ClsV c cv) (hk : PySem.W.kitOne Z.W.K (.ref D) cv = some b) (h : Q2 (.b b) M) : WC Z (rIsX Z.W.K (.ref D) d a) [.r a, .v c] M Q2 := fun G H vs Q s R xs r => by
  obtain ⟨y, z, e1, h1, h2⟩ := two_of xs
  rw [dat_v.mp h1, dat_v.mp h2] at e1
  exact ⟨D, c, cv, b, rfl, C, e1, hc, hk, xd_there hx (s.trans R.ex), r _ _ G M H (Same.refl G) R dat_v' h⟩
theorem we_xf {a C : Addr} {cls : Value} {d : Option Addr} {f : Str} (hx : XdOk Z.W Z.G d ns ds) (h : WE Z te ρ M fun x M1 => x = .r a ∧ cls = .ref C ∧ ∃ e, d.isSome = true ∧ (ns.zip ds).lookup f = some e ∧ Q2 e M1) : WE Z (tXf a cls d C f te) ρ M Q2 := fun G σ H Q s R E r =>
  h G σ H _ s R E fun x v G1 M1 H1 s1 R1 hv q => by
    obtain ⟨rfl, rfl, e, hs, l, q⟩ := q
    cases d with
    | none => cases hs
    | some dd =>
      obtain ⟨xs, h1, h2, h3⟩ := hx
      have sz : Same Z.G G1 := s.trans s1
      obtain ⟨y, l1, l2⟩ := zip_look (h3.mono sz) l
      exact ⟨dat_v.mp hv, rfl, dd, _, y, rfl, R1.ex _ _ (sz _ _ h1), l1, r _ _ G1 M1 H1 s1 R1 l2 q⟩
end
end DL
set_option Elab.async false
set_option linter.all false
set_option maxRecDepth 100000
set_option maxHeartbeats 4000000
/-! DL6: sorted(set(rows)), rows a list of tuples of ints. -/
namespace DL
open PySem PySem.Spec PyProof.Rows L2


/-! ### the order of rows -/
theorem lex_irrefl : ∀ x : List Int, HT.lexLt x x = false
  | [] => rfl
  | a :: x => by rw [HT.lexLt_cons, if_pos rfl]; exact lex_irrefl x
theorem lex_asym : ∀ x y : List Int, HT.lexLt x y = true → HT.lexLt y x = false
  | [], [], h => rfl
  | [], _ :: _, h => rfl
  | _ :: _, [], h => nomatch h
  | a :: x, b :: y, h => by
    rw [HT.lexLt_cons] at h ⊢
    by_cases e : a = b
    · rw [if_pos e] at h; rw [if_pos e.symm]; exact lex_asym x y h
    · rw [if_neg e] at h; rw [if_neg (Ne.symm e)]
      have := of_decide_eq_true h
      exact decide_eq_false (by omega)
theorem lex_trans : ∀ x y z : List Int, HT.lexLt x y = true → HT.lexLt y z = true → HT.lexLt x z = true
  | [], [], z, h, _ => nomatch h
  | [], _ :: _, [], _, k => nomatch k
  | [], _ :: _, _ :: _, _, _ => rfl
  | _ :: _, [], z, h, _ => nomatch h
  | _ :: _, _ :: _, [], _, k => nomatch k
  | a :: x, b :: y, c :: z, h, k => by
    rw [HT.lexLt_cons] at h k ⊢
    by_cases e : a = b
    · rw [if_pos e] at h
      by_cases f : b = c
      · rw [if_pos f] at k; rw [if_pos (e.trans f)]; exact lex_trans x y z h k
      · rw [if_neg f] at k; rw [if_neg (by omega)]
        have := of_decide_eq_true k
        exact decide_eq_true (by omega)
    · rw [if_neg e] at h
      have h' := of_decide_eq_true h
      by_cases f : b = c
      · rw [if_neg (by omega)]; exact decide_eq_true (by omega)
      · rw [if_neg f] at k
        have k' := of_decide_eq_true k
        rw [if_neg (by omega)]; exact decide_eq_true (by omega)
theorem lex_tot : ∀ x y : List Int, x = y ∨ HT.lexLt x y = true ∨ HT.lexLt y x = true
  | [], [] => .inl rfl
  | [], _ :: _ => .inr (.inl rfl)
  | _ :: _, [] => .inr (.inr rfl)
  | a :: x, b :: y => by
    rw [HT.lexLt_cons, HT.lexLt_cons]
    by_cases e : a = b
    · subst e
      rw [if_pos rfl, if_pos rfl]
      rcases lex_tot x y with h | h | h
      · exact .inl (by rw [h])
      · exact .inr (.inl h)
      · exact .inr (.inr h)
    · rw [if_neg e, if_neg (Ne.symm e)]
      by_cases h : a < b
      · exact .inr (.inl (decide_eq_true h))
      · exact .inr (.inr (decide_eq_true (by omega)))
theorem lex_negtr (x y z : List Int) (h : HT.lexLt y x = false) (k : HT.lexLt z y = false) : HT.lexLt z x = false := by
  cases q : HT.lexLt z x with
  | false => rfl
  | true =>
    rcases lex_tot x y with e | e | e
    · subst e; rw [q] at k; cases k
    · have := lex_trans z x y q e
      rw [this] at k; cases k
    · rw [e] at h; cases h
/-- rows, sorted, each once -/
def insU (r : List Int) : List (List Int) → List (List Int)
  | [] => [r]
  | x :: xs => if HT.lexLt r x then r :: x :: xs else if r = x then x :: xs else x :: insU r xs
def sset (rows : List (List Int)) : List (List Int) := rows.foldr insU []
abbrev Rising (l : List (List Int)) : Prop := l.Pairwise fun x y => HT.lexLt x y = true
theorem mem_insU {r z : List Int} : ∀ {l : List (List Int)}, z ∈ insU r l ↔ z = r ∨ z ∈ l
  | [] => by simp [insU]
  | x :: xs => by
    unfold insU
    by_cases h : HT.lexLt r x
    · rw [if_pos h]; simp
    · rw [if_neg h]
      by_cases e : r = x
      · rw [if_pos e]; subst e; simp
      · rw [if_neg e]; simp only [List.mem_cons, mem_insU (l := xs)]
        constructor
        · rintro (h | h | h)
          · exact .inr (.inl h)
          · exact .inl h
          · exact .inr (.inr h)
        · rintro (h | h | h)
          · exact .inr (.inl h)
          · exact .inl h
          · exact .inr (.inr h)
theorem rising_insU {r : List Int} : ∀ {l : List (List Int)}, Rising l → Rising (insU r l)
  | [], _ => by simp [insU, Rising]
  | x :: xs, h => by
    unfold insU
    obtain ⟨h1, h2⟩ := List.pairwise_cons.mp h
    by_cases c : HT.lexLt r x
    · rw [if_pos c]
      refine List.pairwise_cons.mpr ⟨fun z hz => ?_, h⟩
      rcases List.mem_cons.mp hz with e | e
      · rw [e]; exact c
      · exact lex_trans _ _ _ c (h1 z e)
    · rw [if_neg c]
      by_cases e : r = x
      · rw [if_pos e]; exact h
      · rw [if_neg e]
        refine List.pairwise_cons.mpr ⟨fun z hz => ?_, rising_insU h2⟩
        rcases mem_insU.mp hz with q | q
        · subst q
          rcases lex_tot z x with k | k | k
          · exact absurd k e
          · rw [k] at c; exact absurd rfl c
          · exact k
        · exact h1 z q
theorem mem_sset {z : List Int} : ∀ {l : List (List Int)}, z ∈ sset l ↔ z ∈ l
  | [] => by simp [sset]
  | x :: xs => by
    show z ∈ insU x (sset xs) ↔ _
    rw [mem_insU, mem_sset, List.mem_cons]
theorem rising_sset : ∀ (l : List (List Int)), Rising (sset l)
  | [] => List.Pairwise.nil
  | x :: xs => rising_insU (rising_sset xs)
theorem rising_uniq : ∀ {l m : List (List Int)}, Rising l → Rising m → (∀ z, z ∈ l ↔ z ∈ m) → l = m
  | [], [], _, _, _ => rfl
  | [], y :: m, _, _, h => absurd ((h y).mpr List.mem_cons_self) (by simp)
  | x :: l, [], _, _, h => absurd ((h x).mp List.mem_cons_self) (by simp)
  | x :: l, y :: m, hl, hm, h => by
    obtain ⟨l1, l2⟩ := List.pairwise_cons.mp hl
    obtain ⟨m1, m2⟩ := List.pairwise_cons.mp hm
    have e : x = y := by
      rcases List.mem_cons.mp ((h x).mp List.mem_cons_self) with e | hx
      · exact e
      · rcases List.mem_cons.mp ((h y).mpr List.mem_cons_self) with e | hy
        · exact e.symm
        · have a := m1 x hx
          have b := l1 y hy
          rw [lex_asym _ _ a] at b; cases b
    subst e
    have ih : l = m := rising_uniq l2 m2 fun z => by
      constructor
      · intro hz
        rcases List.mem_cons.mp ((h z).mp (List.mem_cons_of_mem _ hz)) with e | q
        · subst e
          have := l1 z hz
          rw [lex_irrefl] at this; cases this
        · exact q
      · intro hz
        rcases List.mem_cons.mp ((h z).mpr (List.mem_cons_of_mem _ hz)) with e | q
        · subst e
          have := m1 z hz
          rw [lex_irrefl] at this; cases this
        · exact q
    rw [ih]
theorem sset_rising {l : List (List Int)} (h : Rising l) : sset l = l := rising_uniq (rising_sset l) h fun z => mem_sset
theorem sset_congr {l m : List (List Int)} (h : ∀ z, z ∈ l ↔ z ∈ m) : sset l = sset m := rising_uniq (rising_sset l) (rising_sset m) fun z => by rw [mem_sset, mem_sset]; exact h z
theorem Rising.nodup {l : List (List Int)} (h : Rising l) : l.Nodup := h.imp fun {x y} q e => by
  subst e
  rw [lex_irrefl] at q; cases q
theorem insU_len (r : List Int) : ∀ l : List (List Int), (insU r l).length ≤ l.length + 1
  | [] => Nat.le_refl _
  | x :: xs => by
    unfold insU
    by_cases h : HT.lexLt r x
    · rw [if_pos h]; simp
    · rw [if_neg h]
      by_cases e : r = x
      · rw [if_pos e]; simp
      · rw [if_neg e]
        have := insU_len r xs
        simp only [List.length_cons]
        omega
theorem sset_len : ∀ l : List (List Int), (sset l).length ≤ l.length
  | [] => Nat.le_refl _
  | x :: xs => by
    show (insU x (sset xs)).length ≤ xs.length + 1
    have h1 := insU_len x (sset xs)
    have h2 := sset_len xs
    omega

/-! ### the machine compares tuples of ints -/
section
variable {prog : Program} {w : World} {A : Around} {E : Value → Shared → Prop} {s : Shared}
theorem lex_run {Q : Bool → Shared → Prop} : ∀ {xs ys : List Value} {ns ms : List Int} (i : Nat) (fin : Bool), IntsAre xs ns → IntsAre ys ms → (fin = decide (xs.length < ys.length)) → Q (HT.lexLt ns ms) s → PySem.W.KatLex prog w A true fin Q (xs.zip ys) i s
  | _, _, _, _, i, fin, .nil, .nil, e, q => by subst e; exact PySem.W.kat_nil q
  | _, _, _, _, i, fin, .nil, .cons m t hm, e, q => by subst e; exact PySem.W.kat_nil q
  | _, _, _, _, i, fin, .cons n t hn, .nil, e, q => by subst e; exact PySem.W.kat_nil q
  | _, _, _, _, i, fin, .cons n t hn, .cons m u hm, e, q => by
    rw [List.zip_cons_cons]
    refine PySem.W.kat_cons (SeqAt.EqAt.int_int n t m u prog w _ _ ?_)
    rw [HT.lexLt_cons] at q
    refine PySem.W.kat_go (fun e1 => ?_) (fun e1 => ?_)
    · have ex : n = m := by simpa using e1
      rw [if_pos ex] at q
      refine PySem.W.kat_yes (lex_run (i + 1) fin hn hm ?_ q)
      rw [e]
      simp
    · have ex : ¬ n = m := by simpa using e1
      rw [if_neg ex] at q
      exact PySem.W.kat_no (TS.oneLt_ints _ q)
def ltT (h : Heap) (v u : Value) : Bool := HT.lexLt (TS.intsOf h v) (TS.intsOf h u)
theorem swo_ltT (h : Heap) : SrtO.Swo (ltT h) := ⟨fun x y q => lex_asym _ _ q, fun x y z h k => lex_negtr _ _ _ h k⟩
theorem tups_sortable {a : Addr} {vs : List Value} (h0 : 0 < vs.length) (hp : ∀ v ∈ vs, ∃ n ns, TS.TupInts s.heap v (n :: ns)) (ha : ∀ o, s.heap.get? a = some o → o.cls ≠ .type "tuple") (hB : Heap) (hint : ∀ v ∈ vs, ∀ ns, TS.TupInts s.heap v ns → TS.intsOf hB v = ns) :
    SrtO.SortableO prog w A s a vs (ltT hB) := by
  intro h' keep
  have kp : ∀ v ns, TS.TupInts s.heap v ns → TS.TupInts h' v ns := fun v ns x => x.keeps fun b o e c => keep b o (fun z => by subst z; exact ha o e c) e
  have firsts : ∀ vs : List Value, (∀ v ∈ vs, ∃ n ns, TS.TupInts h' v (n :: ns)) → ∃ fs, PySem.W.KatTups h' vs fs ∧ fs.length = vs.length ∧ ∀ f ∈ fs, ∃ n t, f = Value.int n t := by
    intro vs
    induction vs with
    | nil => intro _; exact ⟨[], PySem.W.KatTups.nil, rfl, fun f hf => by cases hf⟩
    | cons v vs ih =>
      intro hv
      obtain ⟨fs, k1, k2, k3⟩ := ih fun u hu => hv u (List.mem_cons_of_mem _ hu)
      obtain ⟨n, ns, b, xs, rfl, ⟨o, ho, hc, m, hd⟩, hi⟩ := hv v List.mem_cons_self
      obtain ⟨l⟩ := xs
      have hi' : IntsAre l (n :: ns) := hi
      cases hi' with
      | cons _ t r =>
        refine ⟨.int n t :: fs, PySem.W.KatTups.cons ho hc hd rfl k1, by rw [List.length_cons, List.length_cons, k2], fun f hf => ?_⟩
        rcases List.mem_cons.mp hf with e | e
        · exact ⟨n, t, e⟩
        · exact k3 f e
  obtain ⟨fs, k1, k2, k3⟩ := firsts vs fun v hv => by
    obtain ⟨n, ns, x⟩ := hp v hv
    exact ⟨n, ns, kp v _ x⟩
  refine ⟨PyProof.Rows.tuples' true, fun Q E hq => ?_, ?_⟩
  · refine PySem.W.kat_kind (T := .type "int") k1 (by omega) (fun f hm => ?_) (by rfl) ?_
    · obtain ⟨x, t, rfl⟩ := k3 f hm
      exact PySem.W.Looks.now
    · have e : (Value.type "int" != Value.type "tuple") = true := by decide +kernel
      rw [e]
      exact hq
  · intro p q hm hm'
    obtain ⟨n1, ns1, x1⟩ := hp _ hm
    obtain ⟨n2, ns2, x2⟩ := hp _ hm'
    have i1 := hint _ hm _ x1
    have i2 := hint _ hm' _ x2
    obtain ⟨a1, xs1, e1, ⟨o1, ho1, _, m1, hd1⟩, j1⟩ := kp _ _ x1
    obtain ⟨a2, xs2, e2, ⟨o2, ho2, _, m2, hd2⟩, j2⟩ := kp _ _ x2
    show wpAny (model prog w) A (PyProof.Rows.keyLt' (PyProof.Rows.tuples' true) p.1 q.1) (fun r s' => s' = { s with heap := h' } ∧ r = HT.lexLt (TS.intsOf hB p.1) (TS.intsOf hB q.1)) (fun _ _ => False) { s with heap := h' }
    rw [i1, i2, e1, e2]
    exact PySem.W.kat_lt ho1 hd1 ho2 hd2 (lex_run 0 _ j1 j2 (by simp) ⟨rfl, rfl⟩)
end

/-! ### sorted(set) -/
theorem perm_map_inv {α β : Type} {f : α → β} {l m : List β} (h : l.Perm m) : ∀ {L : List α}, L.map f = m → ∃ L' : List α, L'.Perm L ∧ L'.map f = l := by
  induction h with
  | nil => intro L e; exact ⟨[], by rw [List.map_eq_nil_iff.mp e], rfl⟩
  | @cons x l1 l2 _ ih =>
    intro L e
    cases L with
    | nil => cases e
    | cons a L =>
      rw [List.map_cons] at e
      injection e with e1 e2
      obtain ⟨L', p, q⟩ := ih e2
      exact ⟨a :: L', p.cons a, by rw [List.map_cons, e1, q]⟩
  | @swap x y l1 =>
    intro L e
    match L, e with
    | [], e => cases e
    | [a], e => cases e
    | a :: b :: L, e =>
      rw [List.map_cons, List.map_cons] at e
      injection e with e1 e2
      injection e2 with e2 e3
      exact ⟨b :: a :: L, List.Perm.swap a b L, by rw [List.map_cons, List.map_cons, e1, e2, e3]⟩
  | trans _ _ ih1 ih2 =>
    intro L e
    obtain ⟨L1, p1, q1⟩ := ih2 e
    obtain ⟨L2, p2, q2⟩ := ih1 q1
    exact ⟨L2, p2.trans p1, q2⟩
section
variable {P : Program} {w : World} {A : Around} {E : Value → Shared → Prop} {s : Shared} {a : Addr} {L : List (Addr × List Int)} {es : Array (Int × Value)} {ep : Nat} {t : SetTable}
theorem sorted_setG {Q : Value → Shared → Prop} (R : SetTR P w s.heap a L es ep t) (hh : A.handled = none) {d : Nat} (hd : ∀ p ∈ L, p.2.length = d)
    (hQ : ∀ s' p (out : Array Value) (c : Nat) (L' : List (Addr × List Int)), (∀ b o, s.heap.get? b = some o → s'.heap.get? b = some o) → s'.gens = s.gens → s'.os = s.os → s.heap.objs.size ≤ p →
      s'.heap.get? p = some (seqObj "list" out c) → out.toList = L'.map (fun q => Value.ref q.1) → L'.Perm L → L'.Pairwise (fun q r => HT.lexLt q.2 r.2 = true) → Q (.ref p) s') :
    wpAny (model P w) A (call (.builtin "sorted") [.ref a]) Q E s := by
  obtain ⟨o, ho, hex, hdat⟩ := R.ob
  have hsz := R.size
  have hfew := R.few
  refine Calls.call_function_entry kind_sorted plain_sorted entry_sorted (args_sorted1 _) ?_
  unfold Builtin.«sorted»
  refine wpAny_bind (m := checkCount "sorted" 1 1 _) (wpAny_pure ?_)
  refine wpAny_bind (collect_set (A := A.in1) hh ⟨o, ho, hex.1, hdat⟩ R.fits (by unfold scanBound; omega) R.tab.ris R.led fun s1 vs k1 hz g1 o1 pm => ?_)
  have pm' : vs.Perm (L.map fun q => Value.ref q.1) := by
    have e : es.toList.map (·.2) = L.map fun q => Value.ref q.1 := by
      rw [R.rows]; unfold rowsOf; rw [List.map_map]; rfl
    rw [← e]; exact pm
  have hvl : vs.length = L.length := by rw [pm'.length_eq, List.length_map]
  refine wpAny_bind (wpAny_newList ?_ (by rw [sizeLine_eq]; omega))
  generalize hT : s1.heap.push (seqObj "list" vs.toArray 0) = h1
  have hoL : h1.get? s1.heap.objs.size = some (seqObj "list" vs.toArray 0) := by rw [← hT]; exact Heap.get?_push_size _ rfl
  have hk : ∀ b u, s.heap.get? b = some u → h1.get? b = some u := fun b u e => by rw [← hT]; exact Heap.get?_push_of_some _ (k1 b u e)
  have tk : ∀ q ∈ L, TS.TupInts h1 (.ref q.1) q.2 := fun q hq => tupInts_of (P := P) (w := w) (isT_keep (R.tup q hq) hk)
  have hmem : ∀ v ∈ vs, ∃ q ∈ L, v = Value.ref q.1 := fun v hv => by
    obtain ⟨q, hq, e⟩ := List.mem_map.mp (pm'.mem_iff.mp hv)
    exact ⟨q, hq, e.symm⟩
  show wpAny _ _ _ _ _ { s1 with heap := h1 }
  refine wpAny_bind (wpAny_holding (wpAny_call_entry slot_list_sort ⟨_, hoL, rfl⟩ entry_list_sort (SrtO.list_sort_ord (ltv := ltT h1) (swo_ltT h1) hoL (by rw [sizeLine_eq]; omega) (fun h2 => ?_) fun out hs hb => ⟨_, rfl, ?_⟩) (args_list_sort _)))
  · refine tups_sortable (s := { s1 with heap := h1 }) (by omega) (fun v hv => ?_) (fun o e => ?_) h1 fun v hv ns x => x.ints
    · obtain ⟨q, hq, rfl⟩ := hmem v hv
      have x := tk q hq
      cases e : q.2 with
      | cons n ns => rw [e] at x; exact ⟨n, ns, x⟩
      | nil =>
        exfalso
        have d0 : d = 0 := by rw [← hd q hq, e]; rfl
        have all0 : ∀ r ∈ L, r.2 = [] := fun r hr => List.eq_nil_of_length_eq_zero (by rw [hd r hr, d0])
        have nd := R.nd
        match L, hvl, all0, nd with
        | [], hvl, _, _ => rw [List.length_nil] at hvl; omega
        | [_], hvl, _, _ => rw [List.length_singleton] at hvl; omega
        | x1 :: x2 :: L, _, all0, nd =>
          rw [List.map_cons, List.map_cons, all0 x1 (by simp), all0 x2 (by simp)] at nd
          simp at nd
    · have e' : some o = some (seqObj "list" vs.toArray 0) := e.symm.trans hoL
      cases e'
      intro c
      exact absurd (Value.type.inj c) (by decide)
  · obtain ⟨L', pL, eL⟩ := perm_map_inv (hb.perm.trans pm') rfl
    obtain ⟨c, hc⟩ := sortedHeap_at (vs := vs) (out := out.toArray) hoL
    have nd' : (L'.map (·.2)).Nodup := (pL.map (·.2)).nodup_iff.mpr R.nd
    have pw : L'.Pairwise (fun q r => HT.lexLt q.2 r.2 = true) := by
      have h1' : (L'.map fun q => Value.ref q.1).Pairwise (fun x y => ltT h1 y x = false) := by rw [eL]; exact hs
      have h2' := List.pairwise_map.mp h1'
      have h3' := List.pairwise_map.mp nd'
      refine (h2'.and h3').imp_of_mem fun {q r} hq hr z => ?_
      have f1 : TS.intsOf h1 (.ref q.1) = q.2 := (tk q (pL.mem_iff.mp hq)).ints
      have f2 : TS.intsOf h1 (.ref r.1) = r.2 := (tk r (pL.mem_iff.mp hr)).ints
      have z1 : HT.lexLt (TS.intsOf h1 (.ref r.1)) (TS.intsOf h1 (.ref q.1)) = false := z.1
      rw [f1, f2] at z1
      rcases lex_tot q.2 r.2 with e | e | e
      · exact absurd e z.2
      · exact e
      · rw [e] at z1; cases z1
    refine wpAny_pure ⟨_, rfl, hQ _ s1.heap.objs.size out.toArray c L' (fun b u e => ?_) g1 o1 hz hc (by rw [← eL]) pL pw⟩
    have q := k1 b u e
    have hlt := Heap.lt_size q
    have hlt2 : b < h1.objs.size := Heap.lt_size (hk b u e)
    show (sortedHeap h1 s1.heap.objs.size vs out.toArray).get? b = some u
    rw [sortedHeap_old (Nat.ne_of_lt hlt) hlt2]
    exact hk b u e
end
/-- sorted of a set of tuples of ints, all of one length -/
def rSortG (W : Wd) : List V → Hp → VK → Prop := fun vs H Q => ∃ (a : Addr) (L : List (Addr × List Int)) (d : Nat), vs = [V.ref a] ∧ H a = some (SetTO W.P W.w a L) ∧ (∀ p ∈ L, SqT W.K H p.1 (p.2.map V.int)) ∧ (∀ p ∈ L, p.2.length = d) ∧
  ∀ (L' : List (Addr × List Int)) (p : Addr), L'.Perm L → L'.Pairwise (fun q r => HT.lexLt q.2 r.2 = true) → H p = none → Q (.ref p) (upd H p (.lst (L'.map fun q => V.ref q.1)))
abbrev Cx.wd (X : Cx) : Wd := ⟨X.prog, X.w, X.K⟩
theorem cr_sortG {X : Cx} (hc : X.calm = true) : CallR X (.builtin "sorted") (rSortG (Cx.wd X)) := by
  intro pins s σ H vs us Q I r h
  obtain ⟨a, L, d, rfl, ha, hk, hd, q⟩ := h
  have R0 : SetT0 X.prog X.w s.heap a L := (I.hok a _ ha).1
  obtain ⟨es, ep, t, R⟩ := R0.full fun p hp => I.isT (hk p hp)
  rw [Vals.ref1 r]
  refine sorted_setG R (I.ok.hd hc) hd fun s' p out c L' k g o hp hg hout pm pw => ?_
  have hl : L'.length < 64 := by rw [pm.length_eq]; exact R.few
  have hlen : (L'.map fun q => V.ref q.1).length ≤ sizeLine := by rw [List.length_map, sizeLine_eq]; omega
  have hn : H p = none := I.hok.fresh hp
  have hv : Vals (L'.map fun q => V.ref q.1) out.toList := by rw [hout]; exact vals_of_refs L'
  obtain ⟨h', g', d', t', o'⟩ := s'
  have eo : o' = s.os := o
  subst eo
  have J := I.call (g' := g') (t' := t') (d' := d') (ch := []) (Un.laid (o := .lst (L'.map fun q => V.ref q.1)) k hp hn) (I.hok.laid k hp ⟨hlen, out.toList, c, hv, hg⟩) (by have : g' = s.gens := g; rw [this]; exact I.bare) (fun _ z => nomatch z)
  exact ⟨.ref p, _, J, rfl, q L' p pm pw hn⟩
/-- a row as data -/
abbrev rowD (r : List Int) : DV := .tup (r.map DV.i)
section
variable {W : Wd} {Z : Zn} {G G' F : Hp} {ρ : Ro} {M : Mu} {H : Hp} {te : TE} {Q2 : DQ}
theorem rows_keys : ∀ {rows : List (List Int)} {xs : List V}, DatL W G (rows.map rowD) xs → ∃ ks : List (Addr × List Int), xs = ks.map (fun p => V.ref p.1) ∧ ks.map (·.2) = rows ∧ ∀ p ∈ ks, SqT W.K G p.1 (p.2.map V.int)
  | [], xs, h => ⟨[], by rw [datL_nil.mp h]; rfl, rfl, fun p hp => by cases hp⟩
  | r :: rows, xs, h => by
    obtain ⟨y, t, e, h1, h2⟩ := datL_cons.mp h
    obtain ⟨a, zs, e1, e2, e3⟩ := dat_tup.mp h1
    obtain ⟨ks, k1, k2, k3⟩ := rows_keys h2
    rw [datL_int e3] at e2
    refine ⟨(a, r) :: ks, by rw [e, e1, k1]; rfl, by rw [List.map_cons, k2], fun p hp => ?_⟩
    rcases List.mem_cons.mp hp with q | q
    · rw [q]; exact e2
    · exact k3 p q
theorem keys_rows : ∀ {ks : List (Addr × List Int)}, (∀ p ∈ ks, SqT W.K G p.1 (p.2.map V.int)) → DatL W G ((ks.map (·.2)).map rowD) (ks.map fun p => V.ref p.1)
  | [], _ => datL_nil'
  | p :: ks, h => datL_cons' (dat_tup.mpr ⟨p.1, _, rfl, h p List.mem_cons_self, by
      have : p.2.map DV.i = (p.2.map V.int).map DV.v := by rw [List.map_map]; rfl
      rw [this]
      exact datL_v _⟩) (keys_rows fun q hq => h q (List.mem_cons_of_mem _ hq))
theorem we_sset {P : Program} {w : World} {K : PySem.W.Frag} (hW : Z.W = ⟨P, w, K⟩) (h : WE Z te ρ M fun d M1 => ∃ (rows : List (List Int)) (n : Nat), LstOf M1 d (rows.map rowD) ∧ rows.length < 64 ∧ (∀ r ∈ rows, r.length = n) ∧ Q2 (.lst ((sset rows).map rowD)) M1) :
    WE Z (tCB (rSortG ⟨P, w, K⟩) (tCons (tCB (rSetOfT K P w) (tCons te tNil)) tNil)) ρ M Q2 := fun G σ H Q s R E r => by
  refine h G σ H _ s R E fun d v G1 M1 H1 s1 R1 x q => ?_
  obtain ⟨rows, n, l, hl, hn, q⟩ := q
  obtain ⟨a, xs, e1, e2, e3⟩ := lst_at R1 x l
  obtain ⟨ks, k1, k2, k3⟩ := rows_keys e3
  have kl : ks.length = rows.length := by rw [← k2, List.length_map]
  have hWK : Z.W.K = K := by rw [hW]
  have k3' : ∀ p ∈ ks, SqT K H1 p.1 (p.2.map V.int) := fun p hp => by rw [← hWK]; exact sqt_mono R1.ex (k3 p hp)
  subst e1
  refine ⟨a, ks, rfl, SqL.of (by rw [e2, k1]), k3', by omega, fun b L hb hL1 hL2 => ?_⟩
  have L3 : ∀ p ∈ L, SqT Z.W.K G1 p.1 (p.2.map V.int) := fun p hp => k3 p (hL1 p hp)
  refine ⟨b, L, n, rfl, upd_same, fun p hp => ?_, fun p hp => hn _ (by rw [← k2]; exact List.mem_map_of_mem (hL1 p hp)), fun L' p pm pw hp => ?_⟩
  · have := sqt_mono (same_new (o := SetTO P w b L) hb) (k3' p (hL1 p hp))
    exact this
  · have hp1 : H1 p = none := by
      by_cases e : p = b
      · rw [e, upd_same] at hp; cases hp
      · rw [upd_ne e] at hp; exact hp
    have R2 : Rep Z.W G1 M1 Z.F (upd H1 b (SetTO P w b L)) := R1.skip hb
    have es : sset rows = L'.map (·.2) := rising_uniq (rising_sset rows) (List.pairwise_map.mpr pw) fun z => by
      rw [mem_sset, ← k2]
      constructor
      · intro hz
        obtain ⟨p', hp', e'⟩ := List.mem_map.mp hz
        have := hL2 p' hp'
        rw [e'] at this
        exact (pm.map (·.2)).mem_iff.mpr this
      · intro hz
        obtain ⟨p', hp', e'⟩ := List.mem_map.mp ((pm.map (·.2)).mem_iff.mp hz)
        rw [← e']
        exact List.mem_map_of_mem (hL1 p' hp')
    rw [es] at q
    have sn := same_new (o := .lst (L'.map fun q => V.ref q.1)) (R2.gnone hp)
    exact r _ _ _ M1 _ (s1.trans sn) (R2.new hp) (dat_lst.mpr ⟨p, _, rfl, upd_same, (keys_rows fun p' hp' => L3 p' (pm.mem_iff.mp hp')).mono sn⟩) q
end
end DL
set_option Elab.async false
set_option linter.all false
set_option maxRecDepth 100000
set_option maxHeartbeats 4000000
/-! DL7: set(..) of a list of keys carried by value; len of it. -/
namespace DL
open PySem PySem.Spec PyProof.Rows L2

/-- each once, in the order of the first coming -/
def addU {α : Type} [DecidableEq α] (acc : List α) (k : α) : List α := if k ∈ acc then acc else acc ++ [k]
def uniq {α : Type} [DecidableEq α] (ks : List α) : List α := ks.foldl addU []
section
variable {α : Type} [DecidableEq α]
theorem mem_addU {acc : List α} {k z : α} : z ∈ addU acc k ↔ z ∈ acc ∨ z = k := by
  unfold addU
  by_cases h : k ∈ acc
  · rw [if_pos h]
    exact ⟨.inl, fun q => q.elim id fun e => e ▸ h⟩
  · rw [if_neg h]; simp
theorem mem_foldU {z : α} : ∀ {ks acc : List α}, z ∈ ks.foldl addU acc ↔ z ∈ acc ∨ z ∈ ks
  | [], acc => by simp
  | k :: ks, acc => by
    rw [List.foldl_cons, mem_foldU, mem_addU, List.mem_cons]
    constructor
    · rintro ((h | h) | h)
      · exact .inl h
      · exact .inr (.inl h)
      · exact .inr (.inr h)
    · rintro (h | h | h)
      · exact .inl (.inl h)
      · exact .inl (.inr h)
      · exact .inr h
theorem mem_uniq {z : α} {ks : List α} : z ∈ uniq ks ↔ z ∈ ks := by unfold uniq; rw [mem_foldU]; simp
theorem len_addU (acc : List α) (k : α) : (addU acc k).length = if k ∈ acc then acc.length else acc.length + 1 := by
  unfold addU; split <;> simp
theorem nodup_addU {acc : List α} {k : α} (h : acc.Nodup) : (addU acc k).Nodup := by
  unfold addU
  by_cases q : k ∈ acc
  · rw [if_pos q]; exact h
  · rw [if_neg q]
    rw [List.nodup_append]
    exact ⟨h, by simp, fun a ha b hb => by
      have : b = k := by simpa using hb
      subst this
      exact fun e => q (e ▸ ha)⟩
theorem nodup_foldU : ∀ {ks acc : List α}, acc.Nodup → (ks.foldl addU acc).Nodup
  | [], acc, h => h
  | k :: ks, acc, h => nodup_foldU (ks := ks) (acc := addU acc k) (nodup_addU h)
theorem nodup_uniq (ks : List α) : (uniq ks).Nodup := nodup_foldU List.nodup_nil
theorem foldU_nodup : ∀ {ks acc : List α}, (acc ++ ks).Nodup → ks.foldl addU acc = acc ++ ks
  | [], acc, h => by simp
  | k :: ks, acc, h => by
    rw [List.foldl_cons]
    have hk : k ∉ acc := fun q => by
      rw [List.nodup_append] at h
      exact h.2.2 k q k List.mem_cons_self rfl
    have e : addU acc k = acc ++ [k] := if_neg hk
    rw [e, foldU_nodup (by simpa using h)]
    simp
theorem uniq_nodup {ks : List α} (h : ks.Nodup) : uniq ks = ks := by
  unfold uniq; rw [foldU_nodup (by simpa using h)]; simp
theorem foldU_len_le : ∀ (ks acc : List α), (ks.foldl addU acc).length ≤ acc.length + ks.length
  | [], acc => by simp
  | k :: ks, acc => by
    rw [List.foldl_cons]
    have h1 := foldU_len_le ks (addU acc k)
    have h2 := len_addU acc k
    simp only [List.length_cons]
    split at h2 <;> omega
theorem foldU_len_eq : ∀ {ks acc : List α}, (ks.foldl addU acc).length = acc.length + ks.length → acc.Nodup → (acc ++ ks).Nodup
  | [], acc, _, n => by simpa using n
  | k :: ks, acc, e, n => by
    rw [List.foldl_cons] at e
    have h1 := foldU_len_le ks (addU acc k)
    have h2 := len_addU acc k
    simp only [List.length_cons] at e
    by_cases q : k ∈ acc
    · rw [if_pos q] at h2; omega
    · rw [if_neg q] at h2
      have := foldU_len_eq (ks := ks) (acc := addU acc k) (by omega) (nodup_addU n)
      have ea : addU acc k = acc ++ [k] := if_neg q
      rw [ea] at this
      simpa using this
theorem uniq_len_le (ks : List α) : (uniq ks).length ≤ ks.length := by have := foldU_len_le ks ([] : List α); simpa [uniq] using this
theorem uniq_len {ks : List α} : (uniq ks).length = ks.length ↔ ks.Nodup := by
  constructor
  · intro h
    have := foldU_len_eq (ks := ks) (acc := []) (by simpa [uniq] using h) List.nodup_nil
    simpa using this
  · intro h; rw [uniq_nodup h]
end
section
variable {prog : Program} {w : World} {A : Around} {E : Value → Shared → Prop} {s : Shared} {K : Type} [DecidableEq K] {knd : PySem.KeyKind prog w K}
theorem setOf_of {h : Heap} {a : Addr} {S S' : K → Bool} {n n' : Nat} (x : h.SetOf knd a S n) (e : ∀ k, S k = S' k) (en : n = n') : h.SetOf knd a S' n' := by
  obtain rfl : S = S' := funext e
  subst en
  exact x
/-- the loop that fills a set: the keys from the i-th on are added -/
theorem fill_keys {I : Addr} {fp wr : List Addr} {Gm : Array GenState → Array GenState → Prop} {Pv : Nat → Value → Prop} {St : Nat → Shared → Prop} {R : Result → Shared → Prop} (ks : List K)
    (Wk : WalksS prog w A.in1 I fp wr Gm ks.length Pv St) (S : Addr) (hSf : S ∉ fp) (hval : ∀ (i : Nat) (v : Value), Pv i v → ∃ k, ks[i]? = some k ∧ knd.is k v = true ∧ v.scannable = true) (hb : ks.length + 1 < scanBound) :
    ∀ (r i : Nat) (s : Shared), ks.length - i = r → i ≤ ks.length → St i s → s.heap.SetOf knd S (fun k => decide (k ∈ uniq (ks.take i))) (uniq (ks.take i)).length →
      (∀ s', Moved (S :: wr) Gm s s' → s'.heap.SetOf knd S (fun k => decide (k ∈ uniq ks)) (uniq ks).length → R (.ok (.ret .none)) s') →
      codeAny (model prog w) A (.builtin "set.update.loop" ⟨[.ref S, .ref I], []⟩) R s := by
  have hSw : S ∉ wr := fun h => hSf (Wk.sub _ h)
  have sub : ∀ b ∈ wr, b ∈ S :: wr := fun b hb => List.mem_cons_of_mem _ hb
  intro r
  induction r with
  | zero =>
    intro i s hr hi hst hS hR
    obtain rfl : i = ks.length := by omega
    rw [List.take_length] at hS
    refine codeAny_builtin PyProof.Rows.F.entry_set_update_loop ?_
    rw [Around.under_plainId PyProof.Rows.F.plain_set_update_loop _]
    refine wpAny_bind (m := pyNext (.ref I)) (Wk.done s _ _ hst fun s' hm => ?_)
    refine wpAny_pure (hR s' (hm.mono sub) ?_)
    obtain ⟨o, es, ep, t, ho, rest⟩ := hS
    exact ⟨o, es, ep, t, hm.heap S _ hSw ho, rest⟩
  | succ r ih =>
    intro i s hr hi hst hS hR
    have hlt : i < ks.length := by omega
    refine codeAny_builtin PyProof.Rows.F.entry_set_update_loop ?_
    rw [Around.under_plainId PyProof.Rows.F.plain_set_update_loop _]
    refine wpAny_bind (m := pyNext (.ref I)) (Wk.item i s _ _ hlt hst fun v s' hP hst' hm => ?_)
    obtain ⟨k, hk, his, hsc⟩ := hval i v hP
    have hS' : s'.heap.SetOf knd S (fun k => decide (k ∈ uniq (ks.take i))) (uniq (ks.take i)).length := by
      obtain ⟨o, es, ep, t, ho, rest⟩ := hS
      exact ⟨o, es, ep, t, hm.heap S _ hSw ho, rest⟩
    refine wpAny_bind (m := holding [v] (setAdd S v)) (wpAny_holding ?_)
    unfold setAdd
    refine wpAny_holding (wpAny_bind (knd.pyHash (k := k) his ?_))
    have hlen : (uniq (ks.take i)).length + 1 < scanBound := by
      have h1 := uniq_len_le (ks.take i)
      rw [List.length_take] at h1
      omega
    refine wpAny_setAddHashed_of (knd := knd) (s := { s' with toks := s'.toks + 1 }) his hsc hS' hlen fun h' hsb hS2 => ?_
    have step : uniq (ks.take (i + 1)) = addU (uniq (ks.take i)) k := by
      unfold uniq
      rw [List.take_add_one, hk, List.foldl_append]
      rfl
    have hSi : h'.SetOf knd S (fun k => decide (k ∈ uniq (ks.take (i + 1)))) (uniq (ks.take (i + 1))).length := by
      refine setOf_of hS2 (fun z => ?_) ?_
      · rw [step]
        rw [Bool.eq_iff_iff]
        simp only [Bool.or_eq_true, decide_eq_true_eq, mem_addU]
      · rw [step, len_addU]
        simp only [decide_eq_true_eq]
    refine wpAny_pure ⟨plainId_quiet PyProof.Rows.F.plain_set_update_loop _, ih (i + 1) _ (by omega) hlt (Wk.frame _ s' _ _ hst' (Nat.le_succ _) fun b hb o e => ?_) hSi fun s'' hm'' hS'' => ?_⟩
    · exact (hsb.2 b fun (z : b = S) => hSf (z ▸ hb)).trans e
    · refine hR s'' (Moved.trans Wk.gtrans ((hm.mono sub).then_heap (Nat.le_succ _) fun b o hb e => ?_) hm'') hS''
      exact (hsb.2 b fun (z : b = S) => hb (z ▸ List.mem_cons_self)).trans e
theorem call_set_keys {l : Addr} {items : Array Value} {ks : List K} {Q : Value → Shared → Prop} (hh : A.handled = none) (hl : s.heap.IsList l items) (hsz : items.size = ks.length)
    (hval : ∀ (i : Nat) (v : Value), items[i]? = some v → ∃ k, ks[i]? = some k ∧ knd.is k v = true ∧ v.scannable = true) (hb : ks.length + 1 < scanBound)
    (h : ∀ (h' : Heap) (tk : Nat), h'.SetOf knd s.heap.objs.size (fun k => decide (k ∈ uniq ks)) (uniq ks).length → (∀ b o, s.heap.get? b = some o → h'.get? b = some o) → Q (.ref s.heap.objs.size) { s with heap := h', toks := tk }) :
    wpAny (model prog w) A (call (.type "set") [.ref l]) Q E s := by
  obtain ⟨cc, tl, hmro⟩ := PySem.F.called_set.mro
  have hmade := PySem.F.called_set.made
  have hsub := PySem.F.called_set.sub
  have h1 := PySem.F.called_set.notType
  have h2 := PySem.F.called_set.canCreate
  have hct := PySem.F.typeCall_set_1 (.ref l)
  obtain ⟨ol, hol, hcl, nl, hdl⟩ := id hl
  have hlS : l < s.heap.objs.size := Heap.lt_size hol
  refine wpAny_call (codeAny_of_tree ?_)
  show wpAny _ _ (callAny (.type "set") _) _ _ _
  refine wpAny_pure ⟨Code.quiet_builtin _ (by decide +kernel), codeAny_builtin PySem.F.entry_type_call ?_⟩
  rw [Around.under_plain (weight_type_call_type "set" [.ref l] []) rfl]
  repeat (any_goals (first | assumption | wp_step))
  refine codeAny_mono (code_set_new_1 (.ref l) (E := E) (Q₁ := fun ob s₁ => ∃ led : Bool, ob = .ref s.heap.objs.size ∧ s₁ = { s with heap := s.heap.push { cls := .type "set", dict := none, data := .set #[] 0 (.fresh 0 0 led) } }) fun led => ⟨led, rfl, rfl⟩) fun r s₁ hr => ?_
  rcases r with er | fl
  · exact hr
  · cases fl with
    | ret ob =>
      obtain ⟨led, rfl, rfl⟩ := hr
      generalize hp : s.heap.push { cls := .type "set", dict := none, data := .set #[] 0 (.fresh 0 0 led) } = hp1
      have sz1 : hp1.objs.size = s.heap.objs.size + 1 := by rw [← hp, Heap.size_push]
      have hS : hp1.get? s.heap.objs.size = some { cls := .type "set", dict := none, data := .set #[] 0 (.fresh 0 0 led) } := by rw [← hp]; exact Heap.get?_push_size _ rfl
      have k1 : ∀ b o, s.heap.get? b = some o → hp1.get? b = some o := fun b o e => by rw [← hp]; exact Heap.get?_push_of_some _ e
      have hT : Shared.TypeIs { s with heap := hp1 } (.ref s.heap.objs.size) "set" := ⟨_, hS, rfl⟩
      have hli := PySem.F.called_set.init.lookup
      have hbi := PySem.F.called_set.init.bind (.ref s.heap.objs.size)
      repeat (any_goals (first | assumption | wp_step))
      refine codeAny_mono (codeAny_call_builtin (R := wants (fun rv s₂ => rv = .none ∧ ∃ h' tk, s₂ = { s with heap := h', toks := tk } ∧ h'.SetOf knd s.heap.objs.size (fun k => decide (k ∈ uniq ks)) (uniq ks).length ∧
          (∀ b o, s.heap.get? b = some o → h'.get? b = some o)) E) PySem.F.called_set.init.plain PySem.F.entry_set_init (check_set_init_1 hT ?_)) fun r₂ s₂ hr₂ => ?_
      · obtain ⟨oc, od, ot, os⟩ := ol
        simp only at hcl hdl
        subst hcl hdl
        have hol' := k1 _ _ hol
        have g1 := PySem.F.sub_list_set
        have g2 := PySem.F.sub_list_frozenset
        have g3 : (Value.type "list" == Value.type "dict") = false := by decide
        have hl1 : hp1.IsList l items := ⟨_, hol', rfl, nl, rfl⟩
        unfold Builtin.«set.__init__» noKeywords Builtin.Frozenset.updateFrom
        generalize hPI : pyIter = PI
        wp_walk
        subst hPI
        refine wpAny_pyIter_list hl1 (wpAny_bind (wpAny_runValue ?_))
        have hh3 : A.in1.in1.in1.handled = none := by simp [hh]
        have neI : l ≠ hp1.objs.size := by rw [sz1]; exact Nat.ne_of_lt (Nat.lt_succ_of_lt hlS)
        have Wk := (Walks.list (prog := prog) (w := w) hh3 hp1.objs.size l neI items).toS
        rw [hsz] at Wk
        have hSf : s.heap.objs.size ∉ [hp1.objs.size, l] := by
          rw [sz1]
          simp only [List.mem_cons, List.not_mem_nil, or_false, not_or]
          exact ⟨Nat.ne_of_lt (Nat.lt_succ_self _), Nat.ne_of_gt hlS⟩
        refine fill_keys (knd := knd) ks Wk s.heap.objs.size hSf hval hb (ks.length - 0) 0 _ (by omega) (Nat.zero_le _) ⟨⟨_, Heap.get?_push_size _ rfl, rfl, rfl⟩, hl1.push _⟩ ?_ fun s' hm hS' => ?_
        · have hget : (hp1.push { cls := .type "list_iterator", data := .fields #[.ref l, .int 0 0] }).get? s.heap.objs.size = some { cls := .type "set", dict := none, data := .set #[] 0 (.fresh 0 0 led) } := Heap.get?_push_of_some _ hS
          exact setOf_of ((PyProof.Rows.setObjOf_fresh (knd := knd) led).setOf hget (by unfold scanBound; omega)) (fun _ => by simp [uniq]) rfl
        · obtain ⟨h', g', d', tk', os'⟩ := s'
          have eg : g' = s.gens := hm.gens
          have ed : d' = s.drawn := hm.drawn
          have eo : os' = s.os := hm.os
          subst eg ed eo
          refine wpAny_pure (wpAny_pure ⟨rfl, h', tk', rfl, hS', fun b o e => ?_⟩)
          have hb' := Heap.lt_size e
          refine hm.heap b o ?_ (Heap.get?_push_of_some _ (k1 b o e))
          simp only [List.mem_cons, List.not_mem_nil, or_false, not_or]
          rw [sz1]
          exact ⟨Nat.ne_of_lt hb', Nat.ne_of_lt (Nat.lt_succ_of_lt hb')⟩
      · rcases r₂ with e2 | fl₂
        · exact hr₂
        · cases fl₂ with
          | ret rv =>
            obtain ⟨rfl, h', tk, rfl, hS', hk'⟩ := hr₂
            repeat (any_goals (first | assumption | wp_step))
            exact h _ _ hS' hk'
          | _ => exact hr₂.elim
    | _ => exact hr.elim
end

/-! ### len(set(xs)), xs a list of texts -/
def tLenS (K : PySem.W.Frag) (ta : TE) : TE := fun σ H Q => ta σ H fun x H1 => ∃ (l : Addr) (xs : List Str), x = .ref l ∧ SqL K H1 l (xs.map V.str) ∧ xs.length ≤ 4000 ∧ Q (.int ((uniq xs).length : Nat)) H1
theorem strs_at : ∀ {xs : List Str} {us : List Value}, Vals (xs.map V.str) us → ∀ (i : Nat) (v : Value), us[i]? = some v → ∃ x t, xs[i]? = some x ∧ v = Value.str x t
  | [], _, .nil, i, v, h => by simp at h
  | x :: xs, _, .cons r t, 0, v, h => by
    obtain ⟨k, rfl⟩ := r
    exact ⟨x, k, rfl, by simpa using h.symm⟩
  | x :: xs, _, .cons r t, i + 1, v, h => by
    obtain ⟨y, k, h1, h2⟩ := strs_at t i v (by simpa using h)
    exact ⟨y, k, by simpa using h1, h2⟩
theorem pe_lenS {X : Cx} {a : Expr} {ta : TE} {p p2 q pos : Pos} (hc : X.calm = true) (hg : Gl X "len") (hm : X.mg "len" = none) (hg2 : Gl X "set") (hm2 : X.mg "set" = none) (ha : PE X a ta)
    (na : starEach [a] X.env = (false, eval a X.env) :: starEach [] X.env := by rfl) : PE X (.Call (.Name "len" p) [.Call (.Name "set" p2) [a] [] q] [] pos) (tLenS X.K ta) := by
  refine ⟨fun pins s σ H Q I h => ?_⟩
  refine Call_ (ld_blt I hg hm boot_len ?_)
  refine PyProof.Rows.callWith_builtin1 (PyProof.Rows.args_cons ?_ rfl) rfl rfl
  refine Call_ (ld_blt I hg2 hm2 boot_set ?_)
  refine PyProof.Rows.callWith_type1 (PyProof.Rows.args_cons (thn (ha.run pins s σ H _ I h) fun v s1 ⟨x, H1, I1, r1, q1⟩ => PyProof.Rows.args_nil ?_) na) na rfl
  obtain ⟨l, xs, rfl, hq, hl, q1⟩ := q1
  cases r1
  obtain ⟨its, r, pl, hz⟩ := I1.list hq
  have hlen : its.toArray.size = xs.length := by rw [List.size_toArray, ← r.length, List.length_map]
  refine call_set_keys (knd := strKind X.prog X.w) (I1.ok.hd hc) pl.isList hlen (fun i v hv => ?_) (by unfold scanBound; omega) fun h' tk hS hk => ?_
  · obtain ⟨y, t, e1, rfl⟩ := strs_at r i v (by simpa using hv)
    exact ⟨y, e1, strKind_is _ _ _ _, rfl⟩
  · refine PyProof.Rows.args_nil ?_
    obtain ⟨o, es, ep, t, ho, hex, hd, _, _, hsb, hf, hn⟩ := hS
    have I2 : Inv X pins σ H1 { s1 with heap := h', toks := tk } := I1.kept hk
    have hfit : ((es.size : Nat) : Int) < 2 ^ 63 := by unfold scanBound at hsb; omega
    exact call_len_set ho hex hd hf hfit ⟨.int (uniq xs).length, H1, I2.tok _, ⟨_, by rw [hn]⟩, q1⟩
section
variable {Z : Zn} {ρ : Ro} {M : Mu} {te : TE} {Q2 : DQ}
theorem we_lenS (h : WE Z te ρ M fun d M1 => ∃ xs : List Str, LstOf M1 d (xs.map DV.s) ∧ xs.length ≤ 4000 ∧ Q2 (.i ((uniq xs).length : Nat)) M1) : WE Z (tLenS Z.W.K te) ρ M Q2 := fun G σ H Q s R E r =>
  h G σ H _ s R E fun d v G1 M1 H1 s1 R1 x q => by
    obtain ⟨xs, l, hl, q⟩ := q
    obtain ⟨a, ys, e1, e2, e3⟩ := lst_at R1 x l
    rw [datL_str e3] at e2
    exact ⟨a, xs, e1, SqL.of e2, hl, r _ _ G1 M1 H1 s1 R1 dat_v' q⟩
end
end DL
set_option Elab.async false
set_option linter.all false
set_option maxRecDepth 100000
set_option maxHeartbeats 4000000
/-! DL8: ==, != and len by an own class's methods; keywords. -/
namespace DL
open PySem PySem.Spec PyProof.Rows L2
section
variable {prog : Program} {w : World} {A : Around} {E : Value → Shared → Prop} {s : Shared} {K : PySem.W.Frag} {x C f : Addr} {ox : Obj} {od : Option Obj} {b tb : Value}
open PySem.W in
theorem ifBound_B {M : Model} {name : Str} {id : String} {args : List Value} {Q : Option Value → Shared → Prop} (X : K.In s.heap) (I : InstAt s.heap x ox C od) (hs : findIn K (.ref C) name = some (some (.builtin id)))
    (hb : ∀ self, bindSpecial (.builtin id) self = pure (.builtin id, [self])) (h : wpAny M A (call (.builtin id) (.ref x :: args)) (fun v => Q (some v)) E s) : wpAny M A (callSpecialIfBound? (.ref x) name args) Q E s := by
  simp only [callSpecialIfBound?, bindSpecialIfBound?]
  refine wpAny_holding (wpAny_bind (wpAny_bind (wpAny_bind (I.type.here ((looks_findIn X hs).here ?_)))))
  have fin : wpAny M A (call (.builtin id) ([.ref x] ++ args) >>= fun v => pure (some v)) Q E s := wpAny_bind (wpAny_mono h (fun v s' h' => wpAny_pure h') fun _ _ h' => h')
  refine wpAny_bind (wpAny_askSetting (wpAny_ite ?_))
  split
  · exact wpAny_bind ((Looks.of_pure (hb _)).here (wpAny_pure (by exact fin)))
  · exact wpAny_tryCatch (wpAny_bind ((Looks.of_pure (hb _)).here (wpAny_pure (by exact fin))))
open PySem.W in
/-- x != b by object.__ne__, which asks the own __eq__ -/
theorem ne_own {Q : Value → Shared → Prop} (hu : A.units + 2 < cLine) (X : K.In s.heap) (I : InstAt s.heap x ox C od) (hb : Looks (model prog w) s.heap (typeOf b) tb) (hn : notFirst K C tb = true)
    (hne : findIn K (.ref C) "__ne__" = some (some (.builtin "object.__ne__"))) (heq : findIn K (.ref C) "__eq__" = some (some (.ref f))) (hf : isFn K (.ref f) = true) (hm : mroIn K C (.type "object") = some true)
    (h : wpAny (model prog w) A.in1 (call (.ref f) [.ref x, b]) (fun v s' => ∃ k, v = .bool k ∧ Q (.bool (!k)) s') E s) : wpAny (model prog w) A (richCompare .NotEq (.ref x) b) Q E s := by
  have inner : wpAny (model prog w) A (call (.builtin "object.__ne__") [.ref x, b]) (fun v s' => ∃ k, v = .bool k ∧ Q (.bool k) s') E s := by
    refine wpAny_call (codeAny_call_builtin PySem.F.cmp_object.ne.plain PySem.F.cmpEntry_ne (check_slot (i := "object.__ne__") (owner := "object") (n := "__ne__") PySem.F.cmpKind_ne PySem.F.cmpSplit_ne (I.type.andThen (looks_mroIn X hm)) (PySem.F.cmpArgs_ne _ _) ?_))
    unfold Builtin.«object.__ne__»
    refine wpAny_bind (m := slotArgs "__ne__" 1 _) (wpAny_pure ?_)
    refine wpAny_bind (m := cRoomFor _ _) (wpAny_cRoomFor (by show A.units + 1 < cLine; omega) ?_)
    refine wpAny_bind (m := callSpecialIfBound? (.ref x) (Str.ofString "__eq__") _) (ifBound_K X I heq hf (wpAny_mono h (fun v s' hv => ?_) fun _ _ y => y))
    obtain ⟨k, rfl, q⟩ := hv
    refine wpAny_bind (wpAny_truthy_bool ?_)
    exact wpAny_pure ⟨_, rfl, q⟩
  have one : wpAny (model prog w) A (tryCompare (.ref x) (cmpInfo .NotEq).2.1 b) (fun r s' => ∃ v, r = some v ∧ Q v s') E s := by
    unfold tryCompare
    refine wpAny_bind (ifBound_B X I hne PySem.F.cmp_object.ne.bind (wpAny_mono inner (fun v s' hv => ?_) fun _ _ e => e))
    obtain ⟨k, rfl, q⟩ := hv
    exact wpAny_pure ⟨_, rfl, q⟩
  unfold richCompare
  simp only [oneThing_ref]
  refine wpAny_holding (wpAny_bind (wpAny_cRoomFor (by omega) ?_))
  refine wpAny_bind (I.type.here (wpAny_bind (hb.here ?_)))
  split
  · rename_i q
    have e : subIn K tb (.ref C) = some false := by
      rcases Bool.or_eq_true_iff.mp hn with e | e
      · rw [beq_iff_eq.mp e] at q; simp at q
      · exact beq_iff_eq.mp e
    refine wpAny_bind ((looks_subIn X e).here ?_)
    simp only [Bool.false_eq_true, if_false]
    refine wpAny_bind (wpAny_mono one (fun r s' z => ?_) fun _ _ e => e)
    obtain ⟨v, rfl, hq⟩ := z
    exact wpAny_pure hq
  · refine wpAny_bind (wpAny_pure ?_)
    simp only [Bool.false_eq_true, if_false]
    refine wpAny_bind (wpAny_mono one (fun r s' z => ?_) fun _ _ e => e)
    obtain ⟨v, rfl, hq⟩ := z
    exact wpAny_pure hq
end
/-- what the text says of an own class with == -/
structure EqC (K : PySem.W.Frag) (C f : Addr) : Prop where
  heq : PySem.W.findIn K (.ref C) "__eq__" = some (some (.ref f))
  hne : PySem.W.findIn K (.ref C) "__ne__" = some (some (.builtin "object.__ne__"))
  hf : PySem.W.isFn K (.ref f) = true
  hm : PySem.W.mroIn K C (.type "object") = some true
  hcl : Cls K C
  hcs : PySem.W.findIn K (.ref C) "__class__" = some (some (.builtin "object.__class__"))
  hcg : PySem.W.specialIn K (.builtin "object.__class__") "__get__" = some (some (.builtin "getset_descriptor.__get__"))
  hct : PySem.W.takesIn K (.builtin "object.__class__") = some true
def rOwn (K : PySem.W.Frag) (C : Addr) (sp : Sp) (E : XK) (neg : Bool) : R2 := fun x y H Q => ∃ (a dx : Addr) (fs : List (Str × V)) (t : Value), x = .ref a ∧ H a = some (.ins C dx fs) ∧ TyX K H y t ∧ PySem.W.notFirst K C t = true ∧
  sp [x, y] H (fun v H' => ∃ k, v = .bl k ∧ Q (.bl (if neg then !k else k)) H') E
section
variable {X : Cx} {CX : CXT} {k : Nat} {f C : Addr} {fd : FuncData} {ps : List Str} {sp : Sp} {E : XK}
theorem run_own {A : Around} {pins : List (Addr × Obj)} {σ : L2.St} {H : Hp} {s : Shared} {Q : VK} {us : List Value} {vs : List V} (F : FnOk X.prog X.w X.K X.mg X.base CX k f fd ps sp) (hA : A.frames = X.A.frames) (hr : Room k A) (hb : Binds X.K fd ps []) (hx : Passes CX X E)
    (I : Inv X pins σ H s) (r : Vals vs us) (h : sp vs H Q E) : wpAny (model X.prog X.w) A (call (.ref f) us) (EP X pins σ Q) X.xe s := by
  have hl : us.length = ps.length := by rw [← r.length]; exact F.len _ _ _ _ h
  have e0 : Env0 X.prog X.w X.K X.mg X.base A X.stack s H := by
    have e := I.env0
    exact ⟨by rw [hA]; exact e.frames, e.mod, e.bs, e.bsz, e.funs, e.frf, e.hok, e.bare⟩
  have hbb := hb s us I.kIn (by simpa using hl)
  rw [List.append_nil] at hbb
  refine wpAny_call (codeAny_mono (F.run A X.stack s H ⟨us, []⟩ us vs Q E hr e0 hbb r h) fun rr s' hq => ?_)
  cases rr with
  | error e => exact hx pins σ H s e s' I hq
  | ok fl =>
    cases fl with
    | ret u => exact I.after hq
    | next => exact False.elim hq
    | brk => exact False.elim hq
    | cont => exact False.elim hq
theorem ty_of {pins : List (Addr × Obj)} {σ : L2.St} {H : Hp} {s : Shared} {y : V} {u t : Value} (I : Inv X pins σ H s) (ry : RelV y u) (ty : TyX X.K H y t) : PySem.W.Looks (model X.prog X.w) s.heap (typeOf u) t := by
  obtain ⟨P, Zk, p, _⟩ := kit_of I ry ty
  exact Zk.ty _ _ I.kIn p
theorem op_own_eq (T : EqC X.K C f) (F : FnOk X.prog X.w X.K X.mg X.base CX k f fd ps sp) (hr : Room k X.A) (hb : Binds X.K fd ps []) (hx : Passes CX X E) : OpR X (compareOp .Eq) (rOwn X.K C sp E false) := by
  intro pins s σ H x y v u Q I rx ry h
  obtain ⟨a, dx, fs, t, rfl, ha, ty, nf, h⟩ := h
  cases rx
  obtain ⟨mA, J, _⟩ := ins_get I.hok ha
  obtain ⟨od, J, _⟩ := J.look
  obtain ⟨m, hF⟩ := I.fr
  show wpAny _ _ (richCompare .Eq (.ref a) u) _ _ _
  refine PySem.W.cmp_K (op := .Eq) (tb := t) hr.units0 hF I.ok.mod.kin J (ty_of I ry ty) nf T.heq T.hf ?_
  refine thn (run_own F rfl hr hb hx I (show Vals [V.ref a, y] [Value.ref a, u] from .cons rfl (.cons ry .nil)) h) fun z s' hz => ?_
  obtain ⟨zv, H', I', rz, kb, rfl, q⟩ := hz
  cases rz
  exact ⟨.bl kb, H', I', rfl, q⟩
theorem op_own_ne (T : EqC X.K C f) (F : FnOk X.prog X.w X.K X.mg X.base CX k f fd ps sp) (hr : Room (k + 1) X.A) (hb : Binds X.K fd ps []) (hx : Passes CX X E) : OpR X (compareOp .NotEq) (rOwn X.K C sp E true) := by
  intro pins s σ H x y v u Q I rx ry h
  obtain ⟨a, dx, fs, t, rfl, ha, ty, nf, h⟩ := h
  cases rx
  obtain ⟨mA, J, _⟩ := ins_get I.hok ha
  obtain ⟨od, J, _⟩ := J.look
  show wpAny _ _ (richCompare .NotEq (.ref a) u) _ _ _
  refine ne_own (by have := hr.un; omega) I.kIn J (ty_of I ry ty) nf T.hne T.heq T.hf T.hm ?_
  refine thn (run_own F rfl hr.in1 hb hx I (show Vals [V.ref a, y] [Value.ref a, u] from .cons rfl (.cons ry .nil)) h) fun z s' hz => ?_
  obtain ⟨zv, H', I', rz, kb, rfl, q⟩ := hz
  cases rz
  exact ⟨kb, rfl, .bl (!kb), H', I', rfl, q⟩
/-- len(x) by an own __len__ -/
theorem call_lenO {fl : Addr} (hl : PySem.W.findIn X.K (.ref C) "__len__" = some (some (.ref fl))) (hf : PySem.W.isFn X.K (.ref fl) = true) (F : FnOk X.prog X.w X.K X.mg X.base CX k fl fd ps sp) (hr : Room (k + 1) X.A) (hb : Binds X.K fd ps []) (hx : Passes CX X E) :
    CallR X (.builtin "len") (fun xs H Q => ∃ (a dx : Addr) (fs : List (Str × V)), xs = [.ref a] ∧ H a = some (.ins C dx fs) ∧ sp [.ref a] H (fun v H' => ∃ n : Int, v = .int n ∧ 0 ≤ n ∧ n < 2 ^ 63 ∧ Q (.int n) H') E) := by
  intro pins s σ H xs us Q I r h
  obtain ⟨a, dx, fs, rfl, ha, h⟩ := h
  obtain ⟨u, rfl, ru⟩ := vals1 r
  cases ru
  obtain ⟨mA, J, _⟩ := ins_get I.hok ha
  obtain ⟨od, J, _⟩ := J.look
  obtain ⟨m, hF⟩ := I.fr
  refine PySem.W.len_K hF I.ok.mod.kin J hl hf ?_
  refine thn (run_own F rfl hr.in1 hb hx I (show Vals [V.ref a] [Value.ref a] from .cons rfl .nil) h) fun z s' hz => ?_
  obtain ⟨zv, H', I', rz, n, rfl, h0, h1, q⟩ := hz
  obtain ⟨t, rfl⟩ := rz
  exact ⟨⟨h0, h1⟩, .int n, H', I'.tok _, ⟨_, rfl⟩, q⟩
end
section
variable {W : Wd} {Z : Zn} {G G' F : Hp} {ρ : Ro} {M : Mu} {H : Hp} {te ta tb : TE} {tx tk : TA} {Q2 : DQ} {d e x y : DV} {ds es : List DV} {sp2 : Sp2} {E : XK} {E2 : XK2} {ns : List Str}
theorem wr_own {C : Addr} {t : Value} {neg : Bool} (hx : XcOk Z E2 E) (o : ObjOf M x C ns ds) (ht : TyD Z.W M y t) (nf : PySem.W.notFirst Z.W.K C t = true) (h : sp2 [x, y] M (fun v M' => ∃ k, v = .b k ∧ Q2 (.b (if neg then !k else k)) M') E2) :
    WR Z (rOwn Z.W.K C (lift Z.W sp2) E neg) x y M Q2 := fun G H vx vy Q s R dx dy r => by
  obtain ⟨a, ddx, xs, e1, e2, e3, e4⟩ := obj_at R dx o
  refine ⟨a, ddx, _, t, e1, e2, ht G Z.F H vy R dy, nf, G, Z.F, [x, y], M, _, E2, R, datL_cons' dx (datL_cons' dy datL_nil'), h, ?_, hx.mono s⟩
  intro d v G' M' H' s' R' hv q
  obtain ⟨k, rfl, q⟩ := q
  exact ⟨k, dat_v.mp hv, r _ _ G' M' H' s' R' dat_v' q⟩
theorem wc_lenO {C : Addr} (hx : XcOk Z E2 E) (o : ObjOf M x C ns ds) (h : sp2 [x] M (fun v M' => ∃ n : Int, v = .i n ∧ 0 ≤ n ∧ n < 2 ^ 63 ∧ Q2 (.i n) M') E2) :
    WC Z (fun xs H Q => ∃ (a dx : Addr) (fs : List (Str × V)), xs = [.ref a] ∧ H a = some (.ins C dx fs) ∧ lift Z.W sp2 [.ref a] H (fun v H' => ∃ n : Int, v = .int n ∧ 0 ≤ n ∧ n < 2 ^ 63 ∧ Q (.int n) H') E) [x] M Q2 := fun G H vs Q s R xs r => by
  obtain ⟨y, e0, h0⟩ := one_of xs
  obtain ⟨a, ddx, zs, e1, e2, e3, e4⟩ := obj_at R h0 o
  subst e0 e1
  refine ⟨a, ddx, _, rfl, e2, G, Z.F, [x], M, _, E2, R, xs, h, ?_, hx.mono s⟩
  intro d v G' M' H' s' R' hv q
  obtain ⟨n, rfl, h1, h2, q⟩ := q
  exact ⟨n, dat_v.mp hv, h1, h2, r _ _ G' M' H' s' R' dat_v' q⟩
theorem tyD_obj {C : Addr} {f : Addr} (T : EqC W.K C f) (o : ObjOf M d C ns ds) : TyD W M d (.ref C) := fun G F H v R h => by
  obtain ⟨a, dx, xs, e1, e2, e3, e4⟩ := obj_at R h o
  rw [e1]
  exact .base (.ins e2 T.hcl T.hcs T.hcg T.hct T.hm)
/-! keywords -/
theorem we_callN {n m : Nat} {gV : List V → List V → List V} {gD : List DV → List DV → List DV} (hx : XcOk Z E2 E) (hg : ∀ W G (ds es : List DV) (vs zs : List V), ds.length = n → es.length = m → DatL W G ds vs → DatL W G es zs → DatL W G (gD ds es) (gV vs zs))
    (h : WA Z tx ρ M fun ds M1 => WA Z tk ρ M1 fun es M2 => ds.length = n ∧ es.length = m ∧ sp2 (gD ds es) M2 Q2 E2) : WE Z (tCallN n m (lift Z.W sp2) gV E tx tk) ρ M Q2 := fun G σ H Q s R En r =>
  h G σ H _ s R En fun ds vs G1 M1 H1 s1 R1 xs q => q G1 σ H1 _ (s.trans s1) R1 (En.mono s1) fun es zs G2 M2 H2 s2 R2 ys q2 =>
    ⟨by rw [xs.length]; exact q2.1, by rw [ys.length]; exact q2.2.1, G2, Z.F, _, M2, Q2, E2, R2, hg _ _ ds es vs zs q2.1 q2.2.1 (xs.mono s2) ys, q2.2.2, r.mono (s1.trans s2), hx.mono ((s.trans s1).trans s2)⟩
end
end DL
set_option Elab.async false
set_option linter.all false
set_option maxRecDepth 100000
set_option maxHeartbeats 4000000
/-! DL9: one rule for each operator of the text, whatever the kinds; texts; lists changed by place. -/
namespace DL
open PySem PySem.Spec PyProof.Rows L2

/-! ### either of two readings -/
abbrev orR (r r' : R2) : R2 := fun x y H Q => r x y H Q ∨ r' x y H Q
abbrev orC (r r' : List V → Hp → VK → Prop) : List V → Hp → VK → Prop := fun xs H Q => r xs H Q ∨ r' xs H Q
abbrev orL (r r' : V → Option Int → Option Int → Hp → VK → Prop) : V → Option Int → Option Int → Hp → VK → Prop := fun x l u H Q => r x l u H Q ∨ r' x l u H Q
theorem CallR.or {X : Cx} {f : Value} {r r' : List V → Hp → VK → Prop} (h : CallR X f r) (h' : CallR X f r') : CallR X f (orC r r') := by
  intro pins s σ H xs us Q I rx q
  rcases q with q | q
  · exact h pins s σ H xs us Q I rx q
  · exact h' pins s σ H xs us Q I rx q
theorem SlR.or {X : Cx} {r r' : V → Option Int → Option Int → Hp → VK → Prop} (h : SlR X r) (h' : SlR X r') : SlR X (orL r r') := by
  intro pins s σ H x v vl vu lo hi sl Q I rx hs pl pu q
  rcases q with q | q
  · exact h pins s σ H x v vl vu lo hi sl Q I rx hs pl pu q
  · exact h' pins s σ H x v vl vu lo hi sl Q I rx hs pl pu q
section
variable {Z : Zn} {r r' : R2} {x y d : DV} {M : Mu} {Q2 : DQ} {xs : List DV} {c c' : List V → Hp → VK → Prop} {l l' : V → Option Int → Option Int → Hp → VK → Prop} {lo hi : Option Int}
theorem wr_l (h : WR Z r x y M Q2) : WR Z (orR r r') x y M Q2 := fun G H vx vy Q s R dx dy k => .inl (h G H vx vy Q s R dx dy k)
theorem wr_r (h : WR Z r' x y M Q2) : WR Z (orR r r') x y M Q2 := fun G H vx vy Q s R dx dy k => .inr (h G H vx vy Q s R dx dy k)
theorem wc_l (h : WC Z c xs M Q2) : WC Z (orC c c') xs M Q2 := fun G H vs Q s R dx k => .inl (h G H vs Q s R dx k)
theorem wc_r (h : WC Z c' xs M Q2) : WC Z (orC c c') xs M Q2 := fun G H vs Q s R dx k => .inr (h G H vs Q s R dx k)
theorem wl_l (h : WL Z l x lo hi M Q2) : WL Z (orL l l') x lo hi M Q2 := fun G H vx Q s R dx k => .inl (h G H vx Q s R dx k)
theorem wl_r (h : WL Z l' x lo hi M Q2) : WL Z (orL l l') x lo hi M Q2 := fun G H vx Q s R dx k => .inr (h G H vx Q s R dx k)
end
/-! ### + -/
def rAddI : R2 := rI0 fun i j => .int (i + j)
def rAddS : R2 := fun x y H Q => ∃ i j, x = .str i ∧ y = .str j ∧ i.length + j.length ≤ sizeLine ∧ Q (.str (i ++ j)) H
/-- tuples: the left or the right may be empty -/
def rAddT (K : PySem.W.Frag) : R2 := fun x y H Q => ∃ a b xs ys, x = .ref a ∧ y = .ref b ∧ SqT K H a xs ∧ SqT K H b ys ∧ xs.length + ys.length ≤ sizeLine ∧
  (xs = [] → Q (.ref b) H) ∧ (xs ≠ [] → ys = [] → Q (.ref a) H) ∧ (xs ≠ [] → ys ≠ [] → ∀ p, H p = none → Q (.ref p) (upd H p (.tup (xs ++ ys))))
def rAddA (K : PySem.W.Frag) : R2 := orR rAddI (orR rAddS (orR rCat (rCatT K)))
section
variable {X : Cx}
theorem op_addA : OpR X (binaryOp .Add) (rAddA X.K) := OpR.or op_add (OpR.or op_add_str (OpR.or op_cat op_catT))
end
section
variable {W : Wd} {Z : Zn} {G G' F : Hp} {ρ : Ro} {σ : L2.St} {M : Mu} {H : Hp} {te ta tb tc : TE} {tt tu : TT} {ts tr : TS} {tx : TA} {Q2 Q2' : DQ} {D2 : Ends2} {d e x y : DV} {ds es : List DV} {v : V}
theorem wr_addI {i j : Int} (h : Q2 (.i (i + j)) M) : WR Z (rAddA Z.W.K) (.i i) (.i j) M Q2 := wr_l (wr_I0 h)
theorem wr_addS {i j : Str} (hz : i.length + j.length ≤ sizeLine) (h : Q2 (.s (i ++ j)) M) : WR Z (rAddA Z.W.K) (.s i) (.s j) M Q2 := wr_r (wr_l fun G H vx vy Q s R dx dy r =>
  ⟨i, j, dat_v.mp dx, dat_v.mp dy, hz, r _ _ G M H (Same.refl G) R dat_v' h⟩)
theorem wr_addL (l : LstOf M x ds) (k : LstOf M y es) (hz : ds.length + es.length ≤ sizeLine) (h : Q2 (.lst (ds ++ es)) M) : WR Z (rAddA Z.W.K) x y M Q2 := wr_r (wr_r (wr_l (wr_cat l k hz h)))
theorem wr_catT (hn : ds ≠ []) (hz : ds.length + es.length ≤ sizeLine) (h : Q2 (.tup (ds ++ es)) M) : WR Z (rCatT Z.W.K) (.tup ds) (.tup es) M Q2 := fun G H vx vy Q s R dx dy r => by
  obtain ⟨a, xs, e1, e2, e3⟩ := dat_tup.mp dx
  obtain ⟨b, ys, f1, f2, f3⟩ := dat_tup.mp dy
  refine ⟨a, b, xs, ys, e1, f1, sqt_mono R.ex e2, sqt_mono R.ex f2, ?_, by rw [e3.length, f3.length]; exact hz, fun q => ?_, fun q p hp => ?_⟩
  · intro q
    rw [q] at e3
    have := e3.length
    exact hn (List.eq_nil_of_length_eq_zero this.symm)
  · rw [q] at f3
    have : es = [] := List.eq_nil_of_length_eq_zero (f3.length).symm
    subst this
    rw [List.append_nil] at h
    rw [← e1]
    exact r _ _ G M H (Same.refl G) R dx h
  · have sn := same_new (o := .tup (xs ++ ys)) (R.gnone hp)
    exact r _ _ _ M _ sn (R.new hp) (dat_tup.mpr ⟨p, _, rfl, SqT.of upd_same, (e3.append f3).mono sn⟩) h
theorem wr_addT (hn : ds ≠ []) (hz : ds.length + es.length ≤ sizeLine) (h : Q2 (.tup (ds ++ es)) M) : WR Z (rAddA Z.W.K) (.tup ds) (.tup es) M Q2 := wr_r (wr_r (wr_r (wr_catT hn hz h)))
end
/-! ### * -/
def rMulA : R2 := orR (rI CMul fun i j => .int (i * j)) rRep
section
variable {X : Cx} {Z : Zn} {M : Mu} {Q2 : DQ} {x : DV} {ds : List DV}
theorem op_mulA : OpR X (binaryOp .Mult) rMulA := OpR.or op_mul op_rep
theorem wr_mulI {i j : Int} (hc : CMul i j) (h : Q2 (.i (i * j)) M) : WR Z rMulA (.i i) (.i j) M Q2 := wr_l (wr_I hc h)
theorem wr_mulL {k : Int} (l : LstOf M x ds) (h1 : -(2 ^ 63) ≤ k) (h2 : k < 2 ^ 63) (hz : ds.length * k.toNat ≤ sizeLine) (h : Q2 (.lst (List.replicate k.toNat ds).flatten) M) : WR Z rMulA x (.i k) M Q2 := wr_r (wr_rep l h1 h2 hz h)
end
/-! ### in -/
def rInA (K : PySem.W.Frag) : R2 := orR (rIn K false) (rInD K)
def rNiA (K : PySem.W.Frag) : R2 := orR (rIn K true) (rNotInD K)
section
variable {X : Cx} {W : Wd} {Z : Zn} {G F H : Hp} {M : Mu} {Q2 : DQ} {x y d : DV} {ds : List DV} {v : V}
theorem op_inA (hu : X.A.units + 65 < cLine) : OpR X (compareOp .In) (rInA X.K) := OpR.or op_in_seq (op_inD hu)
theorem op_niA (hu : X.A.units + 65 < cLine) : OpR X (compareOp .NotIn) (rNiA X.K) := OpR.or op_notIn_seq (op_notInD hu)
/-- flat things -/
def flatVs (xs : List V) : List DV := xs.map DV.v
theorem wr_inF {p : V} {xs : List V} (l : SqOf M y (xs.map DV.v)) (hp : flatV p = true) (hx : xs.all flatV = true) (h : Q2 (.b (inV p xs)) M) : WR Z (rInA Z.W.K) (.v p) y M Q2 := wr_l fun G H vx vy Q s R dx dy r => by
  obtain ⟨a, zs, e1, e2, e3⟩ := sq_at rfl R dy l
  rw [datL_vs e3] at e2
  rw [dat_v.mp dx]
  exact ⟨a, xs, e1, e2, hp, hx, r _ _ G M H (Same.refl G) R dat_v' h⟩
theorem wr_niF {p : V} {xs : List V} (l : SqOf M y (xs.map DV.v)) (hp : flatV p = true) (hx : xs.all flatV = true) (h : Q2 (.b (!inV p xs)) M) : WR Z (rNiA Z.W.K) (.v p) y M Q2 := wr_l fun G H vx vy Q s R dx dy r => by
  obtain ⟨a, zs, e1, e2, e3⟩ := sq_at rfl R dy l
  rw [datL_vs e3] at e2
  rw [dat_v.mp dx]
  exact ⟨a, xs, e1, e2, hp, hx, r _ _ G M H (Same.refl G) R dat_v' h⟩
theorem wr_inDA {p : PyData} {qs : List PyData} (h1 : PyOf M x p) (h2 : PyOf M y (.list qs)) (s1 : SeqAt.shaped p = true) (s2 : SeqAt.shaped (.list qs) = true) (h : Q2 (.b (qs.any fun z => PyData.eqv z p)) M) : WR Z (rInA Z.W.K) x y M Q2 := wr_r (wr_inD h1 h2 s1 s2 h)
theorem wr_niDA {p : PyData} {qs : List PyData} (h1 : PyOf M x p) (h2 : PyOf M y (.list qs)) (s1 : SeqAt.shaped p = true) (s2 : SeqAt.shaped (.list qs) = true) (h : Q2 (.b (!qs.any fun z => PyData.eqv z p)) M) : WR Z (rNiA Z.W.K) x y M Q2 := wr_r (wr_notInD h1 h2 s1 s2 h)
end
/-! ### subscripts, slices, len -/
section
variable {X : Cx} {W : Wd} {Z : Zn} {G F H : Hp} {ρ : Ro} {M : Mu} {Q2 : DQ} {x y d e : DV} {ds es : List DV} {v : V} {D2 : Ends2} {te ta tb : TE}
theorem wr_atL {k : Int} (l : LstOf M d ds) (h1 : atI ds k = some e) (h : Q2 e M) : WR Z (rIx Z.W.K) d (.i k) M Q2 := fun G H vx vy Q s R dx dy r => .inl (wr_ixL l h1 h G H vx vy Q s R dx dy r)
theorem wr_atT {k : Int} (h1 : atI ds k = some e) (h : Q2 e M) : WR Z (rIx Z.W.K) (.tup ds) (.i k) M Q2 := fun G H vx vy Q s R dx dy r => .inr (.inl (wr_ixT h1 h G H vx vy Q s R dx dy r))
theorem wr_atS {z : Str} {k : Int} {c : Nat} (hz : z.length ≤ sizeLine) (h1 : atI z.cps.toList k = some c) (h : Q2 (.s ⟨#[c]⟩) M) : WR Z (rIx Z.W.K) (.s z) (.i k) M Q2 := fun G H vx vy Q s R dx dy r => .inr (.inr (wr_ixS hz h1 h G H vx vy Q s R dx dy r))
def rSlA (K : PySem.W.Frag) : V → Option Int → Option Int → Hp → VK → Prop := orL (rSlL K) (orL rSlS (rSlT K))
theorem sl_A : SlR X (rSlA X.K) := SlR.or sl_list (SlR.or sl_str sl_tup)
theorem wl_A {lo hi : Option Int} (l : LstOf M x ds) (h : Q2 (.lst (cutD ds lo hi)) M) : WL Z (rSlA Z.W.K) x lo hi M Q2 := wl_l (wl_list l h)
theorem wl_A0 {lo hi : Option Int} {a : Addr} {xs : List V} (hs : SqL Z.W.K Z.G a xs) (h : Q2 (.lst ((cutV xs lo hi).map DV.v)) M) : WL Z (rSlA Z.W.K) (.r a) lo hi M Q2 := wl_l (wl_list0 hs h)
theorem wl_AS {lo hi : Option Int} {z : Str} (hz : z.length ≤ sizeLine) (h : Q2 (.s (cutS z lo hi)) M) : WL Z (rSlA Z.W.K) (.s z) lo hi M Q2 := wl_r (wl_l fun G H vx Q s R dx r =>
  ⟨z, dat_v.mp dx, hz, r _ _ G M H (Same.refl G) R dat_v' h⟩)
theorem wl_AT {lo hi : Option Int} (hn : ¬ (HT.sIx ds.length 0 lo = 0 ∧ HT.sIx ds.length ds.length hi = ds.length)) (h : Q2 (.tup (cutD ds lo hi)) M) : WL Z (rSlA Z.W.K) (.tup ds) lo hi M Q2 := wl_r (wl_r fun G H vx Q s R dx r => by
  obtain ⟨a, xs, e1, e2, e3⟩ := dat_tup.mp dx
  refine ⟨a, xs, e1, sqt_mono R.ex e2, by rw [e3.length]; exact hn, fun p hp => ?_⟩
  have sn := same_new (o := .tup (cutV xs lo hi)) (R.gnone hp)
  exact r _ _ _ M _ sn (R.new hp) (dat_tup.mpr ⟨p, _, rfl, SqT.of upd_same, (datL_cut lo hi e3).mono sn⟩) h)
def rLenQ (K : PySem.W.Frag) : List V → Hp → VK → Prop := fun xs H Q => ∃ p ys, xs = [.ref p] ∧ (SqL K H p ys ∨ SqT K H p ys) ∧ Q (.int ys.length) H
def rLenT : List V → Hp → VK → Prop := fun xs H Q => ∃ z : Str, xs = [.str z] ∧ z.length ≤ sizeLine ∧ Q (.int z.length) H
theorem call_lenA : CallR X (.builtin "len") (orC (rLenQ X.K) rLenT) := CallR.or call_len_seq call_len_str
theorem wc_lenQ (l : SqOf M d ds) (h : Q2 (.i (ds.length : Nat)) M) : WC Z (orC (rLenQ Z.W.K) rLenT) [d] M Q2 := wc_l (wc_len l h)
theorem wc_lenT {z : Str} (hz : z.length ≤ sizeLine) (h : Q2 (.i (z.length : Nat)) M) : WC Z (orC (rLenQ Z.W.K) rLenT) [.s z] M Q2 := wc_r (wc_lenS hz h)
def rListQ (K : PySem.W.Frag) : List V → Hp → VK → Prop := fun xs H Q => ∃ p ys, xs = [.ref p] ∧ (SqL K H p ys ∨ SqT K H p ys) ∧ ∀ l, H l = none → Q (.ref l) (upd H l (.lst ys))
theorem call_listQ : CallR X (.type "list") (rListQ X.K) := call_list_of
theorem wc_listQ (l : SqOf M d ds) (h : Q2 (.lst ds) M) : WC Z (rListQ Z.W.K) [d] M Q2 := wc_list l h
theorem wc_listQM (l : SqOf M d ds) (h : ∀ p, M p = none → Q2 (.r p) (updM M p (.lst ds))) : WC Z (rListQ Z.W.K) [d] M Q2 := wc_listM l h
def rTupQ (K : PySem.W.Frag) : List V → Hp → VK → Prop := fun xs H Q => ∃ p ys, xs = [.ref p] ∧ ((SqL K H p ys ∧ ∀ l, H l = none → Q (.ref l) (upd H l (.tup ys))) ∨ (SqT K H p ys ∧ Q (.ref p) H))
theorem call_tupQ : CallR X (.type "tuple") (rTupQ X.K) := call_tuple_of
theorem wc_tupQ (l : SqOf M d ds) (h : Q2 (.tup ds) M) : WC Z (rTupQ Z.W.K) [d] M Q2 := wc_tuple l h
def rInt1 : List V → Hp → VK → Prop := fun xs H Q => (∃ i, xs = [.int i] ∧ Q (.int i) H) ∨ ∃ k, xs = [.bl k] ∧ Q (.int (if k then 1 else 0)) H
theorem call_intQ : CallR X (.type "int") rInt1 := call_int1
theorem wc_intB {k : Bool} (h : Q2 (.i (if k then 1 else 0)) M) : WC Z rInt1 [.b k] M Q2 := fun G H vs Q s R x r => by
  obtain ⟨y, e1, h1⟩ := one_of x
  rw [dat_v.mp h1] at e1
  exact .inr ⟨k, e1, r _ _ G M H (Same.refl G) R dat_v' h⟩
theorem wc_intI {k : Int} (h : Q2 (.i k) M) : WC Z rInt1 [.i k] M Q2 := fun G H vs Q s R x r => by
  obtain ⟨y, e1, h1⟩ := one_of x
  rw [dat_v.mp h1] at e1
  exact .inl ⟨k, e1, r _ _ G M H (Same.refl G) R dat_v' h⟩
/-! ### a list changed by place -/
def WSet (Z : Zn) (t : TSet) (o i v : DV) (M : Mu) (P2 : Mu → Prop) : Prop :=
  ∀ G H vo vi vv P, Same Z.G G → Rep Z.W G M Z.F H → Dat Z.W G o vo → Dat Z.W G i vi → Dat Z.W G v vv → (∀ G' M' H', Same G G' → Rep Z.W G' M' Z.F H' → P2 M' → P H') → t vo vi vv H P
theorem wg_sub {t : TSet} {P2 : Ro → Mu → Prop} (h : WE Z ta ρ M fun o M1 => WE Z tb ρ M1 fun i M2 => WSet Z t o i d M2 fun M3 => P2 ρ M3) : WG Z (gSub ta tb t) d ρ M P2 := fun G σ H v P s R E x n =>
  h G σ H _ s R E fun o vo G1 M1 H1 s1 R1 xo q => q G1 σ H1 _ (s.trans s1) R1 (E.mono s1) fun i vi G2 M2 H2 s2 R2 xi q2 =>
    q2 G2 H2 vo vi v _ ((s.trans s1).trans s2) R2 (xo.mono s2) xi ((x.mono s1).mono s2) fun G3 M3 H3 s3 R3 q3 => n ρ σ G3 M3 H3 ((s1.trans s2).trans s3) R3 (((E.mono s1).mono s2).mono s3) q3
theorem wset_list {a : Addr} {k : Int} {j : Nat} {P2 : Mu → Prop} (hm : M a = some (.lst ds)) (hj : ixN ds.length k = some j) (h : P2 (updM M a (.lst (ds.set j d)))) : WSet Z rSetL (.r a) (.i k) d M P2 := fun G H vo vi vv P s R xo xi xv n => by
  obtain ⟨xs, h1, h2⟩ := (R.mu a _ hm).2
  refine ⟨a, xs, k, j, dat_v.mp xo, dat_v.mp xi, h1, by rw [h2.length]; exact hj, ?_⟩
  exact n G _ _ (Same.refl G) (R.write (mo' := .lst (ds.set j d)) hm ⟨_, upd_same, h2.set j xv⟩) h
theorem datL_erase {xs : List V} : ∀ {ds : List DV} {xs : List V} (j : Nat), DatL W G ds xs → DatL W G (ds.eraseIdx j) (xs.eraseIdx j)
  | [], xs, j, h => by rw [datL_nil.mp h]; exact datL_nil'
  | e :: ds, xs, 0, h => by
    obtain ⟨z, r, e1, a, t⟩ := datL_cons.mp h
    subst e1
    exact t
  | e :: ds, xs, j + 1, h => by
    obtain ⟨z, r, e1, a, t⟩ := datL_cons.mp h
    subst e1
    exact datL_cons' a (datL_erase (xs := xs) j t)
theorem wm_popAt {a : Addr} {i : Int} {k : Nat} (hm : M a = some (.lst ds)) (h1 : -(2 ^ 63) ≤ i) (h2 : i < 2 ^ 63) (h3 : seqIndex? i ds.length = some k) (h4 : ds[k]? = some e) (h : Q2 e (updM M a (.lst (ds.eraseIdx k)))) : WM Z rPopAt (.r a) [.i i] M Q2 := fun G H vx vs Q s R x xs r => by
  obtain ⟨y, e1, hy⟩ := one_of xs
  rw [dat_v.mp hy] at e1
  obtain ⟨ys, g1, g2⟩ := (R.mu a _ hm).2
  obtain ⟨z, g3, g4⟩ := g2.get h4
  refine ⟨a, ys, i, k, z, dat_v.mp x, e1, g1, h1, h2, by rw [g2.length]; exact h3, g3, ?_⟩
  exact r _ _ G _ _ (Same.refl G) (R.write (mo' := .lst (ds.eraseIdx k)) hm ⟨_, upd_same, datL_erase (xs := ys) k g2⟩) g4 h
/-- a, b = a list -/
theorem wg_lst {n : Nat} {gs : TGs} {P2 : Ro → Mu → Prop} (l : LstOf M d ds) (hn : ds.length = n) (h : WGs Z gs ds ρ M P2) : WG Z (gLst Z.W.K n gs) d ρ M P2 := fun G σ H v P s R E x k => by
  obtain ⟨a, xs, e, h1, h2⟩ := lst_at R x l
  exact ⟨a, xs, e, SqL.of h1, by rw [h2.length]; exact hn, h G σ H xs P s R E h2 k⟩
/-- a, b = x, y -/
theorem ws_par {i j : Nat} {tx : TA} (h : WA Z tx ρ M fun ds M1 => ∃ d e, ds = [d, e] ∧ D2.nx ((ρ.set i (some d)).set j (some e)) M1) : WS Z (tPar i j tx) D2 ρ M := fun G σ H D s R E k =>
  h G σ H _ s R E fun ds vs G1 M1 H1 s1 R1 x q => by
    obtain ⟨d, e, rfl, q⟩ := q
    obtain ⟨y, z, e1, hy, hz⟩ := two_of x
    exact ⟨y, z, e1, k.nx _ _ G1 M1 H1 s1 R1 (((E.mono s1).set hy).set hz) q⟩
/-! ### sorted of ints -/
theorem wc_sortI {ns : List Int} (l : LstOf M d (ns.map DV.i)) (h : ∀ ms : List Int, ms.Perm ns → ms.Pairwise (· ≤ ·) → Q2 (.lst (ms.map DV.i)) M) : WC Z (rSortedI Z.W.K) [d] M Q2 := fun G H vs Q s R x r => by
  obtain ⟨y, e1, h1⟩ := one_of x
  obtain ⟨a, xs, e2, e3, e4⟩ := lst_at R h1 l
  rw [datL_int e4] at e3
  subst e1 e2
  refine ⟨a, ns, rfl, SqL.of e3, fun ms p pm pw hp => ?_⟩
  have sn := same_new (o := .lst (ms.map V.int)) (R.gnone hp)
  have e : ms.map DV.i = (ms.map V.int).map DV.v := by rw [List.map_map]; rfl
  exact r _ _ _ M _ sn (R.new hp) (dat_lst.mpr ⟨p, _, rfl, upd_same, by rw [e]; exact datL_v _⟩) (h ms pm pw)
/-! ### texts -/
def rJoin (K : PySem.W.Frag) : V → List V → Hp → VK → Prop := fun x xs H Q => ∃ a p, ∃ ys : List Str, x = .str a ∧ xs = [.ref p] ∧ (SqL K H p (ys.map V.str) ∨ SqT K H p (ys.map V.str)) ∧ (ys.map (·.length)).sum + ys.length * a.length ≤ 16777216 ∧ Q (.str (Txt.join a ys)) H
theorem mt_joinA : MtR X "str.join" (rJoin X.K) := mt_join
theorem wm_join {a : Str} {ys : List Str} (l : LstOf M d (ys.map DV.s)) (hz : (ys.map (·.length)).sum + ys.length * a.length ≤ 16777216) (h : Q2 (.s (Txt.join a ys)) M) : WM Z (rJoin Z.W.K) (.s a) [d] M Q2 := fun G H vx vs Q s R x xs r => by
  obtain ⟨y, e1, h1⟩ := one_of xs
  obtain ⟨p, zs, e2, e3, e4⟩ := lst_at R h1 l
  rw [datL_str e4] at e3
  subst e1 e2
  exact ⟨a, p, ys, dat_v.mp x, rfl, .inl (SqL.of e3), hz, r _ _ G M H (Same.refl G) R dat_v' h⟩
def rStrip : V → List V → Hp → VK → Prop := fun x xs H Q => ∃ a b, x = .str a ∧ xs = [.str b] ∧ a.length ≤ sizeLine ∧ Q (.str (Txt.stripChars a b)) H
theorem mt_stripA : MtR X "str.strip" rStrip := mt_stripChars
theorem wm_strip {a b : Str} (hz : a.length ≤ sizeLine) (h : Q2 (.s (Txt.stripChars a b)) M) : WM Z rStrip (.s a) [.s b] M Q2 := fun G H vx vs Q s R x xs r => by
  obtain ⟨y, e1, h1⟩ := one_of xs
  rw [dat_v.mp h1] at e1
  exact ⟨a, b, dat_v.mp x, e1, hz, r _ _ G M H (Same.refl G) R dat_v' h⟩
/-! ### is None -/
def isNonD : DV → Bool
  | .v x => decide (x = .non)
  | _ => false
theorem isNonD_of {W : Wd} {G : Hp} {d : DV} {v : V} (x : Dat W G d v) : isNonD d = decide (v = .non) := by
  cases d with
  | v y => rw [dat_v.mp x]; rfl
  | tup ds => obtain ⟨a, _, e, _⟩ := dat_tup.mp x; rw [e]; rfl
  | lst ds => obtain ⟨a, _, e, _⟩ := dat_lst.mp x; rw [e]; rfl
  | obj C ns ds => obtain ⟨a, _, _, e, _⟩ := dat_obj.mp x; rw [e]; rfl
  | dk ks ds => obtain ⟨a, _, e, _⟩ := dat_dk.mp x; rw [e]; rfl
  | dl ks ds => obtain ⟨a, _, e, _⟩ := dat_dl.mp x; rw [e]; rfl
  | fn q o => obtain ⟨a, _, e, _⟩ := dat_fn.mp x; rw [e]; rfl
theorem we_isN (h : WE Z ta ρ M fun d M1 => Q2 (.b (isNonD d)) M1) : WE Z (tIsN ta) ρ M Q2 := fun G σ H Q s R E r =>
  h G σ H _ s R E fun d v G1 M1 H1 s1 R1 x q => by
    refine r _ _ G1 M1 H1 s1 R1 dat_v' ?_
    rw [← isNonD_of x]
    exact q
theorem we_notN (h : WE Z ta ρ M fun d M1 => Q2 (.b (!isNonD d)) M1) : WE Z (tNotN ta) ρ M Q2 := fun G σ H Q s R E r =>
  h G σ H _ s R E fun d v G1 M1 H1 s1 R1 x q => by
    refine r _ _ G1 M1 H1 s1 R1 dat_v' ?_
    rw [← isNonD_of x]
    exact q
/-! ### a list or a tuple is walked -/
def iSeq (K : PySem.W.Frag) (tl : TE) : TI := fun σ H R => tl σ H fun x H1 => ∃ a, x = .ref a ∧ (((∃ xs, SqL K H1 a xs) ∧ R (Itl K a) H1) ∨ ((∃ xs, SqT K H1 a xs) ∧ R (Itt K a) H1))
theorem pi_seq {tg l : Expr} {tl : TE} (hl : PE X l tl) : PI X tg l (iSeq X.K tl) := by
  refine ⟨fun pins s σ H R I h => ?_⟩
  refine thn (hl.run pins s σ H _ I h) fun v s1 ⟨x, H1, I1, r1, a, e, q1⟩ => ?_
  subst e
  cases r1
  rcases q1 with ⟨⟨xs, hq⟩, q⟩ | ⟨⟨xs, hq⟩, q⟩
  · obtain ⟨its, rv, p, hz⟩ := I1.list hq
    refine wpAny_pyIter_list p.isList ⟨s1.heap.objs.size, [s1.heap.objs.size], _, _, H1, rfl, I1.kept (t' := s1.toks) fun b o e => Heap.get?_push_of_some _ e, turn_list a _, ⟨_, Heap.get?_push_size _ rfl, rfl, rfl⟩, fun b hb => ?_, q⟩
    rw [show b = s1.heap.objs.size by simpa using hb]
    exact I1.fpOk (Nat.le_refl _) (I1.hok.fresh (Nat.le_refl _))
  · obtain ⟨its, rv, p, hz⟩ := I1.tuple hq
    refine wpAny_pyIter_tuple (show s1.heap.IsTuple a its.toArray from p) ⟨s1.heap.objs.size, [s1.heap.objs.size], _, _, H1, rfl, I1.kept (t' := s1.toks) fun b o e => Heap.get?_push_of_some _ e, turn_tuple a _, ⟨_, Heap.get?_push_size _ rfl, rfl, rfl⟩, fun b hb => ?_, q⟩
    rw [show b = s1.heap.objs.size by simpa using hb]
    exact I1.fpOk (Nat.le_refl _) (I1.hok.fresh (Nat.le_refl _))
theorem wi_seq {tl : TE} {R2 : List DV → Mu → Prop} (h : WE Z tl ρ M fun d M1 => ∃ ds, (d = .lst ds ∨ d = .tup ds) ∧ R2 ds M1) : WI Z (iSeq Z.W.K tl) ρ M R2 := fun G σ H R s Rp E r =>
  h G σ H _ s Rp E fun d v G1 M1 H1 s1 R1 x q => by
    obtain ⟨ds, e, q⟩ := q
    rcases e with rfl | rfl
    · obtain ⟨a, xs, e1, e2, e3⟩ := dat_lst.mp x
      exact ⟨a, e1, .inl ⟨⟨xs, SqL.of (R1.ex _ _ e2)⟩, r ds _ G1 M1 H1 s1 R1 (itl_ok (SqL.of e2) e3) q⟩⟩
    · obtain ⟨a, xs, e1, e2, e3⟩ := dat_tup.mp x
      exact ⟨a, e1, .inr ⟨⟨xs, sqt_mono R1.ex e2⟩, r ds _ G1 M1 H1 s1 R1 (itt_ok e2 e3) q⟩⟩
end
end DL
set_option Elab.async false
set_option linter.all false
set_option maxRecDepth 100000
set_option maxHeartbeats 2000000
namespace DL
open PySem PySem.Spec PyProof.Rows L2
/-! ### glue for derivations -/
section
variable {X : Cx} {E : XK}
theorem passF : Passes (L2.CX X.prog X.w) X (fun _ _ _ => False) := passes_call takes0 fun _ _ _ _ h => h
theorem passE {W : WX} (tk : Takes X W) (hW : ∀ cls d σ H, E cls d H → W cls d σ H) : Passes (L2.CX X.prog X.w) X E := passes_call tk hW
end
section
variable {W : Wd} {Z : Zn} {G G' F : Hp} {ρ : Ro} {σ : L2.St} {M : Mu} {H : Hp} {te ta tb tc : TE} {tt tu : TT} {ts tr : TS} {tx : TA} {Q2 Q2' : DQ} {D2 : Ends2} {d e x y : DV} {ds es : List DV} {v : V} {wi : TI} {g : TG} {E : XK} {E2 : XK2} {sp2 : Sp2}
theorem xcF : XcOk Z (fun _ _ _ _ => False) (fun _ _ _ => False) := fun _ _ _ _ _ _ _ _ _ _ h => h
/-- a call within a try -/
theorem we_callS {W2 : WX2} {Wx : WX} (hw : WxOk Z W2 Wx) (h : WA Z tx ρ M fun ds M1 => sp2 ds M1 Q2 (fun C ns es M' => W2 C ns es ρ M')) : WE Z (tCallS (lift Z.W sp2) (L2.WE Wx) tx) ρ M Q2 := fun G σ H Q s R En r =>
  h G σ H _ s R En fun ds vs G1 M1 H1 s1 R1 x q => ⟨G1, Z.F, ds, M1, Q2, _, R1, x, q, r.mono s1, fun C ns es d G' M' H' s' R' x' q' => hw C ns es d ρ σ G' M' H' (s.trans (s1.trans s')) R' (En.mono (s1.trans s')) x' q'⟩
/-! ### == of scalars or of data -/
def rEqA (K : PySem.W.Frag) : R2 := orR rEq (rEqD K)
def rNeA (K : PySem.W.Frag) : R2 := orR rNe (rNeD K)
theorem op_eqA {X : Cx} (hu : X.A.units + 64 < cLine) : OpR X (compareOp .Eq) (rEqA X.K) := OpR.or op_eq (op_eqD hu)
theorem op_neA {X : Cx} (hu : X.A.units + 64 < cLine) : OpR X (compareOp .NotEq) (rNeA X.K) := OpR.or op_ne (op_neD hu)
theorem wr_eqS {x y : V} (hs : scal x y = true) (h : Q2 (.b (decide (x = y))) M) : WR Z (rEqA Z.W.K) (.v x) (.v y) M Q2 := wr_l (wr_eq hs h)
theorem wr_neS {x y : V} (hs : scal x y = true) (h : Q2 (.b (!decide (x = y))) M) : WR Z (rNeA Z.W.K) (.v x) (.v y) M Q2 := wr_l (wr_ne hs h)
theorem wr_eqP {p q : PyData} (h1 : PyOf M x p) (h2 : PyOf M y q) (s1 : SeqAt.shaped p = true) (s2 : SeqAt.shaped q = true) (h : Q2 (.b (PyData.eqv p q)) M) : WR Z (rEqA Z.W.K) x y M Q2 := wr_r (wr_eqD h1 h2 s1 s2 h)
theorem wr_neP {p q : PyData} (h1 : PyOf M x p) (h2 : PyOf M y q) (s1 : SeqAt.shaped p = true) (s2 : SeqAt.shaped q = true) (h : Q2 (.b (!PyData.eqv p q)) M) : WR Z (rNeA Z.W.K) x y M Q2 := wr_r (wr_neD h1 h2 s1 s2 h)
/-! ### is None -/
def rIsN : R2 := fun x y H Q => y = .non ∧ Q (.bl (decide (x = .non))) H
def rNotN : R2 := fun x y H Q => y = .non ∧ Q (.bl (!decide (x = .non))) H
theorem op_isNA {X : Cx} : OpR X (compareOp .Is) rIsN := op_isN
theorem op_notNA {X : Cx} : OpR X (compareOp .IsNot) rNotN := op_notN
theorem wr_isN (h : Q2 (.b (isNonD x)) M) : WR Z rIsN x .n M Q2 := fun G H vx vy Q s R dx dy r => ⟨dat_v.mp dy, r _ _ G M H (Same.refl G) R dat_v' (by rw [← isNonD_of dx]; exact h)⟩
theorem wr_notN (h : Q2 (.b (!isNonD x)) M) : WR Z rNotN x .n M Q2 := fun G H vx vy Q s R dx dy r => ⟨dat_v.mp dy, r _ _ G M H (Same.refl G) R dat_v' (by rw [← isNonD_of dx]; exact h)⟩
/-! ### list.index of flat values -/
theorem datL_vv : ∀ {xs : List V} {vs : List V}, DatL W G (xs.map DV.v) vs → vs = xs
  | [], vs, h => datL_nil.mp h
  | x :: xs, vs, h => by
    obtain ⟨z, r, e1, a, t⟩ := datL_cons.mp h
    subst e1
    rw [dat_v.mp a, datL_vv t]
theorem wm_index {ys : List V} {p z : V} {j : Nat} (l : LstOf M d (ys.map DV.v)) (hp : flatV p = true) (hx : ys.all flatV = true) (hz : ys[j]? = some z) (he : eqV z p = true) (hn : ∀ (m : Nat) (z' : V), m < j → ys[m]? = some z' → eqV z' p = false) (h : Q2 (.i (j : Nat)) M) :
    WM Z (rIndex Z.W.K) d [.v p] M Q2 := fun G H vx vs Q s R x xs r => by
  obtain ⟨y, e1, h1⟩ := one_of xs
  rw [dat_v.mp h1] at e1
  obtain ⟨a, zs, e2, e3, e4⟩ := lst_at R x l
  rw [datL_vv e4] at e3
  exact ⟨a, ys, p, j, z, e2, e1, SqL.of e3, hp, hx, hz, he, hn, r _ _ G M H (Same.refl G) R dat_v' h⟩
/-! ### data is equal to itself -/
theorem hu64 {A : Around} {k : Nat} (hr : Room k A) : A.units + 64 < cLine := hr.units
end
end DL
set_option Elab.async false
set_option linter.all false
set_option maxRecDepth 100000
set_option maxHeartbeats 2000000
/-! DL11: defs with or without defaults; __init__ of own exceptions; the names of the built-ins. -/
namespace DL
open PySem PySem.Spec PyProof.Rows L2
abbrev Df (K : PySem.W.Frag) (x qual : Str) (st : Stmt) (dvs : List V) (f : Addr) (fd : FuncData) : Prop := FunD K x qual (defArgs st) (defBody st) (defScope st) dvs [] f fd
section
variable {P : Program} {w : World} {K : PySem.W.Frag} {mg : Str → Option Value} {base : Heap} {x qual : Str} {st : Stmt} {dvs : List V} {f : Addr} {fd : FuncData} {N ps : List Str} {k : Nat}
theorem df_mk {oc : Value} {od an : Option Addr} {osl : Array (Option Value)} {kV doc pm cdv ct : Value} (l : K.lookup f = some ⟨oc, od, .func (PySem.W.fnOf x qual (defArgs st) (defBody st) (defScope st) .none kV doc pm an cdv ct), osl⟩)
    (c : PySem.W.codeIn K cdv qual = true) (k : PySem.W.keepIn K (.ref f) = true) : Df K x qual st [] f (PySem.W.fnOf x qual (defArgs st) (defBody st) (defScope st) .none kV doc pm an cdv ct) :=
  ⟨⟨oc, od, .none, kV, doc, pm, an, cdv, ct, osl, rfl, l, c, .inl ⟨rfl, rfl⟩, .inl rfl⟩, k⟩
theorem df_mkD {oc oc2 : Value} {od od2 an : Option Addr} {osl osl2 : Array (Option Value)} {kV doc pm cdv ct : Value} {T : Addr} {its : List Value} {n : Nat} (l : K.lookup f = some ⟨oc, od, .func (PySem.W.fnOf x qual (defArgs st) (defBody st) (defScope st) (.ref T) kV doc pm an cdv ct), osl⟩)
    (c : PySem.W.codeIn K cdv qual = true) (k : PySem.W.keepIn K (.ref f) = true) (lT : K.lookup T = some ⟨oc2, od2, .seq its.toArray n, osl2⟩) (hn : dvs ≠ []) (r : Vals dvs its) :
    Df K x qual st dvs f (PySem.W.fnOf x qual (defArgs st) (defBody st) (defScope st) (.ref T) kV doc pm an cdv ct) :=
  ⟨⟨oc, od, .ref T, kV, doc, pm, an, cdv, ct, osl, rfl, l, c, .inr ⟨hn, T, _, its, n, rfl, lT, rfl, r⟩, .inl rfl⟩, k⟩
theorem okD {sp2 : Sp2} (F : Df K x qual st dvs f fd) (S : FnScope N ps (defScope st)) (len : ∀ ds M Q2 E2, sp2 ds M Q2 E2 → ds.length = ps.length)
    (hbody : ∀ (cdv : Value) (A : Around) (outer : List Env) (s : Shared) (H : Hp) (E : XK) (G Fr : Hp) (ds : List DV) (M : Mu) (Q2 : DQ) (E2 : XK2), Room k (A.deeper (envOfC qual (defScope st) s.heap.objs.size f cdv)) → sp2 ds M Q2 E2 →
      ∃ t, PSs (cxOf CX0 P w K mg base N qual (defScope st) f cdv A outer s H E).nox (defBody st) t ∧ WS (Z_ P w K G Fr) t { nx := fun _ M' => Q2 .n M', rt := Q2 } (start2 N ds) M) :
    FnOk P w K mg base CX0 (k + 1) f fd ps (lift ⟨P, w, K⟩ sp2) := by
  refine F.ok S (lift_len len) fun cdv A outer s H vs Q E hr h => ?_
  obtain ⟨G, Fr, ds, M, Q2, E2, R, x, q, r, ex⟩ := h
  obtain ⟨t, h1, h2⟩ := hbody cdv A outer s H E G Fr ds M Q2 E2 hr q
  exact ⟨t, h1.nox, h2 G _ H _ (Same.refl G) R (env_start x) ⟨fun ρ' σ' G' M' H' s' R' _ q' => r _ _ G' M' H' s' R' dat_v' q', r, fun _ _ _ _ _ _ _ _ z => z.elim, fun _ _ _ _ _ _ _ _ z => z.elim⟩⟩
theorem okDX {sp2 : Sp2} (F : Df K x qual st dvs f fd) (S : FnScope N ps (defScope st)) (len : ∀ ds M Q2 E2, sp2 ds M Q2 E2 → ds.length = ps.length)
    (hbody : ∀ (cdv : Value) (A : Around) (outer : List Env) (s : Shared) (H : Hp) (E : XK) (G Fr : Hp) (ds : List DV) (M : Mu) (Q2 : DQ) (E2 : XK2), Room k (A.deeper (envOfC qual (defScope st) s.heap.objs.size f cdv)) → sp2 ds M Q2 E2 → XcOk (Z_ P w K G Fr) E2 E →
      ∃ t, PSs (cxOf (L2.CX P w) P w K mg base N qual (defScope st) f cdv A outer s H E) (defBody st) t ∧ WS (Z_ P w K G Fr) t { nx := fun _ M' => Q2 .n M', rt := Q2 } (start2 N ds) M) :
    FnOk P w K mg base (L2.CX P w) (k + 1) f fd ps (lift ⟨P, w, K⟩ sp2) := by
  refine F.ok S (lift_len len) fun cdv A outer s H vs Q E hr h => ?_
  obtain ⟨G, Fr, ds, M, Q2, E2, R, x, q, r, ex⟩ := h
  obtain ⟨t, h1, h2⟩ := hbody cdv A outer s H E G Fr ds M Q2 E2 hr q ex
  exact ⟨t, h1, h2 G _ H _ (Same.refl G) R (env_start x) ⟨fun ρ' σ' G' M' H' s' R' _ q' => r _ _ G' M' H' s' R' dat_v' q', r, fun _ _ _ _ _ _ _ _ z => z.elim, fun _ _ _ _ _ _ _ _ z => z.elim⟩⟩
/-- class C(B): def __init__(self, f): B.__init__(self, '..'); self.f = f -/
theorem okInit1 {C : Addr} {n fl m : Str} {ps : List Str} (F : Df K x qual st dvs f fd) (S : FnScope ps ps (defScope st)) (hp : ps.length = 2) (T : OexC K C) (hno : PySem.W.findIn K (.ref C) fl = some none)
    (hb : ∀ (cdv : Value) (A : Around) (outer : List Env) (s : Shared) (H : Hp) (E : XK), Room k (A.deeper (envOfC qual (defScope st) s.heap.objs.size f cdv)) →
      PSs (cxOf CX0 P w K mg base ps qual (defScope st) f cdv A outer s H E).nox (defBody st) (tSeq (tDrop (tVeI K (tCons (tVar 0) (tCons (tC (.str m)) tNil)))) (tOst K fl (tVar 0) (tVar 1)))) :
    FnOk P w K mg base CX0 (k + 1) f fd ps (spX1 C fl) := by
  refine F.ok S (fun vs H Q E h => ?_) fun cdv A outer s H vs Q E hr h => ?_
  · obtain ⟨a, v, rfl, _⟩ := h
    exact hp.symm
  · obtain ⟨a, v, rfl, e, q⟩ := h
    refine ⟨_, (hb cdv A outer s H E hr).nox, ?_⟩
    have h0 : (L2.start ps [.ref a, v])[0]? = some (some (.ref a)) := rfl
    have h1 : (L2.start ps [.ref a, v])[1]? = some (some v) := rfl
    refine ⟨_, h0, a, C, _, rfl, by show 1 ≤ 1000; decide, T, e, ?_⟩
    exact ⟨_, h1, _, h0, a, C, rfl, T, hno, .inl ⟨e, fun d h1 h2 => q d h1 h2⟩⟩
end
theorem bt_len : bootBuiltins "len" = some (.builtin "len") := by decide +kernel
theorem bt_sorted : bootBuiltins "sorted" = some (.builtin "sorted") := by decide +kernel
theorem bt_isinstance : bootBuiltins "isinstance" = some (.builtin "isinstance") := by decide +kernel
theorem bt_all : bootBuiltins "all" = some (.builtin "all") := by decide +kernel
theorem bt_any : bootBuiltins "any" = some (.builtin "any") := by decide +kernel
theorem bt_set : bootBuiltins "set" = some (.type "set") := by decide +kernel
theorem bt_list : bootBuiltins "list" = some (.type "list") := by decide +kernel
theorem bt_tuple : bootBuiltins "tuple" = some (.type "tuple") := by decide +kernel
theorem bt_int : bootBuiltins "int" = some (.type "int") := by decide +kernel
theorem bt_str : bootBuiltins "str" = some (.type "str") := by decide +kernel
theorem bt_bool : bootBuiltins "bool" = some (.type "bool") := by decide +kernel
theorem bt_dict : bootBuiltins "dict" = some (.type "dict") := by decide +kernel
theorem hu65 {A : Around} {k : Nat} (hr : Room k A) : A.units + 65 < cLine := by
  have := hr.un
  omega
end DL
set_option Elab.async false
set_option linter.all false
set_option maxRecDepth 100000
set_option maxHeartbeats 2000000
/-! DL12: calls by keywords alone; the law's own def and the end; calls that make or ask an object within a try. -/
namespace DL
open PySem PySem.Spec PyProof.Rows L2
/-! ### f(k = v, ..) -/
def pick {α : Type} (is : List Nat) (ws : List α) : List α := is.filterMap fun i => ws[i]?
section
variable {X : Cx} {CX : CXT} {k : Nat} {f C : Addr} {fd : FuncData} {ps ks : List Str} {sp : Sp} {E : XK} {x m : Str} {p pos apos kpos : Pos} {e o : Expr} {es : List Expr} {kws : List Keyword} {te ta : TE} {t tk : TA} {nm : Option Str}
  {g : List Value → List Value → List Value} {gV : List V → List V → List V}
theorem pe_callK0 (F : FnOk X.prog X.w X.K X.mg X.base CX k f fd ps sp) (hr : Room k X.A) (hg : Gl X x) (hm : X.mg x = some (.ref f)) (hk : PySem.W.keepIn X.K (.ref f) = true) (hb : KBn X.K fd ps 0 ks g gV) (hx : Passes CX X E)
    (hkw : PK X kws tk) (hall : (backToKw pos (keywordEach kws X.env)).all (·.1.isSome) = true := by rfl) (hks : (backToKw pos (keywordEach kws X.env)).filterMap (·.1) = ks := by rfl)
    (hdb : (x == ("__debug__" : Str)) = false := by decide)
    (hpl : ((backTo pos (starEach [] X.env)).any (·.1) || (backToKw pos (keywordEach kws X.env)).any (·.1.isNone)) = false := by rfl) :
    PE X (.Call (.Name x p) [] kws pos) (tCallN 0 ks.length sp gV E tNil tk) := by
  refine ⟨fun pins s σ H Q I h => ?_⟩
  refine wpAny_Call_Name_kw (ld_glob I hg hm ?_ hdb)
  refine PySem.W.callWith_KW0 (h₀ := X.base) I.ok.mod.kin hk hall ?_ hpl
  refine thn (hkw.run pos pins s σ H _ I h) fun ws s2 ⟨zs, H2, I2, rz, l1, l2, q2⟩ => ⟨I2.kIn, ?_⟩
  rw [hks]
  exact run_fnN (us := []) (vs := []) F hr hb hx I2 .nil rz l1 l2 q2
theorem paired_get {α β : Type} {R : α → β → Prop} : ∀ {xs : List α} {ys : List β} (i : Nat), Paired R xs ys → (xs[i]? = none ∧ ys[i]? = none) ∨ ∃ a b, xs[i]? = some a ∧ ys[i]? = some b ∧ R a b
  | [], [], i, .nil => .inl ⟨rfl, rfl⟩
  | a :: xs, b :: ys, 0, .cons h _ => .inr ⟨a, b, rfl, rfl, h⟩
  | a :: xs, b :: ys, i + 1, .cons _ h => paired_get (xs := xs) (ys := ys) i h
theorem paired_pick {α β : Type} {R : α → β → Prop} {xs : List α} {ys : List β} (h : Paired R xs ys) : ∀ is : List Nat, Paired R (pick is xs) (pick is ys)
  | [] => .nil
  | i :: is => by
    have ih := paired_pick h is
    unfold pick at ih ⊢
    rcases paired_get i h with ⟨e1, e2⟩ | ⟨a, b, e1, e2, r⟩
    · rw [List.filterMap_cons_none e1, List.filterMap_cons_none e2]
      exact ih
    · rw [List.filterMap_cons_some e1, List.filterMap_cons_some e2]
      exact .cons r ih
theorem kbn_pick {K : PySem.W.Frag} {x qual : Str} {st : Stmt} {dvs : List V} (is : List Nat) (F : Df K x qual st [] f fd)
    (h : ∀ (kV doc pm : Value) (an : Option Addr) (cdv ct : Value) (ws : List Value), ws.length = ks.length → bindArgs (PySem.W.fnOf x qual (defArgs st) (defBody st) (defScope st) .none kV doc pm an cdv ct) ⟨[], ks.zip ws⟩ = pure (ps.zip (pick is ws))) :
    KBn K fd ps 0 ks (fun _ ws => pick is ws) (fun _ ws => pick is ws) where
  to := fun s us ws X h0 hl => by
    obtain ⟨oc, od, dV, kV, doc, pm, an, cdv, ct, osl, rfl, lk, hcd, hD, hK⟩ := F.ex
    cases us with
    | cons u us => cases h0
    | nil =>
      rcases hD with ⟨_, rfl⟩ | ⟨e, _⟩
      · exact .of_eq (h kV doc pm an cdv ct ws hl)
      · exact absurd rfl e
  rel := fun r rz => paired_pick rz is
end
section
variable {W : Wd} {Z : Zn} {G G' F : Hp} {ρ : Ro} {σ : L2.St} {M : Mu} {H : Hp} {tx tk : TA} {Q2 : DQ} {ds es : List DV} {E : XK} {E2 : XK2} {sp2 : Sp2}
theorem datL_pick {vs : List V} (h : DatL W G ds vs) : ∀ is : List Nat, DatL W G (pick is ds) (pick is vs)
  | [] => datL_nil'
  | i :: is => by
    have ih := datL_pick h is
    unfold pick at ih ⊢
    cases e : ds[i]? with
    | none =>
      have e2 : vs[i]? = none := by
        rw [List.getElem?_eq_none_iff] at e ⊢
        rw [h.length]
        exact e
      rw [List.filterMap_cons_none e, List.filterMap_cons_none e2]
      exact ih
    | some d =>
      obtain ⟨z, h1, h2⟩ := h.get e
      rw [List.filterMap_cons_some e, List.filterMap_cons_some h1]
      exact datL_cons' h2 ih
theorem we_callK0 {m : Nat} (is : List Nat) (hx : XcOk Z E2 E) (h : WA Z tk ρ M fun es M2 => es.length = m ∧ sp2 (pick is es) M2 Q2 E2) : WE Z (tCallN 0 m (lift Z.W sp2) (fun _ ws => pick is ws) E tNil tk) ρ M Q2 :=
  we_callN (gD := fun _ es => pick is es) hx (fun _ _ _ _ _ _ _ _ _ h => datL_pick h is) (wa_nil (h.imp fun es M' q => ⟨rfl, q⟩))
end
/-! ### the law's own def -/
def spL (K : PySem.W.Frag) : Sp := fun vs H Q _ => ∃ (a : Addr) (ns : List Int), vs = [.ref a] ∧ SqL K H a (ns.map V.int) ∧ ns.length ≤ 63 ∧ ∀ H', Q (.bl true) H'
theorem okLaw {P : Program} {w : World} {K : PySem.W.Frag} {mg : Str → Option Value} {base : Heap} {x qual n : Str} {st : Stmt} {dvs : List V} {f : Addr} {fd : FuncData} {N : List Str} {k : Nat} (F : Df K x qual st dvs f fd) (S : FnScope N [n] (defScope st))
    (hbody : ∀ (cdv : Value) (A : Around) (outer : List Env) (s : Shared) (H : Hp) (E : XK) (a : Addr) (ns : List Int), Room k (A.deeper (envOfC qual (defScope st) s.heap.objs.size f cdv)) → SqL K H a (ns.map V.int) → ns.length ≤ 63 →
      ∃ t, PSs (cxOf CX0 P w K mg base N qual (defScope st) f cdv A outer s H E).nox (defBody st) t ∧ WS (Z_ P w K H (fun _ => none)) t { nx := fun _ _ => False, rt := fun d _ => d = .b true } (start2 N [.r a]) (fun _ => none)) :
    FnOk P w K mg base CX0 (k + 1) f fd [n] (spL K) := by
  refine F.ok S (fun vs H Q E h => ?_) fun cdv A outer s H vs Q E hr h => ?_
  · obtain ⟨a, ns, rfl, _⟩ := h
    rfl
  · obtain ⟨a, ns, rfl, h1, h2, q⟩ := h
    obtain ⟨t, k1, k2⟩ := hbody cdv A outer s H E a ns hr h1 h2
    refine ⟨t, k1.nox, k2 H _ H _ (Same.refl H) ⟨Same.refl H, fun _ _ z => (by cases z), fun _ _ z => (by cases z), fun _ _ z => (by cases z)⟩ (env_start (datL_cons' dat_v' datL_nil')) ⟨fun _ _ _ _ _ _ _ _ z => z.elim, fun d v G' M' H' _ _ x e => ?_, fun _ _ _ _ _ _ _ _ z => z.elim, fun _ _ _ _ _ _ _ _ z => z.elim⟩⟩
    subst e
    rw [dat_v.mp x]
    exact q H'
theorem walkL {l : PySem.W.OpenLaw} {q : Program} {loose : List Str} {XP : (Str → Option Value) → Heap → Prop} {YP : World → Heap → Prop} {d : DefRec} {K : Params → PySem.W.Frag} {k : Nat} (hk : Room k callerA) (hn : l.most = some 63) (hdf : d.params.defaults = [])
    (hY : ∀ (w : World) (h : Heap), YP w h → (K w.params).In h)
    (F : ∀ (w : World) (mg : Str → Option Value) (fa : Addr) (h : Heap), (K w.params).In h → h.Ns mainGlobals mg → mg d.name = some (.ref fa) →
      ∃ fd : FuncData, (∀ (s : Shared) (u : Value), BindsTo s fd ⟨[u], []⟩ [("_law_script", u)]) ∧ ∀ base : Heap, (K w.params).In base → base.Ns mainGlobals mg → FnOk l.prog w (K w.params) mg base CX0 k fa fd ["_law_script"] (spL (K w.params))) :
    PySem.W.WalkO q loose XP YP l.row.toRowW d [] (fun f vs => PySem.call f vs) :=
  L2.walk_of (n := 63) (k := k) (x := "_law_script") (CX := fun _ => CX0) (sp := fun w => spL (K w.params)) hn (by decide) hdf hk hY F (fun w H a ns hl _ hS => ⟨a, ns, rfl, hS, hl, fun _ => rfl⟩) fun _ _ _ _ _ z => z
end DL
set_option Elab.async false
set_option linter.all false
set_option maxRecDepth 100000
set_option maxHeartbeats 2000000
/-! DL13: isinstance by kinds; small words for the steps. -/
namespace DL
open PySem PySem.Spec PyProof.Rows L2
inductive Kd where
  | int | str | bool | none | list | tuple | dict
deriving DecidableEq
def Kd.nm : Kd → String
  | .int => "int" | .str => "str" | .bool => "bool" | .none => "NoneType" | .list => "list" | .tuple => "tuple" | .dict => "dict"
def kdM (M : Mu) : DV → Option Kd
  | .v (.int _) => some .int
  | .v (.str _) => some .str
  | .v (.bl _) => some .bool
  | .v .non => some .none
  | .v (.ref a) => match M a with
    | some (.lst _) => some .list
    | _ => Option.none
  | .tup _ => some .tuple
  | .lst _ => some .list
  | .dk _ _ => some .dict
  | _ => Option.none
theorem kd_i {M : Mu} {i : Int} : kdM M (.i i) = some .int := rfl
theorem kd_s {M : Mu} {z : Str} : kdM M (.s z) = some .str := rfl
theorem kd_b {M : Mu} {b : Bool} : kdM M (.b b) = some .bool := rfl
theorem kd_n {M : Mu} : kdM M .n = some .none := rfl
theorem kd_tup {M : Mu} {ds : List DV} : kdM M (.tup ds) = some .tuple := rfl
theorem kd_lst {M : Mu} {ds : List DV} : kdM M (.lst ds) = some .list := rfl
theorem kd_r {M : Mu} {a : Addr} {ds : List DV} (h : M a = some (.lst ds)) : kdM M (.r a) = some .list := by
  show (match M a with | some (.lst _) => some Kd.list | _ => Option.none) = _
  rw [h]
theorem kd_of {M : Mu} {d : DV} {ds : List DV} (l : LstOf M d ds) : kdM M d = some .list := by
  rcases l with rfl | ⟨a, rfl, h⟩
  · rfl
  · exact kd_r h
theorem tyD_kd {W : Wd} {M : Mu} {d : DV} {k : Kd} (h : kdM M d = some k) : TyD W M d (.type k.nm) := by
  unfold kdM at h
  split at h
  all_goals first | cases h | skip
  · exact tyD_int
  · exact tyD_str
  · exact tyD_bl
  · exact tyD_non
  · split at h
    · rename_i e
      cases h
      exact tyD_lst (.inr ⟨_, rfl, e⟩)
    · cases h
  · exact tyD_tup
  · exact tyD_lst (.inl rfl)
  · exact tyD_dk
def subK (k t : Kd) : Bool := decide (k = t) || (decide (k = .bool) && decide (t = .int))
theorem kit_kd {K : PySem.W.Frag} {k t : Kd} : PySem.W.kitOne K (.type k.nm) (.type t.nm) = some (subK k t) := by
  cases k <;> cases t <;> exact kit_ty (by decide +kernel)
section
variable {W : Wd} {Z : Zn} {ρ : Ro} {M : Mu} {Q2 : DQ} {d : DV}
theorem wc_isK (t : Kd) {k : Kd} (hk : kdM M d = some k) (h : Q2 (.b (subK k t)) M) : WC Z (rIsi Z.W.K) [d, .v (.ty t.nm)] M Q2 := wc_isi (.ty _) (tyD_kd hk) kit_kd h
theorem wc_isC {C : Addr} {k : Kd} {b : Bool} (hk : kdM M d = some k) (hc : PySem.W.kitOne Z.W.K (.type k.nm) (.ref C) = some b) (h : Q2 (.b b) M) : WC Z (rIsi Z.W.K) [d, .v (.ref C)] M Q2 := wc_isi (.own C) (tyD_kd hk) hc h
end
theorem ex_b {P : Bool → Prop} {x : Bool} (h : P x) : ∃ b, DV.b x = DV.b b ∧ P b := ⟨x, rfl, h⟩
theorem if_b {b : Bool} {A B : Prop} (h1 : b = true → A) (h2 : b = false → B) : if b = true then A else B := by
  cases b
  · rw [if_neg Bool.false_ne_true]; exact h2 rfl
  · rw [if_pos rfl]; exact h1 rfl
theorem if_tt {b : Bool} {A B : Prop} (e : b = true) (h : A) : if b = true then A else B := by rw [if_pos e]; exact h
theorem if_ff {b : Bool} {A B : Prop} (e : b = false) (h : B) : if b = true then A else B := by rw [e, if_neg Bool.false_ne_true]; exact h
end DL
set_option Elab.async false
set_option linter.all false
set_option maxRecDepth 100000
set_option maxHeartbeats 2000000
/-! DL14: loops and comprehensions by a word; equal data; texts of letters. -/
namespace DL
open PySem PySem.Spec PyProof.Rows L2
theorem passZ {X : Cx} : Passes CX0 X (fun _ _ _ => False) := pass0
section
variable {W : Wd} {Z : Zn} {G G' F : Hp} {ρ : Ro} {σ : L2.St} {M : Mu} {H : Hp} {te ta tb tc : TE} {tt tu : TT} {ts tr : TS} {tx : TA} {Q2 Q2' : DQ} {D2 : Ends2} {d e x y : DV} {ds es : List DV} {v : V} {wi : TI} {g : TG}
theorem WG.imp {P P' : Ro → Mu → Prop} (h : WG Z g d ρ M P) (k : ∀ ρ' M', P ρ' M' → P' ρ' M') : WG Z g d ρ M P' := fun G σ H v Q s R E x n => h G σ H v Q s R E x fun ρ' σ' G' M' H' s' R' E' q => n ρ' σ' G' M' H' s' R' E' (k _ _ q)
/-- each turn gives a thing; a word of what is made so far -/
theorem comp_word {k : List DV → Mu → Prop} (I : Nat → List DV → Mu → Prop) : ∀ (items : List DV) (j : Nat) (acc : List DV) (M : Mu), acc.length + items.length ≤ sizeLine → I j acc M →
    (∀ i d acc M F, items[i]? = some d → I (j + i) acc M → WG (Z.fr F) g d ρ M fun ρ2 M2 => WT (Z.fr F) tt ρ2 M2 fun b M3 => b = true ∧ WE (Z.fr F) te ρ2 M3 fun y M4 => I (j + i + 1) (acc ++ [y]) M4) →
    (∀ acc M, I (j + items.length) acc M → k acc M) → Comp Z g tt te ρ k items acc M
  | [], j, acc, M, hz, h0, hs, hk => hk acc M h0
  | d :: ds, j, acc, M, hz, h0, hs, hk => by
    simp only [List.length_cons] at hz
    refine ⟨by omega, fun F => ?_⟩
    refine (hs 0 d acc M F rfl h0).imp fun ρ2 M2 q => q.imp fun b M3 ⟨hb, q2⟩ => ?_
    rw [if_pos hb]
    refine q2.imp fun y M4 q3 => ?_
    refine comp_word I ds (j + 1) (acc ++ [y]) M4 (by simp; omega) q3 (fun i d' acc' M' F' hi hI => ?_) fun acc' M' h => hk acc' M' ?_
    · have := hs (i + 1) d' acc' M' F' hi (by rw [show j + (i + 1) = j + 1 + i by omega]; exact hI)
      rw [show j + (i + 1) = j + 1 + i by omega] at this
      exact this
    · rw [List.length_cons, show j + (ds.length + 1) = j + 1 + ds.length by omega]
      exact h
/-- each turn of a for; a word by the number of turns -/
theorem loop_word (I : Nat → Ro → Mu → Prop) : ∀ (items : List DV) (j : Nat) (ρ : Ro) (M : Mu), I j ρ M →
    (∀ i d ρ M, items[i]? = some d → I (j + i) ρ M → WG Z g d ρ M fun ρ1 M1 => WS Z ts { D2 with nx := I (j + i + 1), ct := I (j + i + 1), bk := D2.nx } ρ1 M1) →
    (∀ ρ M, I (j + items.length) ρ M → D2.nx ρ M) → Loop Z g ts D2 items ρ M
  | [], j, ρ, M, h0, hs, hk => hk ρ M h0
  | d :: ds, j, ρ, M, h0, hs, hk => by
    refine (hs 0 d ρ M rfl h0).imp fun ρ1 M1 q => ?_
    have key : ∀ ρ M, I (j + 1) ρ M → Loop Z g ts D2 ds ρ M := fun ρ' M' h => loop_word I ds (j + 1) ρ' M' h (fun i d' ρ2 M2 hi hI => by
      have := hs (i + 1) d' ρ2 M2 hi (by rw [show j + (i + 1) = j + 1 + i by omega]; exact hI)
      rw [show j + (i + 1) = j + 1 + i by omega] at this
      exact this) fun ρ2 M2 hI => hk ρ2 M2 (by rw [List.length_cons, show j + (ds.length + 1) = j + 1 + ds.length by omega]; exact hI)
    exact q.imp key (fun _ _ h => h) (fun _ _ h => h) key
end
/-! ### equal data -/
mutual
def DV.good : DV → Bool
  | .v .non => true
  | .v (.bl _) => true
  | .v (.int _) => true
  | .v (.str z) => PyData.strOk z
  | .lst ds => goodL ds
  | .tup ds => goodL ds
  | _ => false
def goodL : List DV → Bool
  | [] => true
  | d :: ds => d.good && goodL ds
end
mutual
def DV.dep : DV → Nat
  | .lst ds => depL ds + 1
  | .tup ds => depL ds + 1
  | _ => 0
def depL : List DV → Nat
  | [] => 0
  | d :: ds => max d.dep (depL ds)
end
mutual
theorem good_py : ∀ d : DV, d.good = true → ∃ p, d.py = some p ∧ p.canLay0 = true ∧ p.depth = d.dep
  | .v x, h => by
    cases x <;> simp [DV.good] at h
    · exact ⟨_, rfl, rfl, rfl⟩
    · exact ⟨_, rfl, rfl, rfl⟩
    · exact ⟨_, rfl, rfl, rfl⟩
    · exact ⟨_, rfl, h, rfl⟩
  | .lst ds, h => by
    obtain ⟨ps, h1, h2, h3⟩ := goodL_py ds (by simpa [DV.good] using h)
    exact ⟨.list ps, by simp [DV.py, h1], by simpa [PyData.canLay0] using h2, by simp [PyData.depth, DV.dep, h3]⟩
  | .tup ds, h => by
    obtain ⟨ps, h1, h2, h3⟩ := goodL_py ds (by simpa [DV.good] using h)
    exact ⟨.tuple ps, by simp [DV.py, h1], by simpa [PyData.canLay0] using h2, by simp [PyData.depth, DV.dep, h3]⟩
  | .obj _ _ _, h => by simp [DV.good] at h
  | .dk _ _, h => by simp [DV.good] at h
  | .dl _ _, h => by simp [DV.good] at h
  | .fn _ _, h => by simp [DV.good] at h
theorem goodL_py : ∀ ds : List DV, goodL ds = true → ∃ ps, pyL ds = some ps ∧ PyData.canLayAll0 ps = true ∧ PyData.depthAll ps = depL ds
  | [], _ => ⟨[], rfl, rfl, rfl⟩
  | d :: ds, h => by
    simp only [goodL, Bool.and_eq_true] at h
    obtain ⟨p, h1, h2, h3⟩ := good_py d h.1
    obtain ⟨ps, g1, g2, g3⟩ := goodL_py ds h.2
    exact ⟨p :: ps, by simp [pyL, h1, g1], by simp [PyData.canLayAll0, h2, g2], by simp [PyData.depthAll, depL, h3, g3]⟩
end
section
variable {Z : Zn} {M : Mu} {Q2 : DQ} {x y d : DV} {ds : List DV}
theorem shaped_of {p : PyData} (h1 : p.canLay0 = true) (h2 : p.depth ≤ 64) : SeqAt.shaped p = true := by
  unfold SeqAt.shaped
  rw [h1, decide_eq_true h2]
  rfl
theorem wr_eqT (hg : d.good = true) (hd : d.dep ≤ 64) (h : Q2 (.b true) M) : WR Z (rEqA Z.W.K) d d M Q2 := by
  obtain ⟨p, h1, h2, h3⟩ := good_py d hg
  have s := shaped_of h2 (by rw [h3]; exact hd)
  refine wr_eqP (.inl h1) (.inl h1) s s ?_
  rw [SeqAt.eqv_refl p h2]
  exact h
theorem wr_neT (hg : d.good = true) (hd : d.dep ≤ 64) (h : Q2 (.b false) M) : WR Z (rNeA Z.W.K) d d M Q2 := by
  obtain ⟨p, h1, h2, h3⟩ := good_py d hg
  have s := shaped_of h2 (by rw [h3]; exact hd)
  refine wr_neP (.inl h1) (.inl h1) s s ?_
  rw [SeqAt.eqv_refl p h2]
  exact h
theorem pyOf_lst {ps : List PyData} (l : LstOf M x ds) (h : pyL ds = some ps) : PyOf M x (.list ps) := by
  rcases l with rfl | ⟨a, rfl, hm⟩
  · exact .inl (by simp [DV.py, h])
  · exact .inr ⟨a, ds, ps, rfl, hm, h, rfl⟩
theorem wr_eqLL (l : LstOf M x ds) (k : LstOf M y ds) (hg : goodL ds = true) (hd : depL ds ≤ 63) (h : Q2 (.b true) M) : WR Z (rEqA Z.W.K) x y M Q2 := by
  obtain ⟨ps, h1, h2, h3⟩ := goodL_py ds hg
  have c : (PyData.list ps).canLay0 = true := by simpa [PyData.canLay0] using h2
  have s := shaped_of c (by simp [PyData.depth, h3]; omega)
  refine wr_eqP (pyOf_lst l h1) (pyOf_lst k h1) s s ?_
  rw [SeqAt.eqv_refl _ c]
  exact h
theorem wr_neLL (l : LstOf M x ds) (k : LstOf M y ds) (hg : goodL ds = true) (hd : depL ds ≤ 63) (h : Q2 (.b false) M) : WR Z (rNeA Z.W.K) x y M Q2 := by
  obtain ⟨ps, h1, h2, h3⟩ := goodL_py ds hg
  have c : (PyData.list ps).canLay0 = true := by simpa [PyData.canLay0] using h2
  have s := shaped_of c (by simp [PyData.depth, h3]; omega)
  refine wr_neP (pyOf_lst l h1) (pyOf_lst k h1) s s ?_
  rw [SeqAt.eqv_refl _ c]
  exact h
end
theorem goodL_append : ∀ {xs ys : List DV}, goodL (xs ++ ys) = (goodL xs && goodL ys)
  | [], ys => rfl
  | x :: xs, ys => by simp [goodL, goodL_append (xs := xs), Bool.and_assoc]
theorem goodL_int : ∀ {r : List Int}, goodL (r.map DV.i) = true
  | [] => rfl
  | i :: r => by simp [goodL, DV.good, goodL_int (r := r)]
theorem depL_int : ∀ {r : List Int}, depL (r.map DV.i) = 0
  | [] => rfl
  | i :: r => by simp [depL, DV.dep, depL_int (r := r)]
theorem goodL_rows : ∀ {rows : List (List Int)}, goodL (rows.map rowD) = true
  | [] => rfl
  | r :: rows => by simp [goodL, rowD, DV.good, goodL_int, goodL_rows (rows := rows)]
theorem depL_rows : ∀ {rows : List (List Int)}, depL (rows.map rowD) ≤ 1
  | [] => by simp [depL]
  | r :: rows => by
    have := depL_rows (rows := rows)
    simp only [List.map_cons, depL, rowD, DV.dep, depL_int]
    omega
theorem goodL_strs : ∀ {zs : List Str}, (∀ z ∈ zs, PyData.strOk z = true) → goodL (zs.map DV.s) = true
  | [], _ => rfl
  | z :: zs, h => by simp [goodL, DV.good, h z List.mem_cons_self, goodL_strs fun y hy => h y (List.mem_cons_of_mem _ hy)]
theorem depL_strs : ∀ {zs : List Str}, depL (zs.map DV.s) = 0
  | [] => rfl
  | z :: zs => by simp [depL, DV.dep, depL_strs (zs := zs)]
/-! ### texts of letters -/
theorem takeWhile_all {α : Type} {p : α → Bool} : ∀ {l : List α}, l.all p = true → l.takeWhile p = l
  | [], _ => rfl
  | a :: l, h => by
    simp only [List.all_cons, Bool.and_eq_true] at h
    simp [List.takeWhile_cons, h.1, takeWhile_all h.2]
theorem strip_letters {x y : Str} (h : x.cps.toList.all y.cps.contains = true) : Txt.stripChars x y = ⟨#[]⟩ := by
  unfold Txt.stripChars
  rw [PySem.W.stripBy_eq]
  show Builtin.Str.strSub x (stripLo _ true x) (stripHi _ true x (stripLo _ true x)) = _
  have e : stripLo y.cps.contains true x = x.cps.toList.length := by
    unfold stripLo
    rw [if_pos rfl, takeWhile_all h]
  rw [e]
  unfold stripHi Builtin.Str.strSub
  simp
end DL
set_option Elab.async false
set_option linter.all false
set_option maxRecDepth 100000
set_option maxHeartbeats 2000000
/-! DL15: the rules whose reading names the frozen part, the part named outright (so that they stand within comprehensions). -/
namespace DL
open PySem PySem.Spec PyProof.Rows L2
section
variable {X : Cx} {K : PySem.W.Frag} {P : Program} {w : World}
theorem k_ix (e : X.K = K) : IxR X (rIx K) := by subst e; exact ix_seq
theorem k_add (e : X.K = K) : OpR X (binaryOp .Add) (rAddA K) := by subst e; exact op_addA
theorem k_in (e : X.K = K) (hu : X.A.units + 65 < cLine) : OpR X (compareOp .In) (rInA K) := by subst e; exact op_inA hu
theorem k_ni (e : X.K = K) (hu : X.A.units + 65 < cLine) : OpR X (compareOp .NotIn) (rNiA K) := by subst e; exact op_niA hu
theorem k_eq (e : X.K = K) (hu : X.A.units + 64 < cLine) : OpR X (compareOp .Eq) (rEqA K) := by subst e; exact op_eqA hu
theorem k_ne (e : X.K = K) (hu : X.A.units + 64 < cLine) : OpR X (compareOp .NotEq) (rNeA K) := by subst e; exact op_neA hu
theorem k_sl (e : X.K = K) : SlR X (rSlA K) := by subst e; exact sl_A
theorem k_len (e : X.K = K) : CallR X (.builtin "len") (orC (rLenQ K) rLenT) := by subst e; exact call_lenA
theorem k_list (e : X.K = K) : CallR X (.type "list") (rListQ K) := by subst e; exact call_listQ
theorem k_tup (e : X.K = K) : CallR X (.type "tuple") (rTupQ K) := by subst e; exact call_tupQ
theorem k_all (e : X.K = K) (hc : X.calm = true) : CallR X (.builtin "all") (rAll K) := by subst e; exact cr_all hc
theorem k_any (e : X.K = K) (hc : X.calm = true) : CallR X (.builtin "any") (rAny K) := by subst e; exact cr_any hc
theorem k_isi (e : X.K = K) : CallR X (.builtin "isinstance") (rIsi K) := by subst e; exact call_isi
theorem k_sortI (e : X.K = K) : CallR X (.builtin "sorted") (rSortedI K) := by subst e; exact cr_sortedI
theorem k_sortG (e1 : X.prog = P) (e2 : X.w = w) (e3 : X.K = K) (hc : X.calm = true) : CallR X (.builtin "sorted") (rSortG ⟨P, w, K⟩) := by subst e1 e2 e3; exact cr_sortG hc
theorem k_setT (e1 : X.prog = P) (e2 : X.w = w) (e3 : X.K = K) (hc : X.calm = true) (hu : X.A.units + 64 < cLine) : CallR X (.type "set") (rSetOfT K P w) := by subst e1 e2 e3; exact cr_setOfT hc hu
theorem k_index (e : X.K = K) : MtR X "list.index" (rIndex K) := by subst e; exact mt_index
theorem k_join (e : X.K = K) : MtR X "str.join" (rJoin K) := by subst e; exact mt_joinA
theorem k_fld {e : Expr} {f : Str} {ta : TE} {pos : Pos} (eK : X.K = K) (he : PE X e ta) (hb : attributeBase e f X.env (eval e X.env) = eval e X.env) : PE X (.Attribute e f pos) (tFld K ta f) := by subst eK; exact pe_fld he hb
theorem k_seq {tg l : Expr} {tl : TE} (eK : X.K = K) (hl : PE X l tl) : PI X tg l (iSeq K tl) := by subst eK; exact pi_seq hl
theorem k_ls {tg l : Expr} {tl : TE} (eK : X.K = K) (hl : PE X l tl) : PI X tg l (iList K tl) := by subst eK; exact pi_list hl
theorem k_enum {e : Expr} {ta : TA} {p pos tpos : Pos} {elts : List Expr} {kk : Nat} (eK : X.K = K) (hg : Gl X "enumerate") (hm : X.mg "enumerate" = none) (ha : PA X [e] ta) (hs : starEach [e] X.env = [(false, eval e X.env)] := by rfl) :
    PI X (.Tuple elts kk tpos) (.Call (.Name "enumerate" p) [e] [] pos) (iEnum K ta) := by subst eK; exact pi_enum hg hm ha hs
theorem k_gtup {es : List Expr} {k : Nat} {t : TGs} {n : Nat} {pos : Pos} (eK : X.K = K) (hc : X.calm = true) (h : PGs X es t)
    (hn : (assignEach es X.env).length = n := by rfl) (hst : (assignEach es X.env).findIdx? (·.1) = none := by rfl) : PG X (.Tuple es k pos) (gTup K n t) := by subst eK; exact pg_tup hc h hn hst
theorem k_glst {es : List Expr} {k : Nat} {t : TGs} {n : Nat} {pos : Pos} (eK : X.K = K) (hc : X.calm = true) (h : PGs X es t)
    (hn : (assignEach es X.env).length = n := by rfl) (hst : (assignEach es X.env).findIdx? (·.1) = none := by rfl) : PG X (.Tuple es k pos) (gLst K n t) := by subst eK; exact pg_lst hc h hn hst
theorem k_bm0 {o : Expr} {to : TE} {name : Str} {apos cpos : Pos} {T id : String} {r : V → List V → Hp → VK → Prop} (eK : X.K = K) (pa : PlainAttrs T) (slot : Slot T name id) (hty : typeOf (.builtin id) = pure (.type "method_descriptor")) (hm : MtR X id r) (ho : PE X o to)
    (hbase : attributeBase o name X.env (eval o X.env) = eval o X.env := by rfl) (hline : (apos.endLine == cpos.line) = true := by rfl) : PE X (.Call (.Attribute o name apos) [] [] cpos) (tBM0 K T r to) := by subst eK; exact pe_bm0 pa slot hty hm ho hbase hline
theorem k_bm {o e : Expr} {es : List Expr} {to : TE} {t : TA} {name : Str} {apos cpos : Pos} {T id : String} {r : V → List V → Hp → VK → Prop} (eK : X.K = K) (pa : PlainAttrs T) (slot : Slot T name id) (hty : typeOf (.builtin id) = pure (.type "method_descriptor")) (hm : MtR X id r) (ho : PE X o to) (ha : PA X (e :: es) t)
    (hbase : attributeBase o name X.env (eval o X.env) = eval o X.env := by rfl)
    (hfew : ((backTo cpos (starEach (e :: es) X.env)).all (fun x => !x.1) && (backToKw cpos (keywordEach [] X.env)).all (fun x => x.1.isSome)
      && decide ((e :: es).length + ([] : List Keyword).length + (if ([] : List Keyword).isEmpty then 0 else 1) < 30)) = true := by rfl)
    (hline : (apos.endLine == cpos.line) = true := by rfl) (hs : starEach (e :: es) X.env = (false, eval e X.env) :: starEach es X.env := by rfl) (hplain : (backTo cpos (starEach es X.env)).any (·.1) = false := by rfl) :
    PE X (.Call (.Attribute o name apos) (e :: es) [] cpos) (tBM K T r to t) := by subst eK; exact pe_bm pa slot hty hm ho ha hbase hfew hline hs hplain
theorem k_lenS {a : Expr} {ta : TE} {p p2 q pos : Pos} (eK : X.K = K) (hc : X.calm = true) (hg : Gl X "len") (hm : X.mg "len" = none) (hg2 : Gl X "set") (hm2 : X.mg "set" = none) (ha : PE X a ta)
    (na : starEach [a] X.env = (false, eval a X.env) :: starEach [] X.env := by rfl) : PE X (.Call (.Name "len" p) [.Call (.Name "set" p2) [a] [] q] [] pos) (tLenS K ta) := by subst eK; exact pe_lenS hc hg hm hg2 hm2 ha na
end
end DL
set_option Elab.async false
set_option linter.all false
set_option maxRecDepth 100000
set_option maxHeartbeats 2000000
/-! DL16: what the laws draw: wells, names of letters (plain). -/
namespace DL
open PySem PySem.Spec PyProof.Rows L2
def well (A B C : Int) : MO := .lst [.i A, .i B, .i C]
/-- a well from which n were drawn at most -/
def WelO (mo : MO) (n : Nat) : Prop := ∃ A B C : Int, mo = well A B C ∧ 0 ≤ A ∧ 0 ≤ B ∧ B < 2147483647 ∧ 0 ≤ C ∧ C ≤ (n : Int)
theorem WelO.mono {mo : MO} {n m : Nat} (h : WelO mo n) (l : n ≤ m) : WelO mo m := by
  obtain ⟨A, B, C, e, h1, h2, h3, h4, h5⟩ := h
  exact ⟨A, B, C, e, h1, h2, h3, h4, by omega⟩
abbrev letters : Str := "abcdefghijklmnopqrstuvwxyz"
def nameB (z : Str) : Bool := decide ((1 : Int) ≤ ((z.length : Nat) : Int)) && (decide (((z.length : Nat) : Int) ≤ 8) && decide (V.str (Txt.stripChars z letters) = V.str ""))
/-- c is one of the letters -/
def isL (c : Nat) : Prop := 97 ≤ c ∧ c ≤ 122
theorem letters_list : letters.cps.toList = (List.range 26).map (· + 97) := by decide +kernel
theorem letters_len : letters.length = 26 := by decide +kernel
theorem letters_at {i : Nat} (h : i < 26) : letters.cps.toList[i]? = some (i + 97) := by
  rw [letters_list, List.getElem?_map, List.getElem?_range h]
  rfl
theorem letters_has {c : Nat} (h : isL c) : letters.cps.contains c = true := by
  have : c ∈ letters.cps.toList := by
    rw [letters_list, List.mem_map]
    exact ⟨c - 97, by rw [List.mem_range]; have := h.1; have := h.2; omega, by have := h.1; omega⟩
  rw [Array.contains_iff_mem]
  exact Array.mem_toList_iff.mp this
theorem name_ok {l : List Nat} (h1 : 1 ≤ l.length) (h8 : l.length ≤ 8) (hl : ∀ c ∈ l, isL c) : nameB ⟨l.toArray⟩ = true := by
  unfold nameB
  have e : (⟨l.toArray⟩ : Str).length = l.length := by show l.toArray.size = _; simp
  rw [e, strip_letters (y := letters) (by rw [List.all_eq_true]; intro c hc; exact letters_has (hl c (by simpa using hc)))]
  have a1 : decide ((1 : Int) ≤ ((l.length : Nat) : Int)) = true := decide_eq_true (by omega)
  have a2 : decide (((l.length : Nat) : Int) ≤ 8) = true := decide_eq_true (by omega)
  rw [a1, a2]
  rfl
theorem name_strOk {l : List Nat} (hl : ∀ c ∈ l, isL c) : PyData.strOk ⟨l.toArray⟩ = true := by
  unfold PyData.strOk
  rw [Array.all_eq_true']
  intro c hc
  have := (hl c (by simpa using hc)).2
  simp
  omega
/-- the k-th name -/
def nmL (b : List Nat) (spot more : Nat) (c : Nat) : List Nat := b.take spot ++ [c] ++ (b.drop spot).take more
theorem nmL_len {b : List Nat} {spot more c : Nat} (hb : b.length = 7) (h1 : spot ≤ 7) (h2 : more ≤ 7 - spot) : (nmL b spot more c).length = spot + 1 + more := by
  unfold nmL
  simp [hb]
  omega
theorem nmL_all {b : List Nat} {spot more c : Nat} (hb : ∀ x ∈ b, isL x) (hc : isL c) : ∀ x ∈ nmL b spot more c, isL x := by
  intro x hx
  unfold nmL at hx
  rw [List.mem_append, List.mem_append, List.mem_singleton] at hx
  rcases hx with (h | h) | h
  · exact hb x (List.mem_of_mem_take h)
  · rw [h]; exact hc
  · exact hb x (List.mem_of_mem_drop (List.mem_of_mem_take h))
theorem nmL_inj {b : List Nat} {spot more c d : Nat} (hb : b.length = 7) (h1 : spot ≤ 7) (e : nmL b spot more c = nmL b spot more d) : c = d := by
  unfold nmL at e
  rw [List.append_assoc, List.append_assoc] at e
  have := List.append_cancel_left e
  simpa using this
/-- the letter of the k-th name -/
def ltr (begin_ apart k : Nat) : Nat := (begin_ + apart * k) % 26 + 97
theorem ltr_is {begin_ apart k : Nat} : isL (ltr begin_ apart k) := by
  unfold ltr isL
  omega
theorem ltr_inj {b p k l : Nat} (hp : p ∈ [1, 3, 5, 7, 9, 11, 15, 17]) (hk : k < 26) (hl : l < 26) (e : ltr b p k = ltr b p l) : k = l := by
  unfold ltr at e
  simp only [List.mem_cons, List.not_mem_nil, or_false] at hp
  rcases hp with rfl | rfl | rfl | rfl | rfl | rfl | rfl | rfl <;> omega
def nmsL (b : List Nat) (spot more begin_ apart n : Nat) : List Str := (List.range n).map fun k => ⟨(nmL b spot more (ltr begin_ apart k)).toArray⟩
/-- names as the program wants them -/
structure Nms (zs : List Str) : Prop where
  nm : ∀ z ∈ zs, nameB z = true
  ok : ∀ z ∈ zs, PyData.strOk z = true
  nd : zs.Nodup
theorem nmsL_ok {b : List Nat} {spot more begin_ apart n : Nat} (hb : b.length = 7) (hl : ∀ x ∈ b, isL x) (h1 : spot ≤ 7) (h2 : more ≤ 7 - spot) (hp : apart ∈ [1, 3, 5, 7, 9, 11, 15, 17]) (hn : n ≤ 26) : Nms (nmsL b spot more begin_ apart n) where
  nm := fun z hz => by
    obtain ⟨k, _, rfl⟩ := List.mem_map.mp hz
    have := nmL_len (c := ltr begin_ apart k) hb h1 h2
    exact name_ok (by omega) (by omega) (nmL_all hl ltr_is)
  ok := fun z hz => by
    obtain ⟨k, _, rfl⟩ := List.mem_map.mp hz
    exact name_strOk (nmL_all hl ltr_is)
  nd := by
    unfold nmsL
    rw [List.Nodup, List.pairwise_map]
    refine List.Pairwise.imp_of_mem ?_ (List.nodup_range (n := n))
    intro k l hk hl' hne e
    rw [List.mem_range] at hk hl'
    apply hne
    have e2 : nmL b spot more (ltr begin_ apart k) = nmL b spot more (ltr begin_ apart l) := by
      injection e with e
      have := congrArg Array.toList e
      simpa using this
    exact ltr_inj hp (by omega) (by omega) (nmL_inj hb h1 e2)
theorem nmsL_len {b : List Nat} {spot more begin_ apart n : Nat} : (nmsL b spot more begin_ apart n).length = n := by simp [nmsL]
theorem nmsL_succ {b : List Nat} {spot more begin_ apart n : Nat} : nmsL b spot more begin_ apart (n + 1) = nmsL b spot more begin_ apart n ++ [⟨(nmL b spot more (ltr begin_ apart n)).toArray⟩] := by
  unfold nmsL
  rw [List.range_succ, List.map_append]
  rfl
theorem Nms.sub {zs ys : List Str} (h : Nms zs) (s : List.Sublist ys zs) : Nms ys := ⟨fun z hz => h.nm z (s.subset hz), fun z hz => h.ok z (s.subset hz), h.nd.sublist s⟩
theorem joinL_one : ∀ cs : List Nat, TL.joinL [] (cs.map fun c => [c]) = cs
  | [] => rfl
  | [c] => rfl
  | c :: d :: cs => by
    have := joinL_one (d :: cs)
    show [c] ++ ([] ++ TL.joinL [] ((d :: cs).map fun c => [c])) = _
    rw [this]
    rfl
theorem join_chars (cs : List Nat) : Txt.join ⟨#[]⟩ (cs.map fun c => (⟨#[c]⟩ : Str)) = ⟨cs.toArray⟩ := by
  refine TL.ext_tl ?_
  rw [TL.join_eq, TL.tl_join]
  have e : (cs.map fun c => (⟨#[c]⟩ : Str)).map TL.tl = cs.map fun c => [c] := by
    rw [List.map_map]
    rfl
  have e0 : TL.tl (⟨#[]⟩ : Str) = [] := rfl
  rw [e, e0, joinL_one]
end DL
set_option Elab.async false
set_option linter.all false
set_option maxRecDepth 100000
set_option maxHeartbeats 2000000
/-! DL17: texts cut and put together. -/
namespace DL
open PySem PySem.Spec PyProof.Rows L2
theorem str_app (a b : List Nat) : ((⟨a.toArray⟩ : Str) ++ (⟨b.toArray⟩ : Str)) = ⟨(a ++ b).toArray⟩ := by
  show Str.mk (a.toArray ++ b.toArray) = _
  simp
theorem str_len (a : List Nat) : (⟨a.toArray⟩ : Str).length = a.length := by
  show a.toArray.size = _
  simp
theorem cut_to (l : List Nat) (k : Nat) : cutS ⟨l.toArray⟩ none (some (k : Int)) = ⟨(l.take k).toArray⟩ := by
  unfold cutS
  rw [HT.sIx_none, HT.sIx_nat, str_len]
  simp only [List.drop_zero, Nat.sub_zero]
  congr 2
  by_cases h : k ≤ l.length
  · rw [Nat.min_eq_left h]
  · rw [Nat.min_eq_right (by omega), List.take_length, List.take_of_length_le (by omega)]
theorem cut_mid (l : List Nat) (j k : Nat) (h : j + k ≤ l.length) : cutS ⟨l.toArray⟩ (some (j : Int)) (some ((j : Int) + (k : Int))) = ⟨((l.drop j).take k).toArray⟩ := by
  have e : ((j : Int) + (k : Int)) = ((j + k : Nat) : Int) := by push_cast; rfl
  unfold cutS
  rw [e, HT.sIx_nat, HT.sIx_nat, str_len, Nat.min_eq_left h, Nat.min_eq_left (by omega : j ≤ l.length)]
  congr 3
  omega
theorem cut_from (l : List Nat) (j : Nat) : cutS ⟨l.toArray⟩ (some (j : Int)) none = ⟨(l.drop j).toArray⟩ := by
  unfold cutS
  rw [HT.sIx_none, HT.sIx_nat, str_len]
  by_cases h : j ≤ l.length
  · rw [Nat.min_eq_left h, List.take_of_length_le (by simp)]
  · rw [Nat.min_eq_right (by omega), List.drop_of_length_le (by simp), List.drop_of_length_le (by omega)]
    simp
theorem wm_appendT {Z : Zn} {M : Mu} {Q2 : DQ} {ds : List DV} {e : DV} {a : Addr} (hm : M a = some (.lst ds)) (hz : ds.length < 1000000) (h : Q2 .n (updM M a (.lst (ds ++ [e])))) : WM Z rAppend (.r a) [e] M Q2 := wm_append hm (Nat.lt_of_lt_of_le hz (by decide)) h
/-- a number not below nought -/
theorem nat_of {i : Int} (h : 0 ≤ i) : ∃ n : Nat, i = (n : Int) := ⟨i.toNat, (Int.toNat_of_nonneg h).symm⟩
theorem letters_get {n : Nat} (h : n < 26) : atI letters.cps.toList (n : Int) = some (n + 97) := atI_nat (letters_at h)
theorem aparts {n : Nat} (h : n < 8) : ∃ p : Nat, atI [DV.i 1, .i 3, .i 5, .i 7, .i 9, .i 11, .i 15, .i 17] (n : Int) = some (.i (p : Nat)) ∧ p ∈ [1, 3, 5, 7, 9, 11, 15, 17] := by
  have : n = 0 ∨ n = 1 ∨ n = 2 ∨ n = 3 ∨ n = 4 ∨ n = 5 ∨ n = 6 ∨ n = 7 := by omega
  rcases this with rfl | rfl | rfl | rfl | rfl | rfl | rfl | rfl
  · exact ⟨1, rfl, by decide⟩
  · exact ⟨3, rfl, by decide⟩
  · exact ⟨5, rfl, by decide⟩
  · exact ⟨7, rfl, by decide⟩
  · exact ⟨9, rfl, by decide⟩
  · exact ⟨11, rfl, by decide⟩
  · exact ⟨15, rfl, by decide⟩
  · exact ⟨17, rfl, by decide⟩
theorem rangeD_get {n i : Nat} {d : DV} (h : (rangeD 0 n)[i]? = some d) : i < n ∧ d = .i (i : Nat) := by
  unfold rangeD at h
  rw [List.getElem?_map] at h
  cases e : (List.range n)[i]? with
  | none => rw [e] at h; cases h
  | some j =>
    rw [e] at h
    have := List.getElem?_eq_some_iff.mp e
    obtain ⟨h1, h2⟩ := this
    rw [List.getElem_range] at h2
    subst h2
    cases h
    exact ⟨by simpa using h1, by simp⟩
theorem rangeD_len {n : Nat} {lo : Int} : (rangeD lo n).length = n := by simp [rangeD]
end DL
set_option Elab.async false
set_option linter.all false
set_option maxRecDepth 100000
set_option maxHeartbeats 2000000
/-! DL18: try, its reading kept whole. -/
namespace DL
open PySem PySem.Spec PyProof.Rows L2
def tTry (tb : WX → TS) (K : PySem.W.Frag) (c : Value) (i : Nat) (ts : Addr → Value → Option Addr → TS) (Wout : WX) : TS := fun D σ H => tb (wAs K c i ts Wout D) D σ H
theorem ps_tryA {X : Cx} {K : PySem.W.Frag} {body suite : List Stmt} {b₀ : Stmt} {x n : Str} {np pos' pos : Pos} {c : Value} {i : Nat} {Wout : WX} {tb : WX → TS} {ts : Addr → Value → Option Addr → TS} (eK : X.K = K)
    (hs : X.stack = X.env :: X.outer) (hf : X.env.frame = some X.env.locals) (hN : X.N.Nodup) (hi : X.N[i]? = some n) (hln : X.env.kindOf n = some .local) (hc : Names X x c) (tk : Takes X Wout)
    (hb : ∀ (W : WX) (pn : List (Addr × Obj)) (xe : Value → Shared → Prop), Takes (X.tr pn xe) W → PassesOwn (model X.prog X.w) X.A X.env xe → PSs (X.tr pn xe) body (tb W))
    (hsu : ∀ (a : Addr) (oe : Obj) (cls : Value) (d : Option Addr) (pn : List (Addr × Obj)), Zc cls d oe → (∃ vs, oe.data = .fields vs) → PSs (X.suite a ((a, oe) :: pn)) (b₀ :: suite) (ts a cls d)) :
    PS X (.Try body [.ExceptHandler (some (.Name x np)) (some n) (b₀ :: suite) pos'] [] [] pos) (tTry tb K c i ts Wout) := by
  subst eK
  exact ps_try_as hs hf hN hi hln hc tk hb hsu
theorem ws_tryA {Z : Zn} {ρ : Ro} {M : Mu} {D2 : Ends2} {tb : WX → TS} {c : Value} {i : Nat} {ts : Addr → Value → Option Addr → TS} {Wout : WX} (W2 : WX2)
    (hb : ∀ G1 Wx, Same Z.G G1 → WxOk (Z.at G1) W2 Wx → WS (Z.at G1) (tb Wx) D2 ρ M)
    (hs : ∀ C ns ds ρ' M', W2 C ns ds ρ' M' → PySem.W.exmOne Z.W.K (.ref C) c = some true ∧ ∀ G1 d a, Same Z.G G1 → XdOk Z.W G1 d ns ds →
      WS (Z.at G1) (ts a (.ref C) d) { nx := fun ρ2 M2 => D2.nx (ρ2.set i none) M2, rt := D2.rt, bk := fun ρ2 M2 => D2.bk (ρ2.set i none) M2, ct := fun ρ2 M2 => D2.ct (ρ2.set i none) M2 } (ρ'.set i (some (.r a))) M') :
    WS Z (tTry tb Z.W.K c i ts Wout) D2 ρ M := ws_try rfl W2 hb hs
theorem xd_some {W : Wd} {G : Hp} {d : Option Addr} {n : Str} {ns : List Str} {ds : List DV} (h : XdOk W G d (n :: ns) ds) : d.isSome = true := by
  cases d with
  | none => cases h.1
  | some x => rfl
end DL
set_option Elab.async false
set_option linter.all false
set_option maxRecDepth 100000
set_option maxHeartbeats 2000000
/-! DL19: natural numbers, things known by a property, picks, loops that keep the slots, == of plain data. -/
namespace DL
open PySem PySem.Spec PyProof.Rows L2
section
variable {W : Wd} {Z : Zn} {G G' F : Hp} {ρ : Ro} {M M' : Mu} {H : Hp} {te : TE} {ts : TS} {Q2 : DQ} {D2 : Ends2} {d e x y : DV} {ds es : List DV}
/-! ### naturals -/
theorem wr_addN {i j : Nat} (h : Q2 (.i ((i + j : Nat) : Int)) M) : WR Z (rAddA Z.W.K) (.i (i : Nat)) (.i (j : Nat)) M Q2 := wr_addI (by rw [← Int.natCast_add]; exact h)
theorem wr_mulN {i j : Nat} (hc : i < 2 ^ 64 ∨ j < 2 ^ 64) (h : Q2 (.i ((i * j : Nat) : Int)) M) : WR Z rMulA (.i (i : Nat)) (.i (j : Nat)) M Q2 := wr_mulI (by unfold CMul; omega) (by rw [← Int.natCast_mul]; exact h)
theorem wr_modN {i j : Nat} (hj : 0 < j) (h : Q2 (.i ((i % j : Nat) : Int)) M) : WR Z (rI (fun _ j => 0 < j) fun i j => .int (i % j)) (.i (i : Nat)) (.i (j : Nat)) M Q2 := wr_I (by omega) (by rw [← Int.natCast_emod]; exact h)
theorem wr_divN {i j : Nat} (hj : 0 < j) (h1 : j < 1073741824) (h : Q2 (.i ((i / j : Nat) : Int)) M) : WR Z (rI CDiv fun i j => .int (i / j)) (.i (i : Nat)) (.i (j : Nat)) M Q2 := wr_I ⟨by omega, by omega⟩ (by rw [← Int.natCast_ediv]; exact h)
theorem wr_subN {i j : Nat} (hj : j ≤ i) (h : Q2 (.i ((i - j : Nat) : Int)) M) : WR Z (rI0 fun i j => .int (i - j)) (.i (i : Nat)) (.i (j : Nat)) M Q2 := wr_I0 (by rw [← Int.ofNat_sub hj]; exact h)
theorem wr_powN {i j : Nat} (hj : j ≤ 1000000) (hi : i < 2 ^ 64) (h : Q2 (.i ((i ^ j : Nat) : Int)) M) : WR Z (rI CPow fun i j => .int (i ^ j.toNat)) (.i (i : Nat)) (.i (j : Nat)) M Q2 := wr_I ⟨by omega, by omega, by omega⟩ (by rw [Int.toNat_natCast, ← Int.natCast_pow]; exact h)
theorem wr_P {i j : Int} (v : Int) (hv : i ^ j.toNat = v) (hc : CPow i j) (h : Q2 (.i v) M) : WR Z (rI CPow fun i j => .int (i ^ j.toNat)) (.i i) (.i j) M Q2 := wr_I hc (by rw [hv]; exact h)
/-! ### an item -/
theorem wr_atN {k : Nat} (l : LstOf M d ds) (h1 : ds[k]? = some e) (h : Q2 e M) : WR Z (rIx Z.W.K) d (.i (k : Nat)) M Q2 := wr_atL l (atI_nat h1) h
theorem wr_atTN {k : Nat} (h1 : ds[k]? = some e) (h : Q2 e M) : WR Z (rIx Z.W.K) (.tup ds) (.i (k : Nat)) M Q2 := wr_atT (atI_nat h1) h
/-- one of some -/
theorem wr_pick {k : Nat} (l : LstOf M d ds) (hk : k < ds.length) (h : ∀ e, e ∈ ds → Q2 e M) : WR Z (rIx Z.W.K) d (.i (k : Nat)) M Q2 := wr_atN l (List.getElem?_eq_getElem hk) (h _ (List.getElem_mem hk))
/-- an item of a mapped list -/
theorem wr_atM {α : Type} {f : α → DV} {xs : List α} {k : Nat} (l : LstOf M d (xs.map f)) (hk : k < xs.length) (h : ∀ x, xs[k]? = some x → Q2 (f x) M) : WR Z (rIx Z.W.K) d (.i (k : Nat)) M Q2 :=
  wr_atN l (by rw [List.getElem?_map, List.getElem?_eq_getElem hk]; rfl) (h _ (List.getElem?_eq_getElem hk))
theorem wr_atTM {α : Type} {f : α → DV} {xs : List α} {k : Nat} (hk : k < xs.length) (h : ∀ x, xs[k]? = some x → Q2 (f x) M) : WR Z (rIx Z.W.K) (.tup (xs.map f)) (.i (k : Nat)) M Q2 :=
  wr_atTN (by rw [List.getElem?_map, List.getElem?_eq_getElem hk]; rfl) (h _ (List.getElem?_eq_getElem hk))
/-- one of some, by an int -/
theorem atI_of {α : Type} {xs : List α} {k : Int} (h0 : 0 ≤ k) {e : α} (h : xs[k.toNat]? = some e) : atI xs k = some e := by
  obtain ⟨n, rfl⟩ := nat_of h0
  exact atI_nat h
theorem wr_pickI {k : Int} (l : LstOf M d ds) (h0 : 0 ≤ k) (hk : k < ds.length) (h : ∀ e, e ∈ ds → Q2 e M) : WR Z (rIx Z.W.K) d (.i k) M Q2 :=
  wr_atL l (atI_of h0 (List.getElem?_eq_getElem (by omega))) (h _ (List.getElem_mem _))
theorem wr_atMI {α : Type} {f : α → DV} {xs : List α} {k : Int} (l : LstOf M d (xs.map f)) (h0 : 0 ≤ k) (hk : k < xs.length) (h : ∀ x, xs[k.toNat]? = some x → Q2 (f x) M) : WR Z (rIx Z.W.K) d (.i k) M Q2 := by
  have hk' : k.toNat < xs.length := by omega
  exact wr_atL l (atI_of h0 (by rw [List.getElem?_map, List.getElem?_eq_getElem hk']; rfl)) (h _ (List.getElem?_eq_getElem hk'))
/-! ### things known by a property -/
inductive OLe : Option MO → Option MO → Prop
  | rf {o : Option MO} : OLe o o
  | close {ds : List DV} {P : List DV → Prop} (h : P ds) : OLe (some (.lst ds)) (some (.pre P))
  | wk {P P' : List DV → Prop} (h : ∀ ds, P ds → P' ds) : OLe (some (.pre P)) (some (.pre P'))
  | drop {o : Option MO} : OLe o none
def MLe (M M' : Mu) : Prop := ∀ a, OLe (M a) (M' a)
theorem MLe.rfl {M : Mu} : MLe M M := fun _ => .rf
theorem MLe.upd {p : Addr} {a b : MO} (h : OLe (some a) (some b)) : MLe (updM M p a) (updM M p b) := fun q => by
  by_cases e : q = p
  · subst e; rw [updM_same, updM_same]; exact h
  · rw [updM_ne e, updM_ne e]; exact .rf
theorem MLe.upd2 {p : Addr} {a : MO} (h : MLe M M') : MLe (updM M p a) (updM M' p a) := fun q => by
  by_cases e : q = p
  · subst e; rw [updM_same, updM_same]; exact .rf
  · rw [updM_ne e, updM_ne e]; exact h q
theorem Rep.weak (R : Rep W G M F H) (l : MLe M M') : Rep W G M' F H where
  ex := R.ex
  fr := R.fr
  fd := fun a o h => ⟨(R.fd a o h).1, by
    have h1 := (R.fd a o h).2
    have := l a
    rw [h1] at this
    generalize M' a = z at this
    cases this <;> rfl⟩
  mu := fun a o h => by
    have := l a
    rw [h] at this
    generalize q : M a = z at this
    cases this with
    | rf => exact R.mu a o q
    | close hp =>
      obtain ⟨h1, xs, h2, h3⟩ := R.mu a _ q
      exact ⟨h1, _, xs, hp, h2, h3⟩
    | wk hp =>
      obtain ⟨h1, ds, xs, h0, h2, h3⟩ := R.mu a _ q
      exact ⟨h1, ds, xs, hp ds h0, h2, h3⟩
theorem ws_weak (l : MLe M M') (h : WS Z ts D2 ρ M') : WS Z ts D2 ρ M := fun G σ H D s R E e => h G σ H D s (R.weak l) E e
theorem we_weak (l : MLe M M') (h : WE Z te ρ M' Q2) : WE Z te ρ M Q2 := fun G σ H Q s R E e => h G σ H Q s (R.weak l) E e
theorem we_weakR (h : WE Z te ρ M fun d M1 => ∃ M2, MLe M1 M2 ∧ Q2 d M2) : WE Z te ρ M Q2 := fun G σ H Q s R E r =>
  h G σ H Q s R E fun d v G1 M1 H1 s1 R1 x ⟨M2, l, q⟩ => r d v G1 M2 H1 s1 (R1.weak l) x q
theorem ws_weakR (h : WS Z ts { D2 with rt := fun d M1 => ∃ M2, MLe M1 M2 ∧ D2.rt d M2 } ρ M) : WS Z ts D2 ρ M := fun G σ H D s R E e =>
  h G σ H D s R E ⟨e.nx, fun d v G1 M1 H1 s1 R1 x ⟨M2, l, q⟩ => e.rt d v G1 M2 H1 s1 (R1.weak l) x q, e.bk, e.ct⟩
theorem Rep.opens {p : Addr} {P : List DV → Prop} (R : Rep W G M F H) (hm : M p = some (.pre P)) : ∃ ds, P ds ∧ Rep W G (updM M p (.lst ds)) F H := by
  obtain ⟨h1, ds, xs, h0, h2, h3⟩ := R.mu p _ hm
  refine ⟨ds, h0, R.ex, R.fr, fun a o h => ⟨(R.fd a o h).1, ?_⟩, fun a o h => ?_⟩
  · have e : a ≠ p := fun e => by rw [e] at h; rw [(R.fd p o h).2] at hm; cases hm
    rw [updM_ne e]; exact (R.fd a o h).2
  · by_cases e : a = p
    · subst e
      rw [updM_same] at h
      cases h
      exact ⟨h1, xs, h2, h3⟩
    · rw [updM_ne e] at h
      exact R.mu a o h
theorem ws_open {p : Addr} {P : List DV → Prop} (hm : M p = some (.pre P)) (h : ∀ ds, P ds → WS Z ts D2 ρ (updM M p (.lst ds))) : WS Z ts D2 ρ M := fun G σ H D s R E e => by
  obtain ⟨ds, h0, R'⟩ := R.opens hm
  exact h ds h0 G σ H D s R' E e
/-! ### stores -/
theorem updM_swap {p q : Addr} {x y z : MO} (h : q ≠ p) : updM (updM (updM M p x) q y) p z = updM (updM M p z) q y := by
  funext b
  unfold updM
  by_cases h1 : b = p
  · have h2 : b ≠ q := fun e => h (e.symm.trans h1)
    rw [if_pos h1, if_neg h2, if_pos h1]
  · rw [if_neg h1]
    by_cases h2 : b = q
    · rw [if_pos h2, if_pos h2]
    · rw [if_neg h2, if_neg h1, if_neg h2, if_neg h1]
theorem updM_comm {p q : Addr} {x y : MO} (h : q ≠ p) : updM (updM M p x) q y = updM (updM M q y) p x := by
  funext b
  unfold updM
  by_cases h1 : b = p
  · have h2 : b ≠ q := fun e => h (e.symm.trans h1)
    rw [if_neg h2, if_pos h1, if_pos h1]
  · rw [if_neg h1, if_neg h1]
theorem updM_none {p q : Addr} {x : MO} (h : updM M p x q = none) : q ≠ p ∧ M q = none := by
  have : q ≠ p := fun e => by rw [e, updM_same] at h; cases h
  exact ⟨this, by rw [updM_ne this] at h; exact h⟩
theorem delM_ne2 {p q : Addr} {x : MO} (h : p ≠ q) : delM (updM M p x) q = updM (delM M q) p x := by
  funext b
  unfold delM updM
  by_cases h1 : b = q
  · have h2 : b ≠ p := fun e => h (e.symm.trans h1)
    simp only [h1, if_true, if_neg (fun e : q = p => h e.symm)]
  · simp only [if_neg h1]
end
/-! ### the well -/
def WellP (n : Nat) : List DV → Prop := fun ds => ∃ A B C : Int, ds = [.i A, .i B, .i C] ∧ 0 ≤ B ∧ B < 2147483647 ∧ 0 ≤ C ∧ C ≤ (n : Int)
abbrev wl (n : Nat) : MO := .pre (WellP n)
theorem WellP.mono {n m : Nat} (l : n ≤ m) : OLe (some (wl n)) (some (wl m)) := .wk fun ds ⟨A, B, C, e, h2, h3, h4, h5⟩ => ⟨A, B, C, e, h2, h3, h4, by omega⟩
theorem wl_le {M : Mu} {p : Addr} {n m : Nat} (l : n ≤ m) : MLe (updM M p (wl n)) (updM M p (wl m)) := MLe.upd (WellP.mono l)
def sp_draw : Sp2 := fun ds M Q2 _ => ∃ (p : Addr) (top : Int) (n : Nat), ds = [.r p, .i top] ∧ M p = some (wl n) ∧ n ≤ 1000000000 ∧ 0 < top ∧ top < 1073741824 ∧ ∀ r : Nat, (r : Int) < top → Q2 (.i (r : Nat)) (updM M p (wl (n + 1)))
section
variable {M : Mu} {Q2 : DQ} {E2 : XK2} {p q q' : Addr} {n : Nat} {top : Int} {x y : MO}
theorem draw1 (hn : n ≤ 1000000000) (h0 : 0 < top) (h1 : top < 1073741824) (h : ∀ r : Nat, (r : Int) < top → Q2 (.i (r : Nat)) (updM M p (wl (n + 1)))) : sp_draw [.r p, .i top] (updM M p (wl n)) Q2 E2 :=
  ⟨p, top, n, rfl, updM_same, hn, h0, h1, by rw [updM_upd]; exact h⟩
theorem draw2 (hq : q ≠ p) (hn : n ≤ 1000000000) (h0 : 0 < top) (h1 : top < 1073741824) (h : ∀ r : Nat, (r : Int) < top → Q2 (.i (r : Nat)) (updM (updM M p (wl (n + 1))) q x)) : sp_draw [.r p, .i top] (updM (updM M p (wl n)) q x) Q2 E2 :=
  ⟨p, top, n, rfl, by rw [updM_ne (Ne.symm hq), updM_same], hn, h0, h1, by rw [updM_swap hq]; exact h⟩
theorem draw3 (hq : q ≠ p) (hq' : q' ≠ p) (hn : n ≤ 1000000000) (h0 : 0 < top) (h1 : top < 1073741824) (h : ∀ r : Nat, (r : Int) < top → Q2 (.i (r : Nat)) (updM (updM (updM M p (wl (n + 1))) q x) q' y)) : sp_draw [.r p, .i top] (updM (updM (updM M p (wl n)) q x) q' y) Q2 E2 :=
  ⟨p, top, n, rfl, by rw [updM_ne (Ne.symm hq'), updM_ne (Ne.symm hq), updM_same], hn, h0, h1, by
    have e : updM (updM (updM (updM M p (wl n)) q x) q' y) p (wl (n + 1)) = updM (updM (updM M p (wl (n + 1))) q x) q' y := by
      rw [← updM_comm hq', updM_swap hq]
    rw [e]
    exact h⟩
end
end DL
set_option Elab.async false
set_option linter.all false
set_option maxRecDepth 100000
set_option maxHeartbeats 2000000
/-! DL20: forms of rules that a walk takes by itself; loops that keep the slots; == of plain data. -/
namespace DL
open PySem PySem.Spec PyProof.Rows L2
/-- a list display that will be changed -/
def tLstM (t : TA) : TE := tLst t
theorem pe_lstM {X : Cx} {es : List Expr} {t : TA} {pos : Pos} (h : PA X es t) : PE X (.List es pos) (tLstM t) := pe_lst h
def rListQM (K : PySem.W.Frag) : List V → Hp → VK → Prop := rListQ K
theorem k_listM {X : Cx} {K : PySem.W.Frag} (e : X.K = K) : CallR X (.type "list") (rListQM K) := k_list e
theorem and_size {n : Nat} {Q : Prop} (h : Nat.ble n 1000000 = true) (q : Q) : n ≤ sizeLine ∧ Q := ⟨Nat.le_trans (Nat.le_of_ble_eq_true h) (by decide), q⟩
theorem le_size {n : Nat} (h : n ≤ 1000000) : n ≤ sizeLine := Nat.le_trans h (by decide)
theorem and_size' {n : Nat} {Q : Prop} (h : n ≤ 1000000) (q : Q) : n ≤ sizeLine ∧ Q := ⟨le_size h, q⟩
theorem if_d {p : Prop} [Decidable p] {A B : Prop} (h1 : p → A) (h2 : ¬p → B) : if decide p = true then A else B := by
  by_cases h : p
  · rw [if_pos (decide_eq_true h)]; exact h1 h
  · rw [if_neg (by rw [decide_eq_false h]; exact Bool.false_ne_true)]; exact h2 h
theorem if_nd {p : Prop} [Decidable p] {A B : Prop} (h1 : ¬p → A) (h2 : p → B) : if (!decide p) = true then A else B := by
  by_cases h : p
  · rw [decide_eq_true h]; exact h2 h
  · rw [decide_eq_false h]; exact h1 h
section
variable {W : Wd} {Z : Zn} {G G' F : Hp} {ρ : Ro} {M M' : Mu} {H : Hp} {te ta tb : TE} {ts : TS} {tx : TA} {Q2 : DQ} {D2 : Ends2} {d e x y : DV} {ds es : List DV} {wi : TI} {g : TG} {tt : TT}
theorem we_lstMM (h : WA Z tx ρ M fun ds M1 => ds.length ≤ sizeLine ∧ ∀ p, M1 p = none → Q2 (.r p) (updM M1 p (.lst ds))) : WE Z (tLstM tx) ρ M Q2 := we_lstM h
theorem wc_listMM (l : SqOf M d ds) (h : ∀ p, M p = none → Q2 (.r p) (updM M p (.lst ds))) : WC Z (rListQM Z.W.K) [d] M Q2 := wc_listQM l h
theorem wm_app1 {q : Addr} (hz : ds.length < 1000000) (h : Q2 .n (updM M q (.lst (ds ++ [e])))) : WM Z rAppend (.r q) [e] (updM M q (.lst ds)) Q2 := wm_appendT updM_same hz (by rw [updM_upd]; exact h)
theorem wm_ext1 {q : Addr} (l : LstOf (updM M q (.lst ds)) e es) (hz : ds.length + es.length ≤ 1000000) (h : Q2 .n (updM M q (.lst (ds ++ es)))) : WM Z rExtend (.r q) [e] (updM M q (.lst ds)) Q2 := wm_extend updM_same l (le_size hz) (by rw [updM_upd]; exact h)
theorem ty_l1 {q : Addr} : TyOk W "list" (updM M q (.lst ds)) (.r q) := tyOk_lst (.inr ⟨q, rfl, updM_same⟩)
theorem ty_l0 : TyOk W "list" M (.lst ds) := tyOk_lst (.inl rfl)
theorem ls_l1 {q : Addr} : LstOf (updM M q (.lst ds)) (.r q) ds := .inr ⟨q, rfl, updM_same⟩
theorem ls_l2 {q q' : Addr} {o : MO} (h : q ≠ q') : LstOf (updM (updM M q (.lst ds)) q' o) (.r q) ds := .inr ⟨q, rfl, by rw [updM_ne h, updM_same]⟩
theorem we_call0 {sp2 : Sp2} {E : XK} {E2 : XK2} (hx : XcOk Z E2 E) (h : WA Z tx ρ M fun ds M1 => sp2 ds M1 Q2 E2) : WE Z (tCall (lift Z.W sp2) [] E tx) ρ M Q2 := we_call hx (h.imp fun ds M1 q => by rw [List.map_nil, List.append_nil]; exact q)
theorem we_meth0 {sp2 : Sp2} {E : XK} {E2 : XK2} {C : Addr} {m : Str} (hx : XcOk Z E2 E) (h : WE Z ta ρ M fun d M1 => (∃ ns ds, ObjOf M1 d C ns ds ∧ (ns.zip ds).lookup m = none) ∧ WA Z tx ρ M1 fun es M2 => sp2 (d :: es) M2 Q2 E2) : WE Z (tMeth C m (lift Z.W sp2) [] E ta tx) ρ M Q2 :=
  we_meth hx (h.imp fun d M1 q => ⟨q.1, q.2.imp fun ds M1 q => by rw [List.map_nil, List.append_nil]; exact q⟩)
theorem wc_isI {k : Kd} (hk : kdM M d = some k) (h : Q2 (.b (subK k .int)) M) : WC Z (rIsi Z.W.K) [d, .v (.ty "int")] M Q2 := wc_isK .int hk h
theorem wc_isS {k : Kd} (hk : kdM M d = some k) (h : Q2 (.b (subK k .str)) M) : WC Z (rIsi Z.W.K) [d, .v (.ty "str")] M Q2 := wc_isK .str hk h
theorem wc_isB {k : Kd} (hk : kdM M d = some k) (h : Q2 (.b (subK k .bool)) M) : WC Z (rIsi Z.W.K) [d, .v (.ty "bool")] M Q2 := wc_isK .bool hk h
theorem wc_isL {k : Kd} (hk : kdM M d = some k) (h : Q2 (.b (subK k .list)) M) : WC Z (rIsi Z.W.K) [d, .v (.ty "list")] M Q2 := wc_isK .list hk h
theorem wc_isT {k : Kd} (hk : kdM M d = some k) (h : Q2 (.b (subK k .tuple)) M) : WC Z (rIsi Z.W.K) [d, .v (.ty "tuple")] M Q2 := wc_isK .tuple hk h
theorem wc_lenL (h : Q2 (.i (ds.length : Nat)) M) : WC Z (orC (rLenQ Z.W.K) rLenT) [.lst ds] M Q2 := wc_lenQ (.inl (.inl rfl)) h
theorem wc_lenU (h : Q2 (.i (ds.length : Nat)) M) : WC Z (orC (rLenQ Z.W.K) rLenT) [.tup ds] M Q2 := wc_lenQ (.inr rfl) h
theorem wc_lenR {q : Addr} (h : Q2 (.i (ds.length : Nat)) (updM M q (.lst ds))) : WC Z (orC (rLenQ Z.W.K) rLenT) [.r q] (updM M q (.lst ds)) Q2 := wc_lenQ (.inl ls_l1) h
theorem wc_listL (h : Q2 (.lst ds) M) : WC Z (rListQ Z.W.K) [.lst ds] M Q2 := wc_listQ (.inl (.inl rfl)) h
theorem wc_listU (h : Q2 (.lst ds) M) : WC Z (rListQ Z.W.K) [.tup ds] M Q2 := wc_listQ (.inr rfl) h
theorem wc_listR {q : Addr} (h : Q2 (.lst ds) (updM M q (.lst ds))) : WC Z (rListQ Z.W.K) [.r q] (updM M q (.lst ds)) Q2 := wc_listQ (.inl ls_l1) h
theorem wc_listML (h : ∀ p, M p = none → Q2 (.r p) (updM M p (.lst ds))) : WC Z (rListQM Z.W.K) [.lst ds] M Q2 := wc_listQM (.inl (.inl rfl)) h
theorem wc_tupL (h : Q2 (.tup ds) M) : WC Z (rTupQ Z.W.K) [.lst ds] M Q2 := wc_tupQ (.inl (.inl rfl)) h
theorem wc_tupU (h : Q2 (.tup ds) M) : WC Z (rTupQ Z.W.K) [.tup ds] M Q2 := wc_tupQ (.inr rfl) h
theorem wc_tupR {q : Addr} (h : Q2 (.tup ds) (updM M q (.lst ds))) : WC Z (rTupQ Z.W.K) [.r q] (updM M q (.lst ds)) Q2 := wc_tupQ (.inl ls_l1) h
theorem wr_atLL {k : Int} (h1 : atI ds k = some e) (h : Q2 e M) : WR Z (rIx Z.W.K) (.lst ds) (.i k) M Q2 := wr_atL (.inl rfl) h1 h
theorem wr_atRR {q : Addr} {k : Int} (h1 : atI ds k = some e) (h : Q2 e (updM M q (.lst ds))) : WR Z (rIx Z.W.K) (.r q) (.i k) (updM M q (.lst ds)) Q2 := wr_atL ls_l1 h1 h
theorem wr_aL0 (h : Q2 e M) : WR Z (rIx Z.W.K) (.lst (e :: ds)) (.i 0) M Q2 := wr_atL (.inl rfl) (atI_nat (j := 0) rfl) h
theorem wr_aT0 (h : Q2 e M) : WR Z (rIx Z.W.K) (.tup (e :: ds)) (.i 0) M Q2 := wr_atT (atI_nat (j := 0) rfl) h
theorem wr_aR0 {q : Addr} (h : Q2 e (updM M q (.lst (e :: ds)))) : WR Z (rIx Z.W.K) (.r q) (.i 0) (updM M q (.lst (e :: ds))) Q2 := wr_atL ls_l1 (atI_nat (j := 0) rfl) h
theorem wr_aL1 {a0 : DV} (h : Q2 e M) : WR Z (rIx Z.W.K) (.lst (a0 :: e :: ds)) (.i 1) M Q2 := wr_atL (.inl rfl) (atI_nat (j := 1) rfl) h
theorem wr_aT1 {a0 : DV} (h : Q2 e M) : WR Z (rIx Z.W.K) (.tup (a0 :: e :: ds)) (.i 1) M Q2 := wr_atT (atI_nat (j := 1) rfl) h
theorem wr_aR1 {a0 : DV} {q : Addr} (h : Q2 e (updM M q (.lst (a0 :: e :: ds)))) : WR Z (rIx Z.W.K) (.r q) (.i 1) (updM M q (.lst (a0 :: e :: ds))) Q2 := wr_atL ls_l1 (atI_nat (j := 1) rfl) h
theorem wr_aL2 {a0 a1 : DV} (h : Q2 e M) : WR Z (rIx Z.W.K) (.lst (a0 :: a1 :: e :: ds)) (.i 2) M Q2 := wr_atL (.inl rfl) (atI_nat (j := 2) rfl) h
theorem wr_aT2 {a0 a1 : DV} (h : Q2 e M) : WR Z (rIx Z.W.K) (.tup (a0 :: a1 :: e :: ds)) (.i 2) M Q2 := wr_atT (atI_nat (j := 2) rfl) h
theorem wr_aR2 {a0 a1 : DV} {q : Addr} (h : Q2 e (updM M q (.lst (a0 :: a1 :: e :: ds)))) : WR Z (rIx Z.W.K) (.r q) (.i 2) (updM M q (.lst (a0 :: a1 :: e :: ds))) Q2 := wr_atL ls_l1 (atI_nat (j := 2) rfl) h
theorem wr_aL3 {a0 a1 a2 : DV} (h : Q2 e M) : WR Z (rIx Z.W.K) (.lst (a0 :: a1 :: a2 :: e :: ds)) (.i 3) M Q2 := wr_atL (.inl rfl) (atI_nat (j := 3) rfl) h
theorem wr_aT3 {a0 a1 a2 : DV} (h : Q2 e M) : WR Z (rIx Z.W.K) (.tup (a0 :: a1 :: a2 :: e :: ds)) (.i 3) M Q2 := wr_atT (atI_nat (j := 3) rfl) h
theorem wr_aR3 {a0 a1 a2 : DV} {q : Addr} (h : Q2 e (updM M q (.lst (a0 :: a1 :: a2 :: e :: ds)))) : WR Z (rIx Z.W.K) (.r q) (.i 3) (updM M q (.lst (a0 :: a1 :: a2 :: e :: ds))) Q2 := wr_atL ls_l1 (atI_nat (j := 3) rfl) h
theorem wr_aL4 {a0 a1 a2 a3 : DV} (h : Q2 e M) : WR Z (rIx Z.W.K) (.lst (a0 :: a1 :: a2 :: a3 :: e :: ds)) (.i 4) M Q2 := wr_atL (.inl rfl) (atI_nat (j := 4) rfl) h
theorem wr_aT4 {a0 a1 a2 a3 : DV} (h : Q2 e M) : WR Z (rIx Z.W.K) (.tup (a0 :: a1 :: a2 :: a3 :: e :: ds)) (.i 4) M Q2 := wr_atT (atI_nat (j := 4) rfl) h
theorem wr_aR4 {a0 a1 a2 a3 : DV} {q : Addr} (h : Q2 e (updM M q (.lst (a0 :: a1 :: a2 :: a3 :: e :: ds)))) : WR Z (rIx Z.W.K) (.r q) (.i 4) (updM M q (.lst (a0 :: a1 :: a2 :: a3 :: e :: ds))) Q2 := wr_atL ls_l1 (atI_nat (j := 4) rfl) h
theorem wr_aL5 {a0 a1 a2 a3 a4 : DV} (h : Q2 e M) : WR Z (rIx Z.W.K) (.lst (a0 :: a1 :: a2 :: a3 :: a4 :: e :: ds)) (.i 5) M Q2 := wr_atL (.inl rfl) (atI_nat (j := 5) rfl) h
theorem wr_aT5 {a0 a1 a2 a3 a4 : DV} (h : Q2 e M) : WR Z (rIx Z.W.K) (.tup (a0 :: a1 :: a2 :: a3 :: a4 :: e :: ds)) (.i 5) M Q2 := wr_atT (atI_nat (j := 5) rfl) h
theorem wr_aR5 {a0 a1 a2 a3 a4 : DV} {q : Addr} (h : Q2 e (updM M q (.lst (a0 :: a1 :: a2 :: a3 :: a4 :: e :: ds)))) : WR Z (rIx Z.W.K) (.r q) (.i 5) (updM M q (.lst (a0 :: a1 :: a2 :: a3 :: a4 :: e :: ds))) Q2 := wr_atL ls_l1 (atI_nat (j := 5) rfl) h
theorem if_ttN {p : Prop} [Decidable p] {A B : Prop} (h : ¬p) (q : A) : if (!decide p) = true then A else B := by rw [decide_eq_false h]; exact q
theorem if_ffN {p : Prop} [Decidable p] {A B : Prop} (h : p) (q : B) : if (!decide p) = true then A else B := by rw [decide_eq_true h]; exact q
theorem if_ttD {p : Prop} [Decidable p] {A B : Prop} (h : p) (q : A) : if decide p = true then A else B := by rw [decide_eq_true h]; exact q
theorem if_ffD {p : Prop} [Decidable p] {A B : Prop} (h : ¬p) (q : B) : if decide p = true then A else B := by rw [decide_eq_false h]; exact q
theorem wr_M {C : Int → Int → Prop} {g : Int → Int → V} {i j : Int} (hc : C i j) (h : Q2 (.v (g i j)) M) : WR Z (rI C g) (.i i) (.i j) M Q2 := wr_I hc h
/-! ### loops -/
/-- a for that keeps all slots but some -/
theorem loop_keep (is : List Nat) (I : Nat → Mu → Prop) (items : List DV) (hI : I 0 M)
    (hs : ∀ i d M, items[i]? = some d → I i M → WG Z g d (wipe2 ρ is) M fun ρ1 M1 => WS Z ts { D2 with nx := fun ρ2 M2 => wipe2 ρ2 is = wipe2 ρ is ∧ I (i + 1) M2, ct := fun ρ2 M2 => wipe2 ρ2 is = wipe2 ρ is ∧ I (i + 1) M2, bk := D2.nx } ρ1 M1)
    (hk : ∀ M, I items.length M → D2.nx (wipe2 ρ is) M)
    (hw : ∀ ρ2 M2, D2.nx (wipe2 ρ2 is) M2 → D2.nx ρ2 M2) (hg : ∀ d ρ2 M (P : Ro → Mu → Prop), wipe2 ρ2 is = wipe2 ρ is → WG Z g d (wipe2 ρ is) M P → WG Z g d ρ2 M P) : Loop Z g ts D2 items ρ M :=
  loop_word (fun j ρ2 M2 => wipe2 ρ2 is = wipe2 ρ is ∧ I j M2) items 0 ρ M ⟨rfl, hI⟩ (fun i d ρ2 M2 hi h => by
    rw [Nat.zero_add] at h ⊢
    exact hg d ρ2 M2 _ h.1 (hs i d M2 hi h.2)) fun ρ2 M2 h => by
      rw [Nat.zero_add] at h
      refine hw ρ2 M2 ?_
      rw [h.1]
      exact hk M2 h.2
end
/-! ### == of data without truths -/
mutual
def DV.pln : DV → Bool
  | .v .non => true
  | .v (.int _) => true
  | .v (.str z) => PyData.strOk z
  | .lst ds => plnL ds
  | .tup ds => plnL ds
  | _ => false
def plnL : List DV → Bool
  | [] => true
  | d :: ds => d.pln && plnL ds
end
mutual
theorem pln_good : ∀ d : DV, d.pln = true → d.good = true
  | .v x, h => by cases x <;> simp_all [DV.pln, DV.good]
  | .lst ds, h => by simp only [DV.good]; exact plnL_good ds (by simpa [DV.pln] using h)
  | .tup ds, h => by simp only [DV.good]; exact plnL_good ds (by simpa [DV.pln] using h)
  | .obj _ _ _, h => by simp [DV.pln] at h
  | .dk _ _, h => by simp [DV.pln] at h
  | .dl _ _, h => by simp [DV.pln] at h
  | .fn _ _, h => by simp [DV.pln] at h
theorem plnL_good : ∀ ds : List DV, plnL ds = true → goodL ds = true
  | [], _ => rfl
  | d :: ds, h => by
    simp only [plnL, Bool.and_eq_true] at h
    simp only [goodL, Bool.and_eq_true]
    exact ⟨pln_good d h.1, plnL_good ds h.2⟩
end
mutual
theorem pln_eqv : ∀ (d e : DV) (p q : PyData), d.pln = true → e.pln = true → d.py = some p → e.py = some q → (PyData.eqv p q = true ↔ d = e)
  | .v x, e, p, q, h1, h2, h3, h4 => by
    cases x <;> simp [DV.pln] at h1 <;> simp [DV.py] at h3 <;> subst h3
    all_goals
      cases e with
      | v y => cases y <;> simp [DV.pln] at h2 <;> simp [DV.py] at h4 <;> subst h4 <;> simp [PyData.eqv]
      | lst ds =>
        simp only [DV.py, Option.map_eq_some_iff] at h4
        obtain ⟨ps, _, rfl⟩ := h4
        simp [PyData.eqv]
      | tup ds =>
        simp only [DV.py, Option.map_eq_some_iff] at h4
        obtain ⟨ps, _, rfl⟩ := h4
        simp [PyData.eqv]
      | obj _ _ _ => simp [DV.pln] at h2
      | dk _ _ => simp [DV.pln] at h2
      | dl _ _ => simp [DV.pln] at h2
      | fn _ _ => simp [DV.pln] at h2
  | .lst ds, e, p, q, h1, h2, h3, h4 => by
    simp only [DV.py, Option.map_eq_some_iff] at h3
    obtain ⟨ps, h3, rfl⟩ := h3
    cases e with
    | v y => cases y <;> simp [DV.pln] at h2 <;> simp [DV.py] at h4 <;> subst h4 <;> simp [PyData.eqv]
    | lst es =>
      simp only [DV.py, Option.map_eq_some_iff] at h4
      obtain ⟨qs, h4, rfl⟩ := h4
      simp only [PyData.eqv, DV.lst.injEq]
      exact plnL_eqv ds es ps qs (by simpa [DV.pln] using h1) (by simpa [DV.pln] using h2) h3 h4
    | tup es =>
      simp only [DV.py, Option.map_eq_some_iff] at h4
      obtain ⟨qs, h4, rfl⟩ := h4
      simp [PyData.eqv]
    | obj _ _ _ => simp [DV.pln] at h2
    | dk _ _ => simp [DV.pln] at h2
    | dl _ _ => simp [DV.pln] at h2
    | fn _ _ => simp [DV.pln] at h2
  | .tup ds, e, p, q, h1, h2, h3, h4 => by
    simp only [DV.py, Option.map_eq_some_iff] at h3
    obtain ⟨ps, h3, rfl⟩ := h3
    cases e with
    | v y => cases y <;> simp [DV.pln] at h2 <;> simp [DV.py] at h4 <;> subst h4 <;> simp [PyData.eqv]
    | tup es =>
      simp only [DV.py, Option.map_eq_some_iff] at h4
      obtain ⟨qs, h4, rfl⟩ := h4
      simp only [PyData.eqv, DV.tup.injEq]
      exact plnL_eqv ds es ps qs (by simpa [DV.pln] using h1) (by simpa [DV.pln] using h2) h3 h4
    | lst es =>
      simp only [DV.py, Option.map_eq_some_iff] at h4
      obtain ⟨qs, h4, rfl⟩ := h4
      simp [PyData.eqv]
    | obj _ _ _ => simp [DV.pln] at h2
    | dk _ _ => simp [DV.pln] at h2
    | dl _ _ => simp [DV.pln] at h2
    | fn _ _ => simp [DV.pln] at h2
  | .obj _ _ _, e, p, q, h1, _, _, _ => by simp [DV.pln] at h1
  | .dk _ _, e, p, q, h1, _, _, _ => by simp [DV.pln] at h1
  | .dl _ _, e, p, q, h1, _, _, _ => by simp [DV.pln] at h1
  | .fn _ _, e, p, q, h1, _, _, _ => by simp [DV.pln] at h1
theorem plnL_eqv : ∀ (ds es : List DV) (ps qs : List PyData), plnL ds = true → plnL es = true → pyL ds = some ps → pyL es = some qs → (PyData.eqvAll ps qs = true ↔ ds = es)
  | [], [], ps, qs, h1, h2, h3, h4 => by
    simp [pyL] at h3 h4
    subst h3 h4
    simp [PyData.eqvAll]
  | [], e :: es, ps, qs, h1, h2, h3, h4 => by
    obtain ⟨q, qs', _, _, rfl⟩ := pyL_cons h4
    simp [pyL] at h3
    subst h3
    simp [PyData.eqvAll]
  | d :: ds, [], ps, qs, h1, h2, h3, h4 => by
    obtain ⟨p, ps', _, _, rfl⟩ := pyL_cons h3
    simp [pyL] at h4
    subst h4
    simp [PyData.eqvAll]
  | d :: ds, e :: es, ps, qs, h1, h2, h3, h4 => by
    obtain ⟨p, ps', g1, g2, rfl⟩ := pyL_cons h3
    obtain ⟨q, qs', g3, g4, rfl⟩ := pyL_cons h4
    simp only [plnL, Bool.and_eq_true] at h1 h2
    have a := pln_eqv d e p q h1.1 h2.1 g1 g3
    have b := plnL_eqv ds es ps' qs' h1.2 h2.2 g2 g4
    simp only [PyData.eqvAll, Bool.and_eq_true, List.cons.injEq, a, b]
end
/-- data at hand: frozen, or a list that may change -/
def Hold (M : Mu) (x d : DV) : Prop := x = d ∨ ∃ a ds, x = .r a ∧ M a = some (.lst ds) ∧ d = .lst ds
theorem Hold.py {M : Mu} {x d : DV} {p : PyData} (h : Hold M x d) (e : d.py = some p) : PyOf M x p := by
  rcases h with rfl | ⟨a, ds, rfl, hm, rfl⟩
  · exact .inl e
  · simp only [DV.py, Option.map_eq_some_iff] at e
    obtain ⟨ps, e, rfl⟩ := e
    exact .inr ⟨a, ds, ps, rfl, hm, e, rfl⟩
section
variable {Z : Zn} {M : Mu} {Q2 : DQ} {x y d e : DV} {ds es : List DV}
theorem wr_eqB (hx : Hold M x d) (hy : Hold M y e) (h1 : d.pln = true) (h2 : e.pln = true) (h3 : d.dep ≤ 64) (h4 : e.dep ≤ 64) (h : ∀ b : Bool, (b = true ↔ d = e) → Q2 (.b b) M) : WR Z (rEqA Z.W.K) x y M Q2 := by
  obtain ⟨p, p1, p2, p3⟩ := good_py d (pln_good d h1)
  obtain ⟨q, q1, q2, q3⟩ := good_py e (pln_good e h2)
  exact wr_eqP (hx.py p1) (hy.py q1) (shaped_of p2 (by omega)) (shaped_of q2 (by omega)) (h _ (pln_eqv d e p q h1 h2 p1 q1))
theorem wr_neB (hx : Hold M x d) (hy : Hold M y e) (h1 : d.pln = true) (h2 : e.pln = true) (h3 : d.dep ≤ 64) (h4 : e.dep ≤ 64) (h : ∀ b : Bool, (b = true ↔ d ≠ e) → Q2 (.b b) M) : WR Z (rNeA Z.W.K) x y M Q2 := by
  obtain ⟨p, p1, p2, p3⟩ := good_py d (pln_good d h1)
  obtain ⟨q, q1, q2, q3⟩ := good_py e (pln_good e h2)
  refine wr_neP (hx.py p1) (hy.py q1) (shaped_of p2 (by omega)) (shaped_of q2 (by omega)) (h _ ?_)
  have := pln_eqv d e p q h1 h2 p1 q1
  cases z : PyData.eqv p q <;> simp_all
theorem anyEqv : ∀ {ds : List DV} {e : DV} {ps : List PyData} {q : PyData}, plnL ds = true → e.pln = true → pyL ds = some ps → e.py = some q → ((ps.any fun z => PyData.eqv z q) = true ↔ e ∈ ds)
  | [], e, ps, q, h1, h2, h3, h4 => by
    simp [pyL] at h3
    subst h3
    simp
  | d :: ds, e, ps, q, h1, h2, h3, h4 => by
    obtain ⟨p, ps', g1, g2, rfl⟩ := pyL_cons h3
    simp only [plnL, Bool.and_eq_true] at h1
    have a := pln_eqv d e p q h1.1 h2 g1 h4
    have b := anyEqv h1.2 h2 g2 h4
    simp only [List.any_cons, Bool.or_eq_true, a, b, List.mem_cons]
    exact ⟨fun h => h.imp Eq.symm id, fun h => h.imp Eq.symm id⟩
theorem wr_inB (hx : Hold M x d) (hy : LstOf M y ds) (h1 : d.pln = true) (h2 : plnL ds = true) (h3 : d.dep ≤ 64) (h4 : depL ds ≤ 63) (h : ∀ b : Bool, (b = true ↔ d ∈ ds) → Q2 (.b b) M) : WR Z (rInA Z.W.K) x y M Q2 := by
  obtain ⟨p, p1, p2, p3⟩ := good_py d (pln_good d h1)
  obtain ⟨qs, q1, q2, q3⟩ := goodL_py ds (plnL_good ds h2)
  exact wr_inDA (hx.py p1) (pyOf_lst hy q1) (shaped_of p2 (by omega)) (shaped_of (by simpa [PyData.canLay0] using q2) (by simp [PyData.depth, q3]; omega)) (h _ (anyEqv h2 h1 q1 p1))
theorem wr_niB (hx : Hold M x d) (hy : LstOf M y ds) (h1 : d.pln = true) (h2 : plnL ds = true) (h3 : d.dep ≤ 64) (h4 : depL ds ≤ 63) (h : ∀ b : Bool, (b = true ↔ d ∉ ds) → Q2 (.b b) M) : WR Z (rNiA Z.W.K) x y M Q2 := by
  obtain ⟨p, p1, p2, p3⟩ := good_py d (pln_good d h1)
  obtain ⟨qs, q1, q2, q3⟩ := goodL_py ds (plnL_good ds h2)
  refine wr_niDA (hx.py p1) (pyOf_lst hy q1) (shaped_of p2 (by omega)) (shaped_of (by simpa [PyData.canLay0] using q2) (by simp [PyData.depth, q3]; omega)) (h _ ?_)
  have := anyEqv h2 h1 q1 p1
  cases z : (qs.any fun z => PyData.eqv z p) <;> simp_all
end
theorem plnL_int : ∀ {r : List Int}, plnL (r.map DV.i) = true
  | [] => rfl
  | r :: rs => by simp [plnL, DV.pln, plnL_int (r := rs)]
theorem plnL_rows : ∀ {rows : List (List Int)}, plnL (rows.map rowD) = true
  | [] => rfl
  | r :: rs => by simp [plnL, DV.pln, plnL_rows (rows := rs), plnL_int]
theorem plnL_strs : ∀ {zs : List Str}, (∀ z ∈ zs, PyData.strOk z = true) → plnL (zs.map DV.s) = true
  | [], _ => rfl
  | z :: zs, h => by
    have := plnL_strs (zs := zs) fun y hy => h y (List.mem_cons_of_mem _ hy)
    simp [plnL, DV.pln, h z (by simp), this]
end DL
set_option Elab.async false
set_option linter.all false
set_option maxRecDepth 100000
set_option maxHeartbeats 2000000
/-! DL21: comprehensions and loops that draw. -/
namespace DL
open PySem PySem.Spec PyProof.Rows L2
section
variable {W : Wd} {Z : Zn} {G G' F : Hp} {ρ : Ro} {M M' : Mu} {H : Hp} {te ta tb : TE} {ts : TS} {tx : TA} {Q2 : DQ} {D2 : Ends2} {d e x y : DV} {ds es : List DV} {wi : TI} {g : TG} {tt : TT}
theorem wg_weak {P : Ro → Mu → Prop} (l : MLe M M') (h : WG Z g d ρ M' P) : WG Z g d ρ M P := fun G σ H v Q s R E x n => h G σ H v Q s (R.weak l) E x n
theorem wi_rangeN {R2 : List DV → Mu → Prop} (h : WA Z tx ρ M fun ds M1 => ∃ j : Nat, ds = [.i (j : Nat)] ∧ j < 2 ^ 62 ∧ R2 (rangeD 0 j) M1) : WI Z (iRng1 tx) ρ M R2 :=
  wi_range1 (h.imp fun ds M1 ⟨j, e, h1, q⟩ => ⟨(j : Nat), e, by omega, by omega, by rw [Int.toNat_natCast]; exact q⟩)
theorem rngN {R2 : List DV → Mu → Prop} {j : Nat} (h : j < 2 ^ 62) (q : R2 (rangeD 0 j) M) : ∃ j' : Nat, [DV.i (j : Nat)] = [.i (j' : Nat)] ∧ j' < 2 ^ 62 ∧ R2 (rangeD 0 j') M := ⟨j, rfl, h, q⟩
theorem wi_rangeI {R2 : List DV → Mu → Prop} (h : WA Z tx ρ M fun ds M1 => ∃ j : Int, ds = [.i j] ∧ -(2 ^ 62) ≤ j ∧ j < 2 ^ 62 ∧ R2 (rangeD 0 j.toNat) M1) : WI Z (iRng1 tx) ρ M R2 := wi_range1 h
theorem rngI {R2 : List DV → Mu → Prop} {j : Int} (h : -(2 ^ 62) ≤ j) (h' : j < 2 ^ 62) (q : R2 (rangeD 0 j.toNat) M) : ∃ j' : Int, [DV.i j] = [.i j'] ∧ -(2 ^ 62) ≤ j' ∧ j' < 2 ^ 62 ∧ R2 (rangeD 0 j'.toNat) M := ⟨j, rfl, h, h', q⟩
theorem rngC {R2 : List DV → Mu → Prop} {j : Nat} (h' : j < 2 ^ 62) (q : R2 (rangeD 0 j) M) : ∃ j' : Int, [DV.i (j : Nat)] = [.i j'] ∧ -(2 ^ 62) ≤ j' ∧ j' < 2 ^ 62 ∧ R2 (rangeD 0 j'.toNat) M := ⟨j, rfl, by omega, by omega, by rw [Int.toNat_natCast]; exact q⟩
theorem lsN {R2 : List DV → Mu → Prop} (q : R2 ds M) : ∃ ds', DV.lst ds = .lst ds' ∧ R2 ds' M := ⟨ds, rfl, q⟩
theorem sqN {R2 : List DV → Mu → Prop} (q : R2 ds M) : ∃ ds', (DV.lst ds = .lst ds' ∨ DV.lst ds = .tup ds') ∧ R2 ds' M := ⟨ds, .inl rfl, q⟩
theorem sqT {R2 : List DV → Mu → Prop} (q : R2 ds M) : ∃ ds', (DV.tup ds = .lst ds' ∨ DV.tup ds = .tup ds') ∧ R2 ds' M := ⟨ds, .inr rfl, q⟩
theorem enN {R2 : List DV → Mu → Prop} (q : R2 (enumD ds) M) : ∃ es, [DV.lst ds] = [.lst es] ∧ R2 (enumD es) M := ⟨ds, rfl, q⟩
theorem enumD_get {i : Nat} (h : (enumD ds)[i]? = some d) : ∃ e, ds[i]? = some e ∧ d = .tup [.i (i : Nat), e] := by
  unfold enumD at h
  rw [List.getElem?_mapIdx] at h
  cases q : ds[i]? with
  | none => rw [q] at h; cases h
  | some y => rw [q] at h; cases h; exact ⟨y, rfl, rfl⟩
theorem enumD_len : (enumD ds).length = ds.length := by simp [enumD]
/-- a comprehension that draws: S n the store after n draws at most -/
theorem comp_S {α : Type} {k : List DV → Mu → Prop} (S : Nat → Mu) (hS : ∀ {a b : Nat}, a ≤ b → MLe (S a) (S b)) (f : α → DV) (P : Nat → α → Prop) (c : Nat) {n : Nat} {items : List DV} (hl : items.length ≤ 1000000)
    (hb : ∀ i d F, items[i]? = some d → i < items.length → WG (Z.fr F) g d ρ (S (n + c * i)) fun ρ2 M2 => WT (Z.fr F) tt ρ2 M2 fun b M3 => b = true ∧ WE (Z.fr F) te ρ2 M3 fun y M4 => ∃ x m, y = f x ∧ P i x ∧ m ≤ n + c * i + c ∧ M4 = S m)
    (hk : ∀ (xs : List α) (m : Nat), xs.length = items.length → (∀ i x, xs[i]? = some x → P i x) → m ≤ n + c * items.length → k (xs.map f) (S m)) : Comp Z g tt te ρ k items [] (S n) :=
  comp_word (fun j acc M' => ∃ (xs : List α) (m : Nat), acc = xs.map f ∧ xs.length = j ∧ (∀ i x, xs[i]? = some x → P i x) ∧ m ≤ n + c * j ∧ M' = S m) items 0 [] (S n) (by simpa using le_size hl) ⟨[], n, rfl, rfl, by simp, by omega, rfl⟩
    (fun i d acc M' F hd ⟨xs, m, e1, e2, e3, e4, e5⟩ => by
      subst e1 e5
      rw [Nat.zero_add] at e2 e4 ⊢
      have hi := (List.getElem?_eq_some_iff.mp hd).1
      refine (wg_weak (hS e4) (hb i d F hd hi)).imp fun ρ2 M2 q => q.imp fun b M3 ⟨hb, q2⟩ => ⟨hb, q2.imp fun y M4 ⟨x, m', h1, h2, h3, h4⟩ => ?_⟩
      subst h1 h4
      refine ⟨xs ++ [x], m', by simp, by simp [e2], fun j z hz => ?_, by rw [Nat.mul_add]; omega, rfl⟩
      by_cases hj : j < xs.length
      · rw [List.getElem?_append_left hj] at hz
        exact e3 j z hz
      · rw [List.getElem?_append_right (by omega)] at hz
        have : j = xs.length := by
          have := (List.getElem?_eq_some_iff.mp hz).1
          simp at this
          omega
        subst this
        simp at hz
        rw [← hz, e2]
        exact h2)
    fun acc M' ⟨xs, m, e1, e2, e3, e4, e5⟩ => by
      rw [Nat.zero_add] at e2 e4
      subst e1 e5
      exact hk xs m e2 e3 e4
/-- .. over range(j) -/
theorem comp_SR {α : Type} {k : List DV → Mu → Prop} {j : Nat} (S : Nat → Mu) (hS : ∀ {a b : Nat}, a ≤ b → MLe (S a) (S b)) (f : α → DV) (P : Nat → α → Prop) (c : Nat) {n : Nat} (hl : j ≤ 1000000)
    (hb : ∀ i F, i < j → WG (Z.fr F) g (.i (i : Nat)) ρ (S (n + c * i)) fun ρ2 M2 => WT (Z.fr F) tt ρ2 M2 fun b M3 => b = true ∧ WE (Z.fr F) te ρ2 M3 fun y M4 => ∃ x m, y = f x ∧ P i x ∧ m ≤ n + c * i + c ∧ M4 = S m)
    (hk : ∀ (xs : List α) (m : Nat), xs.length = j → (∀ i x, xs[i]? = some x → P i x) → m ≤ n + c * j → k (xs.map f) (S m)) : Comp Z g tt te ρ k (rangeD 0 j) [] (S n) :=
  comp_S S hS f P c (by rw [rangeD_len]; exact hl) (fun i d F hd hi => by
    obtain ⟨h1, rfl⟩ := rangeD_get hd
    exact hb i F h1) fun xs m h1 h2 h3 => hk xs m (by rw [h1, rangeD_len]) h2 (by rw [rangeD_len] at h3; exact h3)
/-- one well -/
theorem comp_W {α : Type} {k : List DV → Mu → Prop} {j : Nat} {p : Addr} (f : α → DV) (P : Nat → α → Prop) (c : Nat) {n : Nat} (hl : j ≤ 1000000)
    (hb : ∀ i F, i < j → WG (Z.fr F) g (.i (i : Nat)) ρ (updM M p (wl (n + c * i))) fun ρ2 M2 => WT (Z.fr F) tt ρ2 M2 fun b M3 => b = true ∧ WE (Z.fr F) te ρ2 M3 fun y M4 => ∃ x m, y = f x ∧ P i x ∧ m ≤ n + c * i + c ∧ M4 = updM M p (wl m))
    (hk : ∀ (xs : List α) (m : Nat), xs.length = j → (∀ i x, xs[i]? = some x → P i x) → m ≤ n + c * j → k (xs.map f) (updM M p (wl m))) : Comp Z g tt te ρ k (rangeD 0 j) [] (updM M p (wl n)) :=
  comp_SR (fun n => updM M p (wl n)) wl_le f P c hl hb hk
/-- one well and a list beside it -/
theorem comp_W2 {α : Type} {k : List DV → Mu → Prop} {j : Nat} {p q : Addr} {o : MO} (f : α → DV) (P : Nat → α → Prop) (c : Nat) {n : Nat} (hl : j ≤ 1000000)
    (hb : ∀ i F, i < j → WG (Z.fr F) g (.i (i : Nat)) ρ (updM (updM M p (wl (n + c * i))) q o) fun ρ2 M2 => WT (Z.fr F) tt ρ2 M2 fun b M3 => b = true ∧ WE (Z.fr F) te ρ2 M3 fun y M4 => ∃ x m, y = f x ∧ P i x ∧ m ≤ n + c * i + c ∧ M4 = updM (updM M p (wl m)) q o)
    (hk : ∀ (xs : List α) (m : Nat), xs.length = j → (∀ i x, xs[i]? = some x → P i x) → m ≤ n + c * j → k (xs.map f) (updM (updM M p (wl m)) q o)) : Comp Z g tt te ρ k (rangeD 0 j) [] (updM (updM M p (wl n)) q o) :=
  comp_SR (fun n => updM (updM M p (wl n)) q o) (fun h => (wl_le h).upd2) f P c hl hb hk
theorem wipe2_some : ∀ (is : List Nat) (i : Nat) d, (wipe2 ρ is)[i]? = some (some d) → ρ[i]? = some (some d)
  | [], i, d, h => h
  | j :: is, i, d, h => by
    unfold wipe2 at h
    by_cases q : j = i
    · subst q
      rw [List.getElem?_set] at h
      split at h
      · split at h <;> cases h
      · exact wipe2_some is _ d h
    · rw [List.getElem?_set_ne q] at h
      exact wipe2_some is i d h
theorem EnvOk.wipeL {σ : L2.St} (is : List Nat) (E : EnvOk W G ρ σ) : EnvOk W G (wipe2 ρ is) σ := E.weak (wipe2_length is) (wipe2_some is)
theorem ws_env (is : List Nat) (h : WS Z ts D2 (wipe2 ρ is) M) : WS Z ts D2 ρ M := fun G σ H D s R E e => h G σ H D s R (E.wipeL is) e
theorem wg_env {P : Ro → Mu → Prop} (is : List Nat) (h : WG Z g d (wipe2 ρ is) M P) : WG Z g d ρ M P := fun G σ H v Q s R E x n => h G σ H v Q s R (E.wipeL is) x n
/-- a for over items that draws and keeps all slots but some; b what is changed beside -/
theorem loop_S {β : Type} {tr : TS} (is : List Nat) (S : Nat → β → Mu) (I : Nat → β → Prop) (c : Nat) {n : Nat} {b0 : β} {items : List DV} (hI : I 0 b0)
    (hs : ∀ i d m b, items[i]? = some d → m ≤ n + c * i → I i b → WG Z g d (wipe2 ρ is) (S m b) fun ρ1 M1 => WS Z ts { nx := fun ρ2 M2 => wipe2 ρ2 is = wipe2 ρ is ∧ ∃ m' b', m' ≤ m + c ∧ I (i + 1) b' ∧ M2 = S m' b', rt := D2.rt, bk := fun ρ2 M2 => WS Z tr D2 ρ2 M2, ct := fun ρ2 M2 => wipe2 ρ2 is = wipe2 ρ is ∧ ∃ m' b', m' ≤ m + c ∧ I (i + 1) b' ∧ M2 = S m' b' } ρ1 M1)
    (hk : ∀ m b, m ≤ n + c * items.length → I items.length b → WS Z tr D2 (wipe2 ρ is) (S m b)) : Loop Z g ts { nx := fun ρ' M' => WS Z tr D2 ρ' M', rt := D2.rt, bk := D2.bk, ct := D2.ct } items ρ (S n b0) := by
  refine loop_word (fun j ρ2 M2 => wipe2 ρ2 is = wipe2 ρ is ∧ ∃ m b, m ≤ n + c * j ∧ I j b ∧ M2 = S m b) items 0 ρ _ ⟨rfl, n, b0, by omega, hI, rfl⟩ (fun i d ρ2 M2 hi h => ?_) fun ρ2 M2 h => ?_
  · rw [Nat.zero_add] at h ⊢
    obtain ⟨h1, m, b, h2, h3, rfl⟩ := h
    refine wg_env is ?_
    rw [h1]
    have key : ∀ ρ2 M2, (wipe2 ρ2 is = wipe2 ρ is ∧ ∃ m' b', m' ≤ m + c ∧ I (i + 1) b' ∧ M2 = S m' b') → (wipe2 ρ2 is = wipe2 ρ is ∧ ∃ m b, m ≤ n + c * (i + 1) ∧ I (i + 1) b ∧ M2 = S m b) :=
      fun ρ2 M2 ⟨g1, m', b', g2, g3, g4⟩ => ⟨g1, m', b', by rw [Nat.mul_add]; omega, g3, g4⟩
    exact (hs i d m b hi h2 h3).imp fun ρ1 M1 q => q.imp key (fun _ _ h => h) (fun _ _ h => h) key
  · rw [Nat.zero_add] at h
    obtain ⟨h1, m, b, h2, h3, rfl⟩ := h
    refine ws_env is ?_
    rw [h1]
    exact hk m b h2 h3
/-- .. that draws nothing -/
theorem loop_K {β : Type} {tr : TS} (is : List Nat) (S : β → Mu) (I : Nat → β → Prop) {b0 : β} {items : List DV} (hI : I 0 b0)
    (hs : ∀ i d b, items[i]? = some d → I i b → WG Z g d (wipe2 ρ is) (S b) fun ρ1 M1 => WS Z ts { nx := fun ρ2 M2 => wipe2 ρ2 is = wipe2 ρ is ∧ ∃ b', I (i + 1) b' ∧ M2 = S b', rt := D2.rt, bk := fun ρ2 M2 => WS Z tr D2 ρ2 M2, ct := fun ρ2 M2 => wipe2 ρ2 is = wipe2 ρ is ∧ ∃ b', I (i + 1) b' ∧ M2 = S b' } ρ1 M1)
    (hk : ∀ b, I items.length b → WS Z tr D2 (wipe2 ρ is) (S b)) : Loop Z g ts { nx := fun ρ' M' => WS Z tr D2 ρ' M', rt := D2.rt, bk := D2.bk, ct := D2.ct } items ρ (S b0) :=
  loop_S is (fun _ b => S b) I 0 (n := 0) hI (fun i d m b hi hm h => by
    have key : ∀ ρ2 M2, (wipe2 ρ2 is = wipe2 ρ is ∧ ∃ b', I (i + 1) b' ∧ M2 = S b') → (wipe2 ρ2 is = wipe2 ρ is ∧ ∃ m' b', m' ≤ m + 0 ∧ I (i + 1) b' ∧ M2 = S b') :=
      fun ρ2 M2 ⟨g1, b', g3, g4⟩ => ⟨g1, 0, b', by omega, g3, g4⟩
    exact (hs i d b hi h).imp fun ρ1 M1 q => q.imp key (fun _ _ h => h) (fun _ _ h => h) key) fun m b _ h => hk b h
end
end DL
set_option Elab.async false
set_option linter.all false
set_option maxRecDepth 100000
set_option maxHeartbeats 2000000
/-! DL22: slots written out. -/
namespace DL
open PySem PySem.Spec PyProof.Rows L2
section
variable {Z : Zn} {ρ ρ' : Ro} {M : Mu} {te : TE} {ts : TS} {tx : TA} {tt : TT} {Q2 : DQ} {D2 : Ends2} {d : DV} {g : TG} {i : Nat} {x : Option DV} {is : List Nat} {y : Option DV} {l : Ro}
theorem ws_nrm (h : ρ.set i x = y :: l) (k : WS Z ts D2 (y :: l) M) : WS Z ts D2 (ρ.set i x) M := h ▸ k
theorem we_nrm (h : ρ.set i x = y :: l) (k : WE Z te (y :: l) M Q2) : WE Z te (ρ.set i x) M Q2 := h ▸ k
theorem wt_nrm {P : Bool → Mu → Prop} (h : ρ.set i x = y :: l) (k : WT Z tt (y :: l) M P) : WT Z tt (ρ.set i x) M P := h ▸ k
theorem wg_nrm {P : Ro → Mu → Prop} (h : ρ.set i x = y :: l) (k : WG Z g d (y :: l) M P) : WG Z g d (ρ.set i x) M P := h ▸ k
theorem wgs_nrm {gs : TGs} {ds : List DV} {P : Ro → Mu → Prop} (h : ρ.set i x = y :: l) (k : WGs Z gs ds (y :: l) M P) : WGs Z gs ds (ρ.set i x) M P := h ▸ k
theorem ws_nrmW (h : wipe2 ρ is = y :: l) (k : WS Z ts D2 (y :: l) M) : WS Z ts D2 (wipe2 ρ is) M := h ▸ k
theorem wg_nrmW {P : Ro → Mu → Prop} (h : wipe2 ρ is = y :: l) (k : WG Z g d (y :: l) M P) : WG Z g d (wipe2 ρ is) M P := h ▸ k
theorem comp_nrm {k : List DV → Mu → Prop} {items acc : List DV} (h : wipe2 ρ is = y :: l) (q : Comp Z g tt te (y :: l) k items acc M) : Comp Z g tt te (wipe2 ρ is) k items acc M := h ▸ q
theorem ws_start {N : List Str} {ds : List DV} (h : start2 N ds = ρ') (k : WS Z ts D2 ρ' M) : WS Z ts D2 (start2 N ds) M := h ▸ k
theorem wu_U {g : Int → V} {i : Int} (h : Q2 (.v (g i)) M) : WU Z (rU g) (.i i) M Q2 := fun G H vx Q s R dx r => ⟨i, dat_v.mp dx, r _ _ G M H (Same.refl G) R dat_v' h⟩
theorem wr_addLL {ds es : List DV} (h : Nat.ble (ds.length + es.length) 1000000 = true) (q : Q2 (.lst (ds ++ es)) M) : WR Z (rAddA Z.W.K) (.lst ds) (.lst es) M Q2 := wr_addL (.inl rfl) (.inl rfl) (le_size (Nat.le_of_ble_eq_true h)) q
theorem wr_addLn {ds es : List DV} (h : ds.length + es.length ≤ 1000000) (q : Q2 (.lst (ds ++ es)) M) : WR Z (rAddA Z.W.K) (.lst ds) (.lst es) M Q2 := wr_addL (.inl rfl) (.inl rfl) (le_size h) q
/-! what a call asks -/
def Ask (p : Prop) : Prop := p
theorem ask_of {p : Prop} (h : p) : Ask p := h
theorem we_callA {sp2 : Sp2} (h : WA Z tx ρ M fun ds M1 => Ask (sp2 ds M1 Q2 (fun _ _ _ _ => False))) : WE Z (tCall (lift Z.W sp2) [] (fun _ _ _ => False) tx) ρ M Q2 := we_call0 xcF h
theorem we_callD {sp2 : Sp2} {dvs : List V} (h : WA Z tx ρ M fun ds M1 => Ask (sp2 (ds ++ dvs.map DV.v) M1 Q2 (fun _ _ _ _ => False))) : WE Z (tCall (lift Z.W sp2) dvs (fun _ _ _ => False) tx) ρ M Q2 := we_call xcF h
def Obj (M : Mu) (d : DV) (C : Addr) (m : Str) : Prop := ∃ ns ds, ObjOf M d C ns ds ∧ (ns.zip ds).lookup m = none
theorem obj_of {C : Addr} {m : Str} {ns : List Str} {ds : List DV} {Q : Prop} (h : ObjOf M d C ns ds) (k : (ns.zip ds).lookup m = none) (q : Q) : Obj M d C m ∧ Q := ⟨⟨ns, ds, h, k⟩, q⟩
theorem we_methA {sp2 : Sp2} {C : Addr} {m : Str} {ta : TE} (h : WE Z ta ρ M fun d M1 => Obj M1 d C m ∧ WA Z tx ρ M1 fun es M2 => Ask (sp2 (d :: es) M2 Q2 (fun _ _ _ _ => False))) : WE Z (tMeth C m (lift Z.W sp2) [] (fun _ _ _ => False) ta tx) ρ M Q2 := we_meth0 xcF h
theorem we_methD {sp2 : Sp2} {C : Addr} {m : Str} {dvs : List V} {ta : TE} (h : WE Z ta ρ M fun d M1 => Obj M1 d C m ∧ WA Z tx ρ M1 fun es M2 => Ask (sp2 (d :: (es ++ dvs.map DV.v)) M2 Q2 (fun _ _ _ _ => False))) : WE Z (tMeth C m (lift Z.W sp2) dvs (fun _ _ _ => False) ta tx) ρ M Q2 := we_meth xcF h
end
end DL
set_option Elab.async false
set_option linter.all false
set_option maxRecDepth 100000
set_option maxHeartbeats 2000000
/-! DL23: the script. -/
namespace DL
open PySem PySem.Spec PyProof.Rows L2
section
variable {Z : Zn} {ρ ρ' : Ro} {M : Mu} {Q2 : DQ}
theorem cut_len {α : Type} (xs : List α) (n : Nat) : (cutD xs none (some (n : Int))).length ≤ n := by
  unfold cutD
  have : HT.sIx xs.length 0 none = 0 := rfl
  rw [this, List.drop_zero, List.length_take]
  have : HT.sIx xs.length xs.length (some (n : Int)) ≤ n := by
    unfold HT.sIx
    simp only
    split <;> omega
  omega
theorem cutV_map (ns : List Int) (lo hi : Option Int) : (cutV (ns.map V.int) lo hi).map DV.v = (cutD ns lo hi).map DV.i := by
  unfold cutV cutD
  rw [List.length_map, ← List.map_drop, ← List.map_take, List.map_map]
  rfl
theorem wl_scr {a : Addr} {ns : List Int} (n : Nat) (hS : SqL Z.W.K Z.G a (ns.map V.int)) (h : ∀ cs : List Int, cs.length ≤ n → Q2 (.lst (cs.map DV.i)) M) : WL Z (rSlA Z.W.K) (.r a) none (some (n : Int)) M Q2 :=
  wl_A0 hS (by rw [cutV_map]; exact h _ (cut_len ns n))
end
end DL
set_option Elab.async false
set_option linter.all false
set_option maxRecDepth 100000
set_option maxHeartbeats 2000000
/-! DL24: lists that may change, walked while they stand. -/
namespace DL
open PySem PySem.Spec PyProof.Rows L2
structure ItOkM (W : Wd) (G : Hp) (Kp : Mu → Prop) (J : It) (items : List DV) : Prop where
  go : ∀ i G' F M H', Same G G' → Rep W G' M F H' → Kp M → i < items.length → J.go i H'
  stop : ∀ i G' F M H', Same G G' → Rep W G' M F H' → Kp M → items.length ≤ i → J.stop i H'
  yld : ∀ i d G' F M H' x H'', Same G G' → Rep W G' M F H' → Kp M → items[i]? = some d → J.yld i H' x H'' → ∃ G'', Same G' G'' ∧ Rep W G'' M F H'' ∧ Dat W G'' d x
def WIM (Z : Zn) (wi : TI) (ρ : Ro) (M : Mu) (R2 : List DV → (Mu → Prop) → Mu → Prop) : Prop :=
  ∀ G σ H R, Same Z.G G → Rep Z.W G M Z.F H → EnvOk Z.W G ρ σ → (∀ items Kp J G' M' H', Same G G' → Rep Z.W G' M' Z.F H' → ItOkM Z.W G' Kp J items → R2 items Kp M' → R J H') → wi σ H R
def LoopM (Z : Zn) (g : TG) (tb : TS) (D2 : Ends2) (Kp : Mu → Prop) : List DV → Ro → Mu → Prop
  | [], ρ, M => Kp M ∧ D2.nx ρ M
  | d :: ds, ρ, M => Kp M ∧ WG Z g d ρ M fun ρ1 M1 => WS Z tb { D2 with nx := LoopM Z g tb D2 Kp ds, ct := LoopM Z g tb D2 Kp ds, bk := D2.nx } ρ1 M1
def CompM (Z : Zn) (g : TG) (tt : TT) (te : TE) (ρ : Ro) (k : List DV → Mu → Prop) (Kp : Mu → Prop) : List DV → List DV → Mu → Prop
  | [], acc, M => Kp M ∧ k acc M
  | d :: ds, acc, M => Kp M ∧ acc.length < sizeLine ∧ ∀ F, WG (Z.fr F) g d ρ M fun ρ2 M2 => WT (Z.fr F) tt ρ2 M2 fun b M3 =>
      if b = true then WE (Z.fr F) te ρ2 M3 fun y M4 => CompM Z g tt te ρ k Kp ds (acc ++ [y]) M4 else CompM Z g tt te ρ k Kp ds acc M3
section
variable {W : Wd} {Z : Zn} {G G' F : Hp} {ρ : Ro} {σ : L2.St} {M : Mu} {H : Hp} {te ta tb tc : TE} {tt tu : TT} {ts tr : TS} {tx : TA} {Q2 Q2' : DQ} {D2 : Ends2} {d e x y : DV} {ds es : List DV} {v : V} {wi : TI} {g : TG} {Kp : Mu → Prop}
theorem LstOf.at (R : Rep W G M F H) {a : Addr} {xs0 : List V} {G0 : Hp} (s : Same G0 G) (h0 : Dat W G0 d (.ref a)) (l : LstOf M d ds) : ∃ xs, H a = some (.lst xs) ∧ DatL W G ds xs := by
  obtain ⟨b, xs, e1, e2, e3⟩ := lst_at R (h0.mono s) l
  cases e1
  exact ⟨xs, e2, e3⟩
theorem itl_okM {a : Addr} (h : Dat W G d (.ref a)) : ItOkM W G (fun M => LstOf M d ds) (Itl W.K a) ds where
  go := fun i G' F M H' s R l hi => by
    obtain ⟨xs, e2, e3⟩ := LstOf.at R (xs0 := []) s h l
    have hl := e3.length
    exact ⟨xs, xs[i], SqL.of e2, by simp [hl, hi]⟩
  stop := fun i G' F M H' s R l hi => by
    obtain ⟨xs, e2, e3⟩ := LstOf.at R (xs0 := []) s h l
    exact ⟨xs, SqL.of e2, by rw [e3.length]; exact hi⟩
  yld := fun i d' G' F M H' x H'' s R l e ⟨e1, y⟩ => by
    subst e1
    obtain ⟨xs, e2, e3⟩ := LstOf.at R (xs0 := []) s h l
    obtain ⟨z, h1, h2⟩ := e3.get e
    have q := y xs (SqL.of e2)
    rw [h1] at q
    cases q
    exact ⟨G', Same.refl G', R, h2⟩
theorem itt_okM {a : Addr} {xs : List V} (h : SqT W.K G a xs) (hd : DatL W G ds xs) : ItOkM W G Kp (Itt W.K a) ds :=
  ⟨fun i G' F M H' s R _ hi => (itt_ok h hd).go i G' F M H' s R hi, fun i G' F M H' s R _ hi => (itt_ok h hd).stop i G' F M H' s R hi, fun i d G' F M H' x H'' s R _ e y => (itt_ok h hd).yld i d G' F M H' x H'' s R e y⟩
theorem ite_okM {a : Addr} (h : Dat W G d (.ref a)) : ItOkM W G (fun M => LstOf M d ds) (Ite W.K a) (enumD ds) where
  go := fun i G' F M H' s R l hi => by
    obtain ⟨xs, e2, e3⟩ := LstOf.at R (xs0 := []) s h l
    have hl := e3.length
    have hi' : i < ds.length := by simpa [enumD] using hi
    exact ⟨xs, xs[i], SqL.of e2, by simp [hl, hi']⟩
  stop := fun i G' F M H' s R l hi => by
    obtain ⟨xs, e2, e3⟩ := LstOf.at R (xs0 := []) s h l
    have hi' : ds.length ≤ i := by simpa [enumD] using hi
    exact ⟨xs, SqL.of e2, by rw [e3.length]; exact hi'⟩
  yld := fun i d' G' F M H' x H'' s R l e ⟨T, z, e1, hT, e2, y⟩ => by
    subst e1 e2
    obtain ⟨d0, q, rfl⟩ := enumD_get e
    obtain ⟨xs, f2, f3⟩ := LstOf.at R (xs0 := []) s h l
    obtain ⟨z', h1, h2⟩ := f3.get q
    have q2 := y xs (SqL.of f2)
    rw [h1] at q2
    injection q2 with q2
    subst q2
    have sn := same_new (o := .tup [.int (i : Nat), z']) (R.gnone hT)
    exact ⟨_, sn, R.new hT, dat_tup.mpr ⟨T, _, rfl, SqT.of upd_same, datL_cons' dat_v' (datL_cons' (h2.mono sn) datL_nil')⟩⟩
def iListM (K : PySem.W.Frag) (te : TE) : TI := iList K te
def iSeqM (K : PySem.W.Frag) (te : TE) : TI := iSeq K te
def iEnumM (K : PySem.W.Frag) (tx : TA) : TI := iEnum K tx
theorem k_lsM {X : Cx} {K : PySem.W.Frag} {tg l : Expr} {tl : TE} (eK : X.K = K) (hl : PE X l tl) : PI X tg l (iListM K tl) := k_ls eK hl
theorem k_seqM {X : Cx} {K : PySem.W.Frag} {tg l : Expr} {tl : TE} (eK : X.K = K) (hl : PE X l tl) : PI X tg l (iSeqM K tl) := k_seq eK hl
theorem wim_list {R2 : List DV → (Mu → Prop) → Mu → Prop} (h : WE Z te ρ M fun d M1 => ∃ ds, LstOf M1 d ds ∧ R2 ds (fun M => LstOf M d ds) M1) : WIM Z (iListM Z.W.K te) ρ M R2 := fun G σ H R s Rp E r =>
  h G σ H _ s Rp E fun d v G1 M1 H1 s1 R1 x q => by
    obtain ⟨ds, l, q⟩ := q
    obtain ⟨a, xs, e1, e2, e3⟩ := lst_at R1 x l
    subst e1
    exact ⟨a, rfl, ⟨xs, SqL.of e2⟩, r ds _ _ G1 M1 H1 s1 R1 (itl_okM x) q⟩
theorem wim_seq {R2 : List DV → (Mu → Prop) → Mu → Prop} (h : WE Z te ρ M fun d M1 => ∃ ds, SqOf M1 d ds ∧ R2 ds (fun M => SqOf M d ds) M1) : WIM Z (iSeqM Z.W.K te) ρ M R2 := fun G σ H R s Rp E r =>
  h G σ H _ s Rp E fun d v G1 M1 H1 s1 R1 x q => by
    obtain ⟨ds, l, q⟩ := q
    rcases l with l | rfl
    · obtain ⟨a, xs, e1, e2, e3⟩ := lst_at R1 x l
      subst e1
      have it : ItOkM Z.W G1 (fun M => SqOf M d ds) (Itl Z.W.K a) ds := by
        have it := itl_okM (ds := ds) x
        have key : ∀ M, SqOf M d ds → LstOf M d ds := fun M hq => by
          rcases hq with hq | rfl
          · exact hq
          · rcases l with l | ⟨b, l, _⟩ <;> cases l
        exact ⟨fun i G' F M H' s R k hi => it.go i G' F M H' s R (key M k) hi, fun i G' F M H' s R k hi => it.stop i G' F M H' s R (key M k) hi, fun i d G' F M H' x H'' s R k e y => it.yld i d G' F M H' x H'' s R (key M k) e y⟩
      exact ⟨a, rfl, .inl ⟨⟨xs, SqL.of e2⟩, r ds _ _ G1 M1 H1 s1 R1 it q⟩⟩
    · obtain ⟨a, xs, e1, e2, e3⟩ := dat_tup.mp x
      exact ⟨a, e1, .inr ⟨⟨xs, sqt_mono R1.ex e2⟩, r ds _ _ G1 M1 H1 s1 R1 (itt_okM e2 e3) q⟩⟩
theorem wim_enum {R2 : List DV → (Mu → Prop) → Mu → Prop} (h : WA Z tx ρ M fun ds M1 => ∃ d es, ds = [d] ∧ LstOf M1 d es ∧ R2 (enumD es) (fun M => LstOf M d es) M1) : WIM Z (iEnumM Z.W.K tx) ρ M R2 := fun G σ H R s Rp E r =>
  h G σ H _ s Rp E fun ds vs G1 M1 H1 s1 R1 x q => by
    obtain ⟨d, es, rfl, l, q⟩ := q
    obtain ⟨y, e1, h3⟩ := one_of x
    obtain ⟨a, xs, e2, e3, e4⟩ := lst_at R1 h3 l
    subst e1 e2
    exact ⟨a, xs, rfl, SqL.of e3, r _ _ _ G1 M1 H1 s1 R1 (ite_okM h3) q⟩
theorem ws_forM (h : WIM Z wi ρ M fun items Kp M1 => LoopM Z g ts D2 Kp items ρ M1) : WS Z (tFor wi g ts) D2 ρ M := fun G σ H D s R E e => by
  refine h G σ H _ s R E fun items Kp J G1 M1 H1 s1 R1 it q => ?_
  refine ⟨fun i m σ' H' => ∃ G' ρ' M', Same G1 G' ∧ Rep Z.W G' M' Z.F H' ∧ EnvOk Z.W G' ρ' σ' ∧ i ≤ items.length ∧ m = items.length - i ∧ LoopM Z g ts D2 Kp (items.drop i) ρ' M', ⟨items.length, G1, ρ, M1, Same.refl G1, R1, E.mono s1, Nat.zero_le _, rfl, q⟩, ?_⟩
  rintro i m σ' H' ⟨G', ρ', M', sg, R', E', hi, rfl, lp⟩
  by_cases hlt : i < items.length
  · rw [drop_cons hlt] at lp
    obtain ⟨kp, lp⟩ := lp
    refine .inr ⟨it.go i G' Z.F M' H' sg R' kp hlt, fun σ2 H2 => ∃ G2 ρ2 M2, Same G1 G2 ∧ Rep Z.W G2 M2 Z.F H2 ∧ EnvOk Z.W G2 ρ2 σ2 ∧ LoopM Z g ts D2 Kp (items.drop (i + 1)) ρ2 M2, ?_, fun x H2 y => ?_⟩
    · rintro σ2 H2 ⟨G2, ρ2, M2, a1, a2, a3, a4⟩
      exact ⟨items.length - (i + 1), by omega, G2, ρ2, M2, a1, a2, a3, hlt, rfl, a4⟩
    · obtain ⟨G2, s2, R2, dx⟩ := it.yld i _ G' Z.F M' H' x H2 sg R' kp (List.getElem?_eq_getElem hlt) y
      refine lp G2 σ' H2 x _ ((s.trans s1).trans (sg.trans s2)) R2 (E'.mono s2) dx fun ρ3 σ3 G3 M3 H3 s3 R3 E3 q3 => ?_
      have s13 : Same G1 G3 := (sg.trans s2).trans s3
      refine q3 G3 σ3 H3 _ ((s.trans s1).trans s13) R3 E3 ⟨fun ρ4 σ4 G4 M4 H4 s4 R4 E4 q4 => ⟨G4, ρ4, M4, s13.trans s4, R4, E4, q4⟩, e.rt.mono (s1.trans s13), e.nx.mono (s1.trans s13), fun ρ4 σ4 G4 M4 H4 s4 R4 E4 q4 => ⟨G4, ρ4, M4, s13.trans s4, R4, E4, q4⟩⟩
  · have ei : i = items.length := by omega
    subst ei
    rw [List.drop_length] at lp
    exact .inl ⟨it.stop _ G' Z.F M' H' sg R' lp.1 (Nat.le_refl _), e.nx ρ' σ' G' M' H' (s1.trans sg) R' E' lp.2⟩
theorem we_lcM {is : List Nat} (hg : GOk g is) (h : WIM Z wi ρ M fun items Kp M1 => CompM Z g tt te (wipe2 ρ is) (fun acc M2 => Q2 (.lst acc) M2) Kp items [] M1) : WE Z (tLc wi g tt te is) ρ M Q2 := fun G σ H Q s R E r => by
  refine h G σ H _ s R E fun items Kp J G1 M1 H1 s1 R1 it q => ?_
  intro D hD
  have fD : Z.F D = none := R1.fnone hD
  refine ⟨fun i m H' => ∃ G' M' acc accV, Same G1 G' ∧ Rep Z.W G' M' (upd Z.F D (.lst accV)) H' ∧ DatL Z.W G' acc accV ∧ i ≤ items.length ∧ m = items.length - i ∧ CompM Z g tt te (wipe2 ρ is) (fun acc M2 => Q2 (.lst acc) M2) Kp (items.drop i) acc M',
    ⟨items.length, G1, M1, [], [], Same.refl G1, R1.toFr hD, datL_nil', Nat.zero_le _, rfl, q⟩, ?_⟩
  rintro i m H' ⟨G', M', acc, accV, sg, R', hacc, hi, rfl, lp⟩
  by_cases hlt : i < items.length
  · rw [drop_cons hlt] at lp
    obtain ⟨kp, hz, lp⟩ := lp
    refine .inr ⟨it.go i G' _ M' H' sg R' kp hlt, fun H2 => ∃ G2 M2 acc2 acc2V, Same G1 G2 ∧ Rep Z.W G2 M2 (upd Z.F D (.lst acc2V)) H2 ∧ DatL Z.W G2 acc2 acc2V ∧ CompM Z g tt te (wipe2 ρ is) (fun acc M2 => Q2 (.lst acc) M2) Kp (items.drop (i + 1)) acc2 M2, ?_, fun x H2 y => ?_⟩
    · rintro H2 ⟨G2, M2, acc2, acc2V, a1, a2, a3, a4⟩
      exact ⟨items.length - (i + 1), by omega, G2, M2, acc2, acc2V, a1, a2, a3, hlt, rfl, a4⟩
    · obtain ⟨G2, s2, R2, dx⟩ := it.yld i _ G' _ M' H' x H2 sg R' kp (List.getElem?_eq_getElem hlt) y
      have E2 : EnvOk Z.W G2 (wipe2 ρ is) (L2.wipe σ is) := ((E.mono s1).mono (sg.trans s2)).wipe is
      refine hg x σ (L2.wipe σ is) H2 _ (wipe_idem σ is) ?_
      refine lp (upd Z.F D (.lst accV)) G2 (L2.wipe σ is) H2 x _ ((s.trans s1).trans (sg.trans s2)) R2 E2 dx fun ρ3 σ3 G3 M3 H3 s3 R3 E3 q3 => ?_
      have s13 : Same G1 G3 := (sg.trans s2).trans s3
      refine q3 G3 σ3 H3 _ ((s.trans s1).trans s13) R3 E3 fun b G4 M4 H4 s4 R4 q4 => ?_
      cases b with
      | false => exact ⟨G4, M4, acc, accV, s13.trans s4, R4, hacc.mono ((s2.trans s3).trans s4), q4⟩
      | true =>
        refine q4 G4 σ3 H4 _ ((s.trans s1).trans (s13.trans s4)) R4 (E3.mono s4) fun yd yv G5 M5 H5 s5 R5 dy q5 => ?_
        have s25 : Same G' G5 := ((s2.trans s3).trans s4).trans s5
        refine ⟨accV, R5.fr D _ upd_same, by rw [hacc.length]; exact hz, ?_⟩
        exact ⟨G5, M5, acc ++ [yd], accV ++ [yv], sg.trans s25, R5.frSet, (hacc.mono s25).append (datL_cons' dy datL_nil'), q5⟩
  · have ei : i = items.length := by omega
    subst ei
    rw [List.drop_length] at lp
    refine .inl ⟨it.stop _ G' _ M' H' sg R' lp.1 (Nat.le_refl _), ?_⟩
    have gD := (R'.fd D _ upd_same).1
    exact r _ _ (upd G' D (.lst accV)) M' H' ((s1.trans sg).trans (same_new gD)) (R'.ofFr fD) (dat_lst.mpr ⟨D, accV, rfl, upd_same, hacc.mono (same_new gD)⟩) lp.2
theorem loop_wordM (I : Nat → Ro → Mu → Prop) (hkp : ∀ j ρ M, I j ρ M → Kp M) : ∀ (items : List DV) (j : Nat) (ρ : Ro) (M : Mu), I j ρ M →
    (∀ i d ρ M, items[i]? = some d → I (j + i) ρ M → WG Z g d ρ M fun ρ1 M1 => WS Z ts { D2 with nx := I (j + i + 1), ct := I (j + i + 1), bk := D2.nx } ρ1 M1) →
    (∀ ρ M, I (j + items.length) ρ M → D2.nx ρ M) → LoopM Z g ts D2 Kp items ρ M
  | [], j, ρ, M, h0, hs, hk => ⟨hkp _ _ _ h0, hk ρ M h0⟩
  | d :: ds, j, ρ, M, h0, hs, hk => by
    refine ⟨hkp _ _ _ h0, (hs 0 d ρ M rfl h0).imp fun ρ1 M1 q => ?_⟩
    have key : ∀ ρ M, I (j + 1) ρ M → LoopM Z g ts D2 Kp ds ρ M := fun ρ' M' h => loop_wordM I hkp ds (j + 1) ρ' M' h (fun i d' ρ2 M2 hi hI => by
      have := hs (i + 1) d' ρ2 M2 hi (by rw [show j + (i + 1) = j + 1 + i by omega]; exact hI)
      rw [show j + (i + 1) = j + 1 + i by omega] at this
      exact this) fun ρ2 M2 hI => hk ρ2 M2 (by rw [List.length_cons, show j + (ds.length + 1) = j + 1 + ds.length by omega]; exact hI)
    exact q.imp key (fun _ _ h => h) (fun _ _ h => h) key
/-- a for that changes nothing beside some slots -/
theorem loop_KM {tr : TS} (is : List Nat) {items : List DV} (kp : Kp M)
    (hs : ∀ (i : Nat) d, items[i]? = some d → WG Z g d (wipe2 ρ is) M fun ρ1 M1 => WS Z ts { nx := fun ρ2 M2 => wipe2 ρ2 is = wipe2 ρ is ∧ M2 = M, rt := D2.rt, bk := fun ρ2 M2 => WS Z tr D2 ρ2 M2, ct := fun ρ2 M2 => wipe2 ρ2 is = wipe2 ρ is ∧ M2 = M } ρ1 M1)
    (hk : WS Z tr D2 (wipe2 ρ is) M) : LoopM Z g ts { nx := fun ρ' M' => WS Z tr D2 ρ' M', rt := D2.rt, bk := D2.bk, ct := D2.ct } Kp items ρ M := by
  refine loop_wordM (fun j ρ2 M2 => wipe2 ρ2 is = wipe2 ρ is ∧ M2 = M) (fun j ρ2 M2 h => by rw [h.2]; exact kp) items 0 ρ M ⟨rfl, rfl⟩ (fun i d ρ2 M2 hi h => ?_) fun ρ2 M2 h => ?_
  · obtain ⟨h1, rfl⟩ := h
    refine wg_env is ?_
    rw [h1]
    exact hs i d hi
  · obtain ⟨h1, rfl⟩ := h
    refine ws_env is ?_
    rw [h1]
    exact hk
theorem comp_mapM {k : List DV → Mu → Prop} (f : DV → DV) (kp : Kp M) : ∀ (items acc : List DV), acc.length + items.length ≤ sizeLine →
    (∀ d ∈ items, ∀ F k2, k2 (f d) M → WG (Z.fr F) g d ρ M fun ρ2 M2 => WT (Z.fr F) tt ρ2 M2 fun b M3 => b = true ∧ WE (Z.fr F) te ρ2 M3 k2) → k (acc ++ items.map f) M → CompM Z g tt te ρ k Kp items acc M
  | [], acc, hz, h, q => by
    refine ⟨kp, ?_⟩
    simpa using q
  | d :: ds, acc, hz, h, q => by
    simp only [List.length_cons] at hz
    refine ⟨kp, by omega, fun F => ?_⟩
    have := h d List.mem_cons_self F (fun y M4 => CompM Z g tt te ρ k Kp ds (acc ++ [y]) M4) (comp_mapM f kp ds (acc ++ [f d]) (by simp; omega) (fun d' hd => h d' (List.mem_cons_of_mem _ hd)) (by simpa using q))
    intro G σ H v P s R E x n
    refine this G σ H v P s R E x fun ρ1 σ1 G1 M1 H1 s1 R1 E1 q1 => n ρ1 σ1 G1 M1 H1 s1 R1 E1 ?_
    exact q1.imp fun b M' ⟨hb, q⟩ => by rw [if_pos hb]; exact q
end
end DL
set_option Elab.async false
set_option linter.all false
set_option maxRecDepth 100000
set_option maxHeartbeats 2000000
/-! DL25: fields by rule, kinds of any thing, names, rows. -/
namespace DL
open PySem PySem.Spec PyProof.Rows L2
theorem k_enumM {X : Cx} {K : PySem.W.Frag} {e : Expr} {ta : TA} {p pos tpos : Pos} {elts : List Expr} {kk : Nat} (eK : X.K = K) (hg : Gl X "enumerate") (hm : X.mg "enumerate" = none) (ha : PA X [e] ta) (hs : starEach [e] X.env = [(false, eval e X.env)] := by rfl) :
    PI X (.Tuple elts kk tpos) (.Call (.Name "enumerate" p) [e] [] pos) (iEnumM K ta) := k_enum eK hg hm ha hs
section
variable {K : PySem.W.Frag} {Z : Zn} {ρ : Ro} {M : Mu} {Q2 : DQ} {d e : DV} {ds es : List DV} {te : TE} {tx : TA} {ts : TS} {tt : TT} {g : TG} {D2 : Ends2}
theorem fld_of {P : DV → Prop} {C : Addr} {ns : List Str} {f : Str} (h1 : ObjOf M d C ns ds) (h2 : Cls K C) (h3 : NoAttr K C f) (h4 : (ns.zip ds).lookup f = some e) (q : P e) : ∃ C ns ds e, ObjOf M d C ns ds ∧ Cls K C ∧ NoAttr K C f ∧ (ns.zip ds).lookup f = some e ∧ P e := ⟨C, ns, ds, e, h1, h2, h3, h4, q⟩
theorem sfld_of {P : Mu → Prop} {a C : Addr} {ns : List Str} {f : Str} (h1 : M a = some (.ins C ns ds)) (h2 : Cls K C) (h3 : NoAttr K C f) (h4 : Nat.ble ns.length 100 = true) (q : P (updM M a (.ins C (putN f ns) (putD f e ns ds)))) :
    ∃ a' C ns ds, DV.r a = .r a' ∧ M a' = some (.ins C ns ds) ∧ Cls K C ∧ NoAttr K C f ∧ ns.length < 1000 ∧ P (updM M a' (.ins C (putN f ns) (putD f e ns ds))) := ⟨a, C, ns, ds, rfl, h1, h2, h3, by have := Nat.le_of_ble_eq_true h4; omega, q⟩
/-! for loops over a list that may change -/
theorem ws_forML (h : WE Z te ρ M fun d M1 => ∃ ds, LstOf M1 d ds ∧ LoopM Z g ts D2 (fun M => LstOf M d ds) ds ρ M1) : WS Z (tFor (iListM Z.W.K te) g ts) D2 ρ M := ws_forM (wim_list h)
theorem ws_forME (h : WA Z tx ρ M fun ds M1 => ∃ d es, ds = [d] ∧ LstOf M1 d es ∧ LoopM Z g ts D2 (fun M => LstOf M d es) (enumD es) ρ M1) : WS Z (tFor (iEnumM Z.W.K tx) g ts) D2 ρ M := ws_forM (wim_enum h)
theorem we_lcML {tf : TE} {is : List Nat} (hg : GOk g is) (h : WE Z te ρ M fun d M1 => ∃ ds, LstOf M1 d ds ∧ CompM Z g tt tf (wipe2 ρ is) (fun acc M2 => Q2 (.lst acc) M2) (fun M => LstOf M d ds) ds [] M1) : WE Z (tLc (iListM Z.W.K te) g tt tf is) ρ M Q2 := we_lcM hg (wim_list h)
theorem compM_nrm {tf : TE} {is : List Nat} {k : List DV → Mu → Prop} {Kp : Mu → Prop} {items acc : List DV} {y : Option DV} {l : Ro} (h : wipe2 ρ is = y :: l) (q : CompM Z g tt tf (y :: l) k Kp items acc M) : CompM Z g tt tf (wipe2 ρ is) k Kp items acc M := h ▸ q
end
/-! ### kinds -/
def lstM (M : Mu) : DV → Option (List DV)
  | .lst ds => some ds
  | .v (.ref a) => match M a with
    | some (.lst ds) => some ds
    | _ => none
  | _ => none
theorem lstM_of {M : Mu} {d : DV} {ds : List DV} : lstM M d = some ds ↔ LstOf M d ds := by
  constructor
  · intro h
    unfold lstM at h
    split at h
    · cases h; exact .inl rfl
    · split at h
      · cases h; exact .inr ⟨_, rfl, by assumption⟩
      · cases h
    · cases h
  · rintro (rfl | ⟨a, rfl, h⟩)
    · rfl
    · simp [lstM, h]
/-- a thing whose kind is known; texts and tuples not too large -/
def Kn (M : Mu) (d : DV) : Prop := (∃ k, kdM M d = some k) ∧ (∀ z, d = .s z → z.length ≤ 1000)
theorem Kn.i {M : Mu} {i : Int} : Kn M (.i i) := ⟨⟨.int, rfl⟩, fun z h => by cases h⟩
theorem Kn.n {M : Mu} : Kn M .n := ⟨⟨.none, rfl⟩, fun z h => by cases h⟩
theorem Kn.b {M : Mu} {b : Bool} : Kn M (.b b) := ⟨⟨.bool, rfl⟩, fun z h => by cases h⟩
theorem Kn.tup {M : Mu} {ds : List DV} : Kn M (.tup ds) := ⟨⟨.tuple, rfl⟩, fun z h => by cases h⟩
theorem Kn.lst {M : Mu} {ds : List DV} : Kn M (.lst ds) := ⟨⟨.list, rfl⟩, fun z h => by cases h⟩
theorem Kn.s {M : Mu} {z : Str} (h : z.length ≤ 1000) : Kn M (.s z) := ⟨⟨.str, rfl⟩, fun z' e => by cases e; exact h⟩
theorem Kn.dk {M : Mu} {ks : List Key} {ds : List DV} : Kn M (.dk ks ds) := ⟨⟨.dict, rfl⟩, fun z h => by cases h⟩
theorem Kn.r {M : Mu} {a : Addr} {ds : List DV} (h : M a = some (.lst ds)) : Kn M (.r a) := ⟨⟨.list, kd_r h⟩, fun z h => by cases h⟩
/-- a list, a tuple: its things are known too -/
def Kn1 (M : Mu) (d : DV) : Prop := Kn M d ∧ (∀ es, LstOf M d es ∨ d = .tup es → es.length ≤ 1000 ∧ ∀ e ∈ es, Kn M e)
def isIntD : DV → Bool
  | .v (.int _) => true
  | _ => false
def isNameD : DV → Bool
  | .v (.str z) => nameB z
  | _ => false
def isRowD (d : DV) (m : Int) : Bool := match d with
  | .tup es => decide (((es.length : Nat) : Int) = m) && es.all isIntD
  | _ => false
def strsD : List DV → List Str
  | [] => []
  | .v (.str z) :: ds => z :: strsD ds
  | _ :: ds => strsD ds
def intsD : List DV → List Int
  | [] => []
  | .v (.int z) :: ds => z :: intsD ds
  | _ :: ds => intsD ds
theorem strsD_map : ∀ zs : List Str, strsD (zs.map DV.s) = zs
  | [] => rfl
  | z :: zs => by simp [strsD, strsD_map zs]
theorem intsD_map : ∀ zs : List Int, intsD (zs.map DV.i) = zs
  | [] => rfl
  | z :: zs => by simp [intsD, intsD_map zs]
theorem isNameD_s {d : DV} (h : isNameD d = true) : ∃ z, d = .s z ∧ nameB z = true := by
  unfold isNameD at h
  split at h
  · exact ⟨_, rfl, h⟩
  · cases h
theorem isIntD_i {d : DV} (h : isIntD d = true) : ∃ i, d = .i i := by
  unfold isIntD at h
  split at h
  · exact ⟨_, rfl⟩
  · cases h
theorem names_map : ∀ {ds : List DV}, ds.all isNameD = true → ds = (strsD ds).map DV.s
  | [], _ => rfl
  | d :: ds, h => by
    simp only [List.all_cons, Bool.and_eq_true] at h
    obtain ⟨z, rfl, _⟩ := isNameD_s h.1
    rw [strsD, List.map_cons, ← names_map h.2]
theorem ints_map : ∀ {ds : List DV}, ds.all isIntD = true → ds = (intsD ds).map DV.i
  | [], _ => rfl
  | d :: ds, h => by
    simp only [List.all_cons, Bool.and_eq_true] at h
    obtain ⟨z, rfl⟩ := isIntD_i h.1
    rw [intsD, List.map_cons, ← ints_map h.2]
theorem isRowD_of {d : DV} {m : Int} (h : isRowD d m = true) : ∃ r : List Int, d = rowD r ∧ ((r.length : Nat) : Int) = m := by
  unfold isRowD at h
  split at h
  · rename_i es
    simp only [Bool.and_eq_true, decide_eq_true_eq] at h
    refine ⟨intsD es, by rw [rowD, ← ints_map h.2], ?_⟩
    rw [← h.1]
    conv => rhs; rw [ints_map h.2]
    rw [List.length_map]
  · cases h
theorem isRowD_row {r : List Int} : isRowD (rowD r) ((r.length : Nat) : Int) = true := by
  have : (r.map DV.i).all isIntD = true := by simp [isIntD]
  simp [isRowD, this]
def okNames (zs : List Str) : Prop := zs.length ≤ 8 ∧ (∀ z ∈ zs, nameB z = true) ∧ zs.Nodup
instance (zs : List Str) : Decidable (okNames zs) := by unfold okNames; infer_instance
def areCols (ds : List DV) : Bool := decide (ds.length ≤ 8) && (ds.all isNameD && decide (strsD ds).Nodup)
theorem name_len {z : Str} (h : nameB z = true) : z.length ≤ 8 := by
  unfold nameB at h
  simp only [Bool.and_eq_true, decide_eq_true_eq] at h
  omega
theorem areCols_names {zs : List Str} (h : okNames zs) : areCols (zs.map DV.s) = true := by
  have : (zs.map DV.s).all isNameD = true := by
    rw [List.all_eq_true]
    intro d hd
    obtain ⟨z, hz, rfl⟩ := List.mem_map.mp hd
    exact h.2.1 z hz
  simp [areCols, this, strsD_map, h.1, h.2.2]
theorem areCols_of {ds : List DV} (h : areCols ds = true) : ∃ zs, ds = zs.map DV.s ∧ okNames zs := by
  unfold areCols at h
  simp only [Bool.and_eq_true, decide_eq_true_eq] at h
  obtain ⟨h1, h2, h3⟩ := h
  have e := names_map h2
  refine ⟨strsD ds, e, ?_, fun z hz => ?_, h3⟩
  · have := congrArg List.length e
    rw [List.length_map] at this
    omega
  · have hz' : DV.s z ∈ ds := by rw [e]; exact List.mem_map.mpr ⟨z, hz, rfl⟩
    exact List.all_eq_true.mp h2 _ hz'
/-- the columns that a thing is, if it is such -/
def colsM (M : Mu) (d : DV) : Option (List Str) := match lstM M d with
  | some ds => if areCols ds = true then some (strsD ds) else none
  | none => none
theorem colsM_some {M : Mu} {d : DV} {zs : List Str} (h : colsM M d = some zs) : LstOf M d (zs.map DV.s) ∧ okNames zs := by
  unfold colsM at h
  split at h
  · rename_i ds e
    split at h
    · rename_i hc
      cases h
      obtain ⟨zs, rfl, ho⟩ := areCols_of hc
      rw [strsD_map]
      exact ⟨lstM_of.mp e, ho⟩
    · cases h
  · cases h
theorem colsM_ok {M : Mu} {d : DV} {zs : List Str} (l : LstOf M d (zs.map DV.s)) (h : okNames zs) : colsM M d = some zs := by
  unfold colsM
  rw [lstM_of.mpr l]
  simp only [areCols_names h, if_true, strsD_map]
/-- the number of the first thing that is no row -/
def badAt (m : Int) : List DV → Nat → Option Nat
  | [], _ => none
  | d :: ds, j => if isRowD d m = true then badAt m ds (j + 1) else some j
def rowsD : List DV → List (List Int)
  | [] => []
  | .tup es :: ds => intsD es :: rowsD ds
  | _ :: ds => rowsD ds
theorem rowsD_map : ∀ rows : List (List Int), rowsD (rows.map rowD) = rows
  | [] => rfl
  | r :: rows => by simp [rowsD, rowsD_map rows, intsD_map]
theorem badAt_none {m : Int} : ∀ {ds : List DV} {j : Nat}, badAt m ds j = none → ds = (rowsD ds).map rowD ∧ ∀ r ∈ rowsD ds, ((r.length : Nat) : Int) = m
  | [], j, h => ⟨rfl, by simp [rowsD]⟩
  | d :: ds, j, h => by
    unfold badAt at h
    split at h
    · rename_i hr
      obtain ⟨r, rfl, hl⟩ := isRowD_of hr
      obtain ⟨h1, h2⟩ := badAt_none h
      have e : rowsD (rowD r :: ds) = r :: rowsD ds := by simp [rowsD, intsD_map]
      rw [e, List.map_cons, ← h1]
      exact ⟨rfl, fun r' hr' => by
        rcases List.mem_cons.mp hr' with rfl | hr'
        · exact hl
        · exact h2 r' hr'⟩
    · cases h
theorem badAt_rows {m : Int} : ∀ {rows : List (List Int)} {j : Nat}, (∀ r ∈ rows, ((r.length : Nat) : Int) = m) → badAt m (rows.map rowD) j = none
  | [], j, h => rfl
  | r :: rows, j, h => by
    rw [List.map_cons, badAt, if_pos, badAt_rows fun r' hr' => h r' (List.mem_cons_of_mem _ hr')]
    rw [← h r List.mem_cons_self]
    exact isRowD_row
/-- what comes of rows told: the first that is none, or the rows -/
def rowsM (M : Mu) (m : Int) (d : DV) : Nat ⊕ List (List Int) := match d with
  | .v .non => .inr []
  | d => match lstM M d with
    | some ds => match badAt m ds 0 with
      | some j => .inl j
      | none => .inr (rowsD ds)
    | none => .inl 0
theorem rowsM_non {M : Mu} {m : Int} : rowsM M m .n = .inr [] := rfl
theorem rowsM_ok {M : Mu} {m : Int} {d : DV} {rows : List (List Int)} (l : LstOf M d (rows.map rowD)) (h : ∀ r ∈ rows, ((r.length : Nat) : Int) = m) : rowsM M m d = .inr rows := by
  unfold rowsM
  split
  · rcases l with l | ⟨a, l, _⟩ <;> cases l
  · rw [lstM_of.mpr l]
    simp only [badAt_rows h, rowsD_map]
end DL
set_option Elab.async false
set_option linter.all false
set_option maxRecDepth 100000
set_option maxHeartbeats 2000000
/-! DL26: loops with a word by the turn; what stands beside. -/
namespace DL
open PySem PySem.Spec PyProof.Rows L2
theorem k_sfld {X : Cx} {K : PySem.W.Frag} {o value : Expr} {ta tv : TE} {f : Str} {pos pos' : Pos} (eK : X.K = K) (ha : PE X o ta) (hv : PE X value tv) (hs : swapsWith value (some (.Attribute o f pos')) pos.line X.env = pure false) : PS X (.Assign [.Attribute o f pos'] value pos) (sFld K ta tv f) := by subst eK; exact ps_fld ha hv hs
section
variable {Z : Zn} {ρ : Ro} {M : Mu} {ts : TS} {D2 : Ends2} {d : DV} {ds : List DV} {g : TG} {Kp : Mu → Prop}
theorem loop_KI {tr : TS} (is : List Nat) (I : Nat → Prop) {items : List DV} (kp : Kp M) (h0 : I 0)
    (hs : ∀ (i : Nat) d, items[i]? = some d → I i → WG Z g d (wipe2 ρ is) M fun ρ1 M1 => WS Z ts { nx := fun ρ2 M2 => wipe2 ρ2 is = wipe2 ρ is ∧ M2 = M ∧ I (i + 1), rt := D2.rt, bk := fun ρ2 M2 => WS Z tr D2 ρ2 M2, ct := fun ρ2 M2 => wipe2 ρ2 is = wipe2 ρ is ∧ M2 = M ∧ I (i + 1) } ρ1 M1)
    (hk : I items.length → WS Z tr D2 (wipe2 ρ is) M) : LoopM Z g ts { nx := fun ρ' M' => WS Z tr D2 ρ' M', rt := D2.rt, bk := D2.bk, ct := D2.ct } Kp items ρ M := by
  refine loop_wordM (fun j ρ2 M2 => wipe2 ρ2 is = wipe2 ρ is ∧ M2 = M ∧ I j) (fun j ρ2 M2 h => by rw [h.2.1]; exact kp) items 0 ρ M ⟨rfl, rfl, h0⟩ (fun i d ρ2 M2 hi h => ?_) fun ρ2 M2 h => ?_
  · rw [Nat.zero_add] at h ⊢
    obtain ⟨h1, rfl, h2⟩ := h
    refine wg_env is ?_
    rw [h1]
    exact hs i d hi h2
  · rw [Nat.zero_add] at h
    obtain ⟨h1, rfl, h2⟩ := h
    refine ws_env is ?_
    rw [h1]
    exact hk h2
/-- .. over a frozen list -/
theorem loop_KF {tr : TS} (is : List Nat) (I : Nat → Prop) {items : List DV} (h0 : I 0)
    (hs : ∀ (i : Nat) d, items[i]? = some d → I i → WG Z g d (wipe2 ρ is) M fun ρ1 M1 => WS Z ts { nx := fun ρ2 M2 => wipe2 ρ2 is = wipe2 ρ is ∧ M2 = M ∧ I (i + 1), rt := D2.rt, bk := fun ρ2 M2 => WS Z tr D2 ρ2 M2, ct := fun ρ2 M2 => wipe2 ρ2 is = wipe2 ρ is ∧ M2 = M ∧ I (i + 1) } ρ1 M1)
    (hk : I items.length → WS Z tr D2 (wipe2 ρ is) M) : Loop Z g ts { nx := fun ρ' M' => WS Z tr D2 ρ' M', rt := D2.rt, bk := D2.bk, ct := D2.ct } items ρ M := by
  refine loop_word (fun j ρ2 M2 => wipe2 ρ2 is = wipe2 ρ is ∧ M2 = M ∧ I j) items 0 ρ M ⟨rfl, rfl, h0⟩ (fun i d ρ2 M2 hi h => ?_) fun ρ2 M2 h => ?_
  · rw [Nat.zero_add] at h ⊢
    obtain ⟨h1, rfl, h2⟩ := h
    refine wg_env is ?_
    rw [h1]
    exact hs i d hi h2
  · rw [Nat.zero_add] at h
    obtain ⟨h1, rfl, h2⟩ := h
    refine ws_env is ?_
    rw [h1]
    exact hk h2
theorem ws_cut (I : Ro → Mu → Prop) (h1 : WS Z ts { D2 with nx := I } ρ M) (h2 : ∀ ρ' M', I ρ' M' → D2.nx ρ' M') : WS Z ts D2 ρ M := h1.imp h2 (fun _ _ h => h) (fun _ _ h => h) (fun _ _ h => h)
theorem we_callX {sp2 : Sp2} {E : XK} {E2 : XK2} {tx : TA} {Q2 : DQ} (hx : XcOk Z E2 E) (h : WA Z tx ρ M fun ds M1 => Ask (sp2 ds M1 Q2 E2)) : WE Z (tCall (lift Z.W sp2) [] E tx) ρ M Q2 := we_call0 hx h
theorem we_callXD {sp2 : Sp2} {E : XK} {E2 : XK2} {dvs : List V} {tx : TA} {Q2 : DQ} (hx : XcOk Z E2 E) (h : WA Z tx ρ M fun ds M1 => Ask (sp2 (ds ++ dvs.map DV.v) M1 Q2 E2)) : WE Z (tCall (lift Z.W sp2) dvs E tx) ρ M Q2 := we_call hx h
theorem we_methX {sp2 : Sp2} {E : XK} {E2 : XK2} {C : Addr} {m : Str} {ta : TE} {tx : TA} {Q2 : DQ} (hx : XcOk Z E2 E) (h : WE Z ta ρ M fun d M1 => Obj M1 d C m ∧ WA Z tx ρ M1 fun es M2 => Ask (sp2 (d :: es) M2 Q2 E2)) : WE Z (tMeth C m (lift Z.W sp2) [] E ta tx) ρ M Q2 := we_meth0 hx h
theorem we_methXD {sp2 : Sp2} {E : XK} {E2 : XK2} {C : Addr} {m : Str} {dvs : List V} {ta : TE} {tx : TA} {Q2 : DQ} (hx : XcOk Z E2 E) (h : WE Z ta ρ M fun d M1 => Obj M1 d C m ∧ WA Z tx ρ M1 fun es M2 => Ask (sp2 (d :: (es ++ dvs.map DV.v)) M2 Q2 E2)) : WE Z (tMeth C m (lift Z.W sp2) dvs E ta tx) ρ M Q2 := we_meth hx h
theorem we_callY {sp2 : Sp2} {W2 : WX2} {Wx : WX} {tx : TA} {Q2 : DQ} (hw : WxOk Z W2 Wx) (h : WA Z tx ρ M fun ds M1 => Ask (sp2 ds M1 Q2 (fun C ns es M' => W2 C ns es ρ M'))) : WE Z (tCallS (lift Z.W sp2) (L2.WE Wx) tx) ρ M Q2 := we_callS hw h
theorem XcOk.weak {E2 : XK2} {E : XK} (hx : XcOk Z E2 E) : XcOk Z (fun C ns ds M => ∃ M', MLe M M' ∧ E2 C ns ds M') E := fun C ns ds d G' M' H' s R x ⟨M2, l, q⟩ => hx C ns ds d G' M2 H' s (R.weak l) x q
theorem MLe.dropN {x : Addr} {o : MO} (h : M x = none) : MLe (updM M x o) M := fun b => by
  by_cases e : b = x
  · subst e; rw [h]; exact .drop
  · rw [updM_ne e]; exact .rf
theorem LstOf.upd {x : Addr} {o o' : MO} (h : M x = some o) (ho : ∀ ds, o ≠ .lst ds) (l : LstOf M d ds) : LstOf (updM M x o') d ds := by
  rcases l with rfl | ⟨a, rfl, hm⟩
  · exact .inl rfl
  · refine .inr ⟨a, rfl, ?_⟩
    have : a ≠ x := fun e => by
      rw [e, h] at hm
      cases hm
      exact ho _ rfl
    rw [updM_ne this]
    exact hm
theorem LstOf.updN {x : Addr} {o' : MO} (h : M x = none) (l : LstOf M d ds) : LstOf (updM M x o') d ds := by
  rcases l with rfl | ⟨a, rfl, hm⟩
  · exact .inl rfl
  · refine .inr ⟨a, rfl, ?_⟩
    rw [updM_ne (fun e => by rw [e, h] at hm; cases hm)]
    exact hm
end
theorem lstM_new {M : Mu} {x : Addr} {o : MO} (h : M x = none) (ho : ∀ ds, o ≠ .lst ds) (d : DV) : lstM (updM M x o) d = lstM M d := by
  cases e : lstM M d with
  | some ds => exact lstM_of.mpr ((lstM_of.mp e).updN h)
  | none =>
    cases e2 : lstM (updM M x o) d with
    | none => rfl
    | some ds =>
      rcases lstM_of.mp e2 with rfl | ⟨a, rfl, hm⟩
      · cases e
      · by_cases q : a = x
        · subst q
          rw [updM_same] at hm
          cases hm
          exact absurd rfl (ho _)
        · rw [updM_ne q] at hm
          have := lstM_of.mpr (show LstOf M (.r a) ds from .inr ⟨a, rfl, hm⟩)
          rw [this] at e
          cases e
theorem colsM_new {M : Mu} {x : Addr} {o : MO} (h : M x = none) (ho : ∀ ds, o ≠ .lst ds) (d : DV) : colsM (updM M x o) d = colsM M d := by
  unfold colsM
  rw [lstM_new h ho]
theorem rowsM_new {M : Mu} {x : Addr} {o : MO} (h : M x = none) (ho : ∀ ds, o ≠ .lst ds) (m : Int) (d : DV) : rowsM (updM M x o) m d = rowsM M m d := by
  unfold rowsM
  split
  · rfl
  · rw [lstM_new h ho]
theorem Kn.new {M : Mu} {x : Addr} {o : MO} (h : M x = none) {d : DV} (k : Kn M d) : Kn (updM M x o) d := by
  obtain ⟨⟨k, hk⟩, hz⟩ := k
  refine ⟨⟨k, ?_⟩, hz⟩
  rw [← hk]
  cases d with
  | v y =>
    cases y with
    | ref a =>
      by_cases e : a = x
      · subst e
        simp [kdM, h] at hk
      · simp only [kdM, updM_ne e]
    | _ => rfl
  | _ => rfl
theorem badAt_some {m : Int} : ∀ {ds : List DV} {i j : Nat} {d : DV}, (∀ (k : Nat) d, k < i → ds[k]? = some d → isRowD d m = true) → ds[i]? = some d → isRowD d m = false → badAt m ds j = some (j + i)
  | [], i, j, d, h, e, hb => by simp at e
  | x :: xs, 0, j, d, h, e, hb => by
    simp at e
    subst e
    unfold badAt
    rw [hb]
    rfl
  | x :: xs, i + 1, j, d, h, e, hb => by
    unfold badAt
    rw [if_pos (h 0 x (by omega) rfl), badAt_some (i := i) (fun k d hk he => h (k + 1) d (by omega) (by simpa using he)) (by simpa using e) hb]
    congr 1
    omega
theorem badAt_all {m : Int} : ∀ {ds : List DV} {j : Nat}, (∀ (k : Nat) d, k < ds.length → ds[k]? = some d → isRowD d m = true) → badAt m ds j = none
  | [], j, h => rfl
  | x :: xs, j, h => by
    unfold badAt
    rw [if_pos (h 0 x (by simp) rfl)]
    exact badAt_all fun k d hk he => h (k + 1) d (by simp; omega) (by simpa using he)
end DL
set_option Elab.async false
set_option linter.all false
set_option maxRecDepth 100000
set_option maxHeartbeats 2000000
/-! DL27: comprehensions over typed items; names in lists. -/
namespace DL
open PySem PySem.Spec PyProof.Rows L2
section
variable {Z : Zn} {ρ : Ro} {M : Mu} {g : TG} {tt : TT} {te : TE} {Q2 : DQ} {d : DV} {Kp : Mu → Prop} {k : List DV → Mu → Prop}
theorem comp_mapT {α : Type} (e f : α → DV) : ∀ (xs : List α) (acc : List DV), acc.length + xs.length ≤ sizeLine →
    (∀ x ∈ xs, ∀ F k2, k2 (f x) M → WG (Z.fr F) g (e x) ρ M fun ρ2 M2 => WT (Z.fr F) tt ρ2 M2 fun b M3 => b = true ∧ WE (Z.fr F) te ρ2 M3 k2) → k (acc ++ xs.map f) M → Comp Z g tt te ρ k (xs.map e) acc M
  | [], acc, hz, h, q => by
    show k acc M
    simpa using q
  | x :: xs, acc, hz, h, q => by
    simp only [List.length_cons] at hz
    refine ⟨by omega, fun F => ?_⟩
    have := h x List.mem_cons_self F (fun y M4 => Comp Z g tt te ρ k (xs.map e) (acc ++ [y]) M4) (comp_mapT e f xs (acc ++ [f x]) (by simp; omega) (fun d' hd => h d' (List.mem_cons_of_mem _ hd)) (by simpa using q))
    intro G σ H v P s R E x n
    refine this G σ H v P s R E x fun ρ1 σ1 G1 M1 H1 s1 R1 E1 q1 => n ρ1 σ1 G1 M1 H1 s1 R1 E1 ?_
    exact q1.imp fun b M' ⟨hb, q⟩ => by rw [if_pos hb]; exact q
theorem comp_mapTM {α : Type} (e f : α → DV) (kp : Kp M) : ∀ (xs : List α) (acc : List DV), acc.length + xs.length ≤ sizeLine →
    (∀ x ∈ xs, ∀ F k2, k2 (f x) M → WG (Z.fr F) g (e x) ρ M fun ρ2 M2 => WT (Z.fr F) tt ρ2 M2 fun b M3 => b = true ∧ WE (Z.fr F) te ρ2 M3 k2) → k (acc ++ xs.map f) M → CompM Z g tt te ρ k Kp (xs.map e) acc M
  | [], acc, hz, h, q => ⟨kp, by simpa using q⟩
  | x :: xs, acc, hz, h, q => by
    simp only [List.length_cons] at hz
    refine ⟨kp, by omega, fun F => ?_⟩
    have := h x List.mem_cons_self F (fun y M4 => CompM Z g tt te ρ k Kp (xs.map e) (acc ++ [y]) M4) (comp_mapTM e f kp xs (acc ++ [f x]) (by simp; omega) (fun d' hd => h d' (List.mem_cons_of_mem _ hd)) (by simpa using q))
    intro G σ H v P s R E x n
    refine this G σ H v P s R E x fun ρ1 σ1 G1 M1 H1 s1 R1 E1 q1 => n ρ1 σ1 G1 M1 H1 s1 R1 E1 ?_
    exact q1.imp fun b M' ⟨hb, q⟩ => by rw [if_pos hb]; exact q
/-- with a test: p, a truth of the item -/
theorem comp_filT {α : Type} (e f : α → DV) (p : α → Bool) : ∀ (xs : List α) (acc : List DV), acc.length + xs.length ≤ sizeLine →
    (∀ x ∈ xs, ∀ F k2, (p x = true → k2 (f x) M) → WG (Z.fr F) g (e x) ρ M fun ρ2 M2 => WT (Z.fr F) tt ρ2 M2 fun b M3 => b = p x ∧ M3 = M ∧ (p x = true → WE (Z.fr F) te ρ2 M k2)) → k (acc ++ (xs.filter p).map f) M → Comp Z g tt te ρ k (xs.map e) acc M
  | [], acc, hz, h, q => by
    show k acc M
    simpa using q
  | x :: xs, acc, hz, h, q => by
    simp only [List.length_cons] at hz
    refine ⟨by omega, fun F => ?_⟩
    have := h x List.mem_cons_self F (fun y M4 => Comp Z g tt te ρ k (xs.map e) (acc ++ [y]) M4) (fun hp => comp_filT e f p xs (acc ++ [f x]) (by simp; omega) (fun d' hd => h d' (List.mem_cons_of_mem _ hd)) (by simpa [List.filter_cons, hp] using q))
    intro G σ H v P s R E y n
    refine this G σ H v P s R E y fun ρ1 σ1 G1 M1 H1 s1 R1 E1 q1 => n ρ1 σ1 G1 M1 H1 s1 R1 E1 ?_
    refine q1.imp fun b M' ⟨hb, hM, q2⟩ => ?_
    rw [hM]
    cases hp : p x with
    | true => rw [hb, hp]; exact q2 hp
    | false =>
      rw [hb, hp]
      exact comp_filT e f p xs acc (by omega) (fun d' hd => h d' (List.mem_cons_of_mem _ hd)) (by simpa [List.filter_cons, hp] using q)
/-! ### names in a list -/
theorem strs_vs (zs : List Str) : zs.map DV.s = (zs.map V.str).map DV.v := by simp [Function.comp_def]
theorem flat_strs (zs : List Str) : (zs.map V.str).all flatV = true := by simp [flatV]
theorem eqV_str (x y : Str) : eqV (.str x) (.str y) = decide (x = y) := by
  show (x == y) = decide (x = y)
  by_cases h : x = y
  · subst h; simp
  · rw [decide_eq_false h]; simpa using h
theorem inV_str {z : Str} {zs : List Str} : inV (.str z) (zs.map V.str) = decide (z ∈ zs) := by
  unfold inV
  induction zs with
  | nil => rfl
  | cons x xs ih =>
    rw [List.map_cons, List.any_cons, ih, eqV_str]
    by_cases h : x = z
    · subst h; simp
    · have h' : z ≠ x := fun e => h e.symm
      simp [h, h']
theorem wr_inS {z : Str} {zs : List Str} (l : LstOf M d (zs.map DV.s)) (h : Q2 (.b (decide (z ∈ zs))) M) : WR Z (rInA Z.W.K) (.s z) d M Q2 :=
  wr_inF (p := .str z) (xs := zs.map V.str) (.inl (by rw [← strs_vs]; exact l)) rfl (flat_strs zs) (by rw [inV_str]; exact h)
theorem wr_niS {z : Str} {zs : List Str} (l : LstOf M d (zs.map DV.s)) (h : Q2 (.b (!decide (z ∈ zs))) M) : WR Z (rNiA Z.W.K) (.s z) d M Q2 :=
  wr_niF (p := .str z) (xs := zs.map V.str) (.inl (by rw [← strs_vs]; exact l)) rfl (flat_strs zs) (by rw [inV_str]; exact h)
theorem wr_inSL {z : Str} {zs : List Str} (h : Q2 (.b (decide (z ∈ zs))) M) : WR Z (rInA Z.W.K) (.s z) (.lst (zs.map DV.s)) M Q2 := wr_inS (.inl rfl) h
theorem wr_niSL {z : Str} {zs : List Str} (h : Q2 (.b (!decide (z ∈ zs))) M) : WR Z (rNiA Z.W.K) (.s z) (.lst (zs.map DV.s)) M Q2 := wr_niS (.inl rfl) h
/-- the place of a name -/
def posS (z : Str) : List Str → Nat
  | [] => 0
  | x :: xs => if x = z then 0 else posS z xs + 1
theorem posS_get {z : Str} : ∀ {zs : List Str}, z ∈ zs → zs[posS z zs]? = some z
  | [], h => by simp at h
  | x :: xs, h => by
    unfold posS
    by_cases e : x = z
    · rw [if_pos e]; simp [e]
    · rw [if_neg e]
      have : z ∈ xs := by
        rcases List.mem_cons.mp h with h | h
        · exact absurd h.symm e
        · exact h
      simpa using posS_get this
theorem posS_lt {z : Str} {zs : List Str} (h : z ∈ zs) : posS z zs < zs.length := (List.getElem?_eq_some_iff.mp (posS_get h)).1
theorem posS_first {z : Str} : ∀ {zs : List Str} {m : Nat}, m < posS z zs → zs[m]? ≠ some z
  | [], m, h => by simp [posS] at h
  | x :: xs, m, h => by
    unfold posS at h
    by_cases e : x = z
    · rw [if_pos e] at h; omega
    · rw [if_neg e] at h
      cases m with
      | zero => simpa using e
      | succ m => simpa using posS_first (zs := xs) (m := m) (by omega)
theorem posS_eq {z : Str} {zs : List Str} {j : Nat} (hn : zs.Nodup) (h : zs[j]? = some z) : posS z zs = j := by
  have hz := List.mem_of_getElem? h
  exact (List.getElem?_inj (posS_lt hz) hn).mp ((posS_get hz).trans h.symm)
theorem wm_indexS {z : Str} {zs : List Str} (l : LstOf M d (zs.map DV.s)) (hz : z ∈ zs) (h : Q2 (.i (posS z zs : Nat)) M) : WM Z (rIndex Z.W.K) d [.s z] M Q2 :=
  wm_index (ys := zs.map V.str) (p := .str z) (z := .str z) (j := posS z zs) (by rw [← strs_vs]; exact l) rfl (flat_strs zs) (by rw [List.getElem?_map, posS_get hz]; rfl) (by rw [eqV_str]; exact decide_eq_true rfl) (fun m z' hm hz' => by
    rw [List.getElem?_map] at hz'
    cases e : zs[m]? with
    | none => rw [e] at hz'; cases hz'
    | some y =>
      rw [e] at hz'
      cases hz'
      rw [eqV_str]
      refine decide_eq_false fun e2 => ?_
      subst e2
      exact posS_first hm e) h
end
end DL
set_option Elab.async false
set_option linter.all false
set_option maxRecDepth 100000
set_option maxHeartbeats 2000000
/-! DL28: methods and makings within a try. -/
namespace DL
open PySem PySem.Spec PyProof.Rows L2
section
variable {X : Cx} {CX : CXT} {k : Nat} {f C : Addr} {fd : FuncData} {ps : List Str} {sp : Sp} {dvs : List V} {vls : List Value} {EE : L2.St → XK} {x m : Str} {p pos apos : Pos} {e o : Expr} {es : List Expr} {ta : TE} {t : TA}
def tMethY (C : Addr) (m : Str) (sp : Sp) (dvs : List V) (EE : L2.St → XK) (ta : TE) (t : TA) : TE := fun σ H Q => ta σ H fun y H1 => ∃ b dx fs, y = .ref b ∧ H1 b = some (.ins C dx fs) ∧ fs.lookup m = none ∧ t σ H1 fun vs H2 => sp (.ref b :: (vs ++ dvs)) H2 Q (EE σ)
theorem pe_methY {pl : Sem Bool} (he : PE X o ta) (c : Cls X.K C) (hm : Meth X.K C m f) (F : FnOk X.prog X.w X.K X.mg X.base CX k f fd ps sp) (hr : Room k X.A) (hb : Binds X.K fd ps vls) (hd : Vals dvs vls) (hx : ∀ σ, PassesAt CX X σ (EE σ)) (ha : PA X (e :: es) t)
    (h1 : starEach (e :: es) X.env = (false, eval e X.env) :: starEach es X.env := by rfl) (h2 : (backTo pos (starEach es X.env)).any (·.1) = false := by rfl)
    (ht : eval (.Call (.Attribute o m apos) (e :: es) [] pos) X.env = (do let ov ← eval o X.env; standAt apos.atName; let (f, first) ← holding [ov] (getMethod ov m pl); callWith pos f first (backTo pos (starEach (e :: es) X.env)) (backToKw pos (keywordEach [] X.env))) := by rfl) :
    PE X (.Call (.Attribute o m apos) (e :: es) [] pos) (tMethY C m sp dvs EE ta t) := ⟨fun pins s σ H Q I h => by
  refine PySem.W.methodCall_KW (pl := pl) (thn (he.run pins s σ H _ I h) fun u s1 ⟨y, H1, I1, ry, b, dx, fs, ey, eb, l, q⟩ => ?_) ht
  subst ey
  obtain rfl : u = Value.ref b := ry
  refine getmeth_ok I1 eb c hm l (PySem.W.callWith_K (first := [.ref b]) (h₀ := X.base) I.ok.mod.kin hm.kp (thn (ha.run pos pins s1 σ H1 _ I1 q) fun us s2 ⟨vs, H2, I2, r, q2⟩ => ⟨I2.kIn, ?_⟩) h1 h2)
  exact run_fnSD (us := .ref b :: us) (vs := .ref b :: vs) F hr hb hd (hx σ) I2 (.cons rfl r) q2⟩
theorem pe_methY0 {pl : Sem Bool} (he : PE X o ta) (c : Cls X.K C) (hm : Meth X.K C m f) (F : FnOk X.prog X.w X.K X.mg X.base CX k f fd ps sp) (hr : Room k X.A) (hb : Binds X.K fd ps vls) (hd : Vals dvs vls) (hx : ∀ σ, PassesAt CX X σ (EE σ))
    (ht : eval (.Call (.Attribute o m apos) [] [] pos) X.env = (do let ov ← eval o X.env; standAt apos.atName; let (f, first) ← holding [ov] (getMethod ov m pl); callWith pos f first (backTo pos (starEach [] X.env)) (backToKw pos (keywordEach [] X.env))) := by rfl) :
    PE X (.Call (.Attribute o m apos) [] [] pos) (tMethY C m sp dvs EE ta tNil) := ⟨fun pins s σ H Q I h => by
  refine PySem.W.methodCall_KW (pl := pl) (thn (he.run pins s σ H _ I h) fun u s1 ⟨y, H1, I1, ry, b, dx, fs, ey, eb, l, q⟩ => ?_) ht
  subst ey
  obtain rfl : u = Value.ref b := ry
  exact getmeth_ok I1 eb c hm l (PySem.W.callWith_K0 (first := [.ref b]) I1.kIn hm.kp (run_fnSD (us := [.ref b]) (vs := [.ref b]) F hr hb hd (hx σ) I1 (.cons rfl .nil) q))⟩
def tMakeY (C : Addr) (sp : Sp) (dvs : List V) (EE : L2.St → XK) (t : TA) : TE := fun σ H Q => t σ H fun vs H1 => ∀ y dx, H1 y = none → H1 dx = none → dx ≠ y → sp (.ref y :: (vs ++ dvs)) (upd (upd H1 dx (.own y)) y (.ins C dx [])) (fun v H2 => v = .non ∧ Q (.ref y) H2) (EE σ)
end
section
variable {Z : Zn} {ρ : Ro} {M : Mu} {tx : TA} {ta : TE} {Q2 : DQ} {sp2 : Sp2} {dvs : List V} {W2 : WX2} {Wx : WX}
theorem we_methY {C : Addr} {m : Str} (hw : WxOk Z W2 Wx) (h : WE Z ta ρ M fun d M1 => Obj M1 d C m ∧ WA Z tx ρ M1 fun es M2 => Ask (sp2 (d :: (es ++ dvs.map DV.v)) M2 Q2 (fun C ns es M' => W2 C ns es ρ M'))) :
    WE Z (tMethY C m (lift Z.W sp2) dvs (L2.WE Wx) ta tx) ρ M Q2 := fun G σ H Q s R E r =>
  h G σ H _ s R E fun d v G1 M1 H1 s1 R1 x ⟨⟨ns, ds, o, k⟩, q⟩ => by
    obtain ⟨b, dx, xs, e1, e2, e3, e4⟩ := obj_at R1 x o
    subst e1
    refine ⟨b, dx, _, rfl, e2, zip_none e4 k, q G1 σ H1 _ (s.trans s1) R1 (E.mono s1) fun es vs G2 M2 H2 s2 R2 xs q2 => ?_⟩
    refine ⟨G2, Z.F, _, M2, Q2, _, R2, datL_cons' (x.mono s2) (xs.append (datL_v dvs)), q2, r.mono (s1.trans s2), fun C ns es d' G' M' H' s' R' x' q' => ?_⟩
    exact hw C ns es d' ρ σ G' M' H' (((s.trans s1).trans s2).trans s') R' (E.mono ((s1.trans s2).trans s')) x' q'
theorem we_methY0 {C : Addr} {m : Str} (hw : WxOk Z W2 Wx) (h : WE Z ta ρ M fun d M1 => Obj M1 d C m ∧ WA Z tx ρ M1 fun es M2 => Ask (sp2 (d :: es) M2 Q2 (fun C ns es M' => W2 C ns es ρ M'))) :
    WE Z (tMethY C m (lift Z.W sp2) [] (L2.WE Wx) ta tx) ρ M Q2 := we_methY hw (h.imp fun d M1 q => ⟨q.1, q.2.imp fun es M2 q => by rw [List.map_nil, List.append_nil]; exact q⟩)
end
end DL
set_option Elab.async false
set_option linter.all false
set_option maxRecDepth 100000
set_option maxHeartbeats 2000000
/-! DL29: lists of one kind: lengths, slices, sums. -/
namespace DL
open PySem PySem.Spec PyProof.Rows L2
/-- a statement at which a walk stands still -/
def tStop (t : TS) : TS := t
theorem ps_stop {X : Cx} {s : Stmt} {t : TS} (h : PS X s t) : PS X s (tStop t) := h
theorem ws_stopC {Z : Zn} {ρ : Ro} {M : Mu} {t : TS} {D2 : Ends2} (I : Ro → Mu → Prop) (h1 : WS Z t { D2 with nx := I } ρ M) (h2 : ∀ ρ' M', I ρ' M' → D2.nx ρ' M') : WS Z (tStop t) D2 ρ M := ws_cut I h1 h2
/-- .. the slots as they are but for some, the store the same -/
theorem ws_stopK {Z : Zn} {ρ : Ro} {M : Mu} {t tr : TS} {D2 : Ends2} (is : List Nat) (J : Mu → Prop) (h1 : WS Z t { nx := fun ρ' M' => wipe2 ρ' is = wipe2 ρ is ∧ J M', rt := D2.rt, bk := D2.bk, ct := D2.ct } ρ M) (h2 : ∀ M', J M' → WS Z tr D2 (wipe2 ρ is) M') :
    WS Z (tStop t) { nx := fun ρ' M' => WS Z tr D2 ρ' M', rt := D2.rt, bk := D2.bk, ct := D2.ct } ρ M := ws_cut (fun ρ' M' => wipe2 ρ' is = wipe2 ρ is ∧ J M') h1 fun ρ' M' h => ws_env is (by rw [h.1]; exact h2 M' h.2)
theorem sIx_none0 {n : Nat} : HT.sIx n 0 none = 0 := rfl
theorem sIx_noneN {n : Nat} : HT.sIx n n none = n := rfl
theorem sIx_nat {n d k : Nat} : HT.sIx n d (some (k : Int)) = min k n := by
  unfold HT.sIx
  simp only
  split <;> omega
theorem sIx_neg {n d k : Nat} (h : 0 < k) : HT.sIx n d (some (-(k : Int))) = n - k := by
  unfold HT.sIx
  simp only
  split <;> omega
theorem cut_map {α β : Type} (f : α → β) (xs : List α) (lo hi : Option Int) : cutD (xs.map f) lo hi = (cutD xs lo hi).map f := by
  unfold cutD
  rw [List.length_map, ← List.map_drop, ← List.map_take]
theorem cut_toN {α : Type} (xs : List α) (k : Nat) : cutD xs none (some (k : Int)) = xs.take k := by
  unfold cutD
  rw [sIx_none0, sIx_nat, List.drop_zero, Nat.sub_zero]
  by_cases h : k ≤ xs.length
  · rw [Nat.min_eq_left h]
  · rw [Nat.min_eq_right (by omega), List.take_of_length_le (Nat.le_refl _), List.take_of_length_le (by omega)]
theorem cut_fromN {α : Type} (xs : List α) (k : Nat) : cutD xs (some (k : Int)) none = xs.drop k := by
  unfold cutD
  rw [sIx_nat, sIx_noneN]
  by_cases h : k ≤ xs.length
  · rw [Nat.min_eq_left h, List.take_of_length_le (by simp)]
  · rw [Nat.min_eq_right (by omega), List.drop_of_length_le (Nat.le_refl _), List.drop_of_length_le (by omega), List.take_nil]
theorem cut_midN {α : Type} (xs : List α) (j k : Nat) : cutD xs (some (j : Int)) (some (k : Int)) = (xs.take k).drop j := by
  unfold cutD
  rw [sIx_nat, sIx_nat]
  apply List.ext_getElem?
  intro i
  rw [List.getElem?_take, List.getElem?_drop, List.getElem?_drop, List.getElem?_take]
  by_cases h1 : i < min k xs.length - min j xs.length
  · rw [if_pos h1, if_pos (by omega), Nat.min_eq_left (by omega)]
  · rw [if_neg h1]
    split
    · rw [List.getElem?_eq_none (by omega)]
    · rfl
theorem cut_lastN {α : Type} (xs : List α) (k : Nat) (h : 0 < k) : cutD xs (some (-(k : Int))) none = xs.drop (xs.length - k) := by
  unfold cutD
  rw [sIx_neg h, sIx_noneN, List.take_of_length_le (by simp)]
theorem cut_butN {α : Type} (xs : List α) (k : Nat) (h : 0 < k) : cutD xs none (some (-(k : Int))) = xs.take (xs.length - k) := by
  unfold cutD
  rw [sIx_none0, sIx_neg h, List.drop_zero, Nat.sub_zero]
section
variable {Z : Zn} {M : Mu} {Q2 : DQ} {α : Type} {f : α → DV} {xs ys : List α} {x y : α}
theorem wc_lenLM (h : Q2 (.i (xs.length : Nat)) M) : WC Z (orC (rLenQ Z.W.K) rLenT) [.lst (xs.map f)] M Q2 := wc_lenL (by rw [List.length_map]; exact h)
theorem wc_lenUM (h : Q2 (.i (xs.length : Nat)) M) : WC Z (orC (rLenQ Z.W.K) rLenT) [.tup (xs.map f)] M Q2 := wc_lenU (by rw [List.length_map]; exact h)
theorem wc_lenRM {q : Addr} (h : Q2 (.i (xs.length : Nat)) (updM M q (.lst (xs.map f)))) : WC Z (orC (rLenQ Z.W.K) rLenT) [.r q] (updM M q (.lst (xs.map f))) Q2 := wc_lenR (by rw [List.length_map]; exact h)
theorem wl_toN {k : Nat} (h : Q2 (.lst ((xs.take k).map f)) M) : WL Z (rSlA Z.W.K) (.lst (xs.map f)) none (some (k : Int)) M Q2 := wl_A (.inl rfl) (by rw [cut_map, cut_toN]; exact h)
theorem wl_toI {k : Int} (h0 : 0 ≤ k) (h : Q2 (.lst ((xs.take k.toNat).map f)) M) : WL Z (rSlA Z.W.K) (.lst (xs.map f)) none (some k) M Q2 := by
  obtain ⟨n, rfl⟩ := nat_of h0
  rw [Int.toNat_natCast] at h
  exact wl_toN h
theorem wl_fromN {k : Nat} (h : Q2 (.lst ((xs.drop k).map f)) M) : WL Z (rSlA Z.W.K) (.lst (xs.map f)) (some (k : Int)) none M Q2 := wl_A (.inl rfl) (by rw [cut_map, cut_fromN]; exact h)
theorem wl_fromI {k : Int} (h0 : 0 ≤ k) (h : Q2 (.lst ((xs.drop k.toNat).map f)) M) : WL Z (rSlA Z.W.K) (.lst (xs.map f)) (some k) none M Q2 := by
  obtain ⟨n, rfl⟩ := nat_of h0
  rw [Int.toNat_natCast] at h
  exact wl_fromN h
theorem wl_lastI {k : Int} (h0 : k < 0) (h : Q2 (.lst ((xs.drop (xs.length - (-k).toNat)).map f)) M) : WL Z (rSlA Z.W.K) (.lst (xs.map f)) (some k) none M Q2 := by
  obtain ⟨n, hn⟩ := nat_of (show 0 ≤ -k by omega)
  have e : k = -(n : Int) := by omega
  rw [hn, Int.toNat_natCast] at h
  rw [e]
  exact wl_A (.inl rfl) (by rw [cut_map, cut_lastN _ _ (by omega)]; exact h)
theorem wl_midI {j k : Int} (h0 : 0 ≤ j) (h1 : 0 ≤ k) (h : Q2 (.lst (((xs.take k.toNat).drop j.toNat).map f)) M) : WL Z (rSlA Z.W.K) (.lst (xs.map f)) (some j) (some k) M Q2 := by
  obtain ⟨n, rfl⟩ := nat_of h0
  obtain ⟨m, rfl⟩ := nat_of h1
  rw [Int.toNat_natCast, Int.toNat_natCast] at h
  exact wl_A (.inl rfl) (by rw [cut_map, cut_midN]; exact h)
theorem wr_addLM (hz : xs.length + ys.length ≤ 1000000) (h : Q2 (.lst ((xs ++ ys).map f)) M) : WR Z (rAddA Z.W.K) (.lst (xs.map f)) (.lst (ys.map f)) M Q2 := wr_addLn (by simpa using hz) (by rw [← List.map_append]; exact h)
theorem wr_addM1 (hz : xs.length + 1 ≤ 1000000) (h : Q2 (.lst ((xs ++ [x]).map f)) M) : WR Z (rAddA Z.W.K) (.lst (xs.map f)) (.lst [f x]) M Q2 := wr_addLn (by simpa using hz) (by rw [List.map_append] at h; exact h)
theorem wr_add1M (hz : ys.length + 1 ≤ 1000000) (h : Q2 (.lst ((x :: ys).map f)) M) : WR Z (rAddA Z.W.K) (.lst [f x]) (.lst (ys.map f)) M Q2 := wr_addLn (by simp; omega) h
theorem wr_addM2 (hz : xs.length + 2 ≤ 1000000) (h : Q2 (.lst ((xs ++ [x, y]).map f)) M) : WR Z (rAddA Z.W.K) (.lst (xs.map f)) (.lst [f x, f y]) M Q2 := wr_addLn (by simpa using hz) (by rw [List.map_append] at h; exact h)
end
end DL
set_option Elab.async false
set_option linter.all false
set_option maxRecDepth 100000
set_option maxHeartbeats 2000000
/-! DL30: o.m(k = v, ..), C(k = v, ..). -/
namespace DL
open PySem PySem.Spec PyProof.Rows L2
section
variable {X : Cx} {CX : CXT} {k : Nat} {f C : Addr} {fd : FuncData} {ps ks : List Str} {sp : Sp} {E : XK} {x m : Str} {p pos apos : Pos} {o : Expr} {kws : List Keyword} {ta : TE} {tk : TA} {g : List Value → List Value → List Value} {gV : List V → List V → List V}
def tMethK (C : Addr) (m : Str) (n : Nat) (sp : Sp) (gV : List V → List V → List V) (E : XK) (ta : TE) (tk : TA) : TE := fun σ H Q => ta σ H fun y H1 => ∃ b dx fs, y = .ref b ∧ H1 b = some (.ins C dx fs) ∧ fs.lookup m = none ∧ tk σ H1 fun zs H2 => zs.length = n ∧ sp (gV [.ref b] zs) H2 Q E
theorem pe_methK0 {pl : Sem Bool} (he : PE X o ta) (c : Cls X.K C) (hm : Meth X.K C m f) (F : FnOk X.prog X.w X.K X.mg X.base CX k f fd ps sp) (hr : Room k X.A) (hb : KBn X.K fd ps 1 ks g gV) (hx : Passes CX X E) (hkw : PK X kws tk)
    (h1 : (backToKw pos (keywordEach kws X.env)).all (·.1.isSome) = true := by rfl) (h2 : (backToKw pos (keywordEach kws X.env)).filterMap (·.1) = ks := by rfl)
    (h3 : ((backTo pos (starEach [] X.env)).any (·.1) || (backToKw pos (keywordEach kws X.env)).any (·.1.isNone)) = false := by rfl)
    (ht : eval (.Call (.Attribute o m apos) [] kws pos) X.env = (do let ov ← eval o X.env; standAt apos.atName; let (f, first) ← holding [ov] (getMethod ov m pl); callWith pos f first (backTo pos (starEach [] X.env)) (backToKw pos (keywordEach kws X.env))) := by rfl) :
    PE X (.Call (.Attribute o m apos) [] kws pos) (tMethK C m ks.length sp gV E ta tk) := ⟨fun pins s σ H Q I h => by
  refine PySem.W.methodCall_KW (pl := pl) (thn (he.run pins s σ H _ I h) fun u s1 ⟨y, H1, I1, ry, b, dx, fs, ey, eb, l, q⟩ => ?_) ht
  subst ey
  obtain rfl : u = Value.ref b := ry
  refine getmeth_ok I1 eb c hm l (PySem.W.callWith_KW0 (first := [.ref b]) (h₀ := X.base) I.ok.mod.kin hm.kp h1 (thn (hkw.run pos pins s1 σ H1 _ I1 q) fun ws s2 ⟨zs, H2, I2, rz, l2, q2⟩ => ⟨I2.kIn, ?_⟩) h3)
  rw [h2]
  exact run_fnN (us := [.ref b]) (vs := [.ref b]) F hr hb hx I2 (.cons rfl .nil) rz rfl l2 q2⟩
theorem kbn_pick1 {K : PySem.W.Frag} {qual : Str} {st : Stmt} (is : List Nat) (F : Df K x qual st [] f fd)
    (h : ∀ (kV doc pm : Value) (an : Option Addr) (cdv ct u : Value) (ws : List Value), ws.length = ks.length → bindArgs (PySem.W.fnOf x qual (defArgs st) (defBody st) (defScope st) .none kV doc pm an cdv ct) ⟨[u], ks.zip ws⟩ = pure (ps.zip (u :: pick is ws))) :
    KBn K fd ps 1 ks (fun us ws => us ++ pick is ws) (fun us ws => us ++ pick is ws) where
  to := fun s us ws X h0 hl => by
    obtain ⟨oc, od, dV, kV, doc, pm, an, cdv, ct, osl, rfl, lk, hcd, hD, hK⟩ := F.ex
    match us, h0 with
    | [u], _ =>
      rcases hD with ⟨_, rfl⟩ | ⟨e, _⟩
      · exact .of_eq (h kV doc pm an cdv ct u ws hl)
      · exact absurd rfl e
  rel := fun r rz => r.append (paired_pick rz is)
end
section
variable {Z : Zn} {ρ : Ro} {M : Mu} {tk : TA} {ta : TE} {Q2 : DQ} {sp2 : Sp2} {E : XK} {E2 : XK2}
theorem we_methK {C : Addr} {m : Str} {n : Nat} (is : List Nat) (hx : XcOk Z E2 E) (h : WE Z ta ρ M fun d M1 => Obj M1 d C m ∧ WA Z tk ρ M1 fun es M2 => es.length = n ∧ Ask (sp2 (d :: pick is es) M2 Q2 E2)) :
    WE Z (tMethK C m n (lift Z.W sp2) (fun us ws => us ++ pick is ws) E ta tk) ρ M Q2 := fun G σ H Q s R En r =>
  h G σ H _ s R En fun d v G1 M1 H1 s1 R1 x ⟨⟨ns, ds, o, k⟩, q⟩ => by
    obtain ⟨b, dx, xs, e1, e2, e3, e4⟩ := obj_at R1 x o
    subst e1
    refine ⟨b, dx, _, rfl, e2, zip_none e4 k, q G1 σ H1 _ (s.trans s1) R1 (En.mono s1) fun es vs G2 M2 H2 s2 R2 xs q2 => ⟨by rw [xs.length]; exact q2.1, ?_⟩⟩
    exact ⟨G2, Z.F, _, M2, Q2, _, R2, datL_cons' (x.mono s2) (datL_pick xs is), q2.2, r.mono (s1.trans s2), hx.mono ((s.trans s1).trans s2)⟩
theorem wr_neRows {rows : List (List Int)} (h : Q2 (.b false) M) : WR Z (rNeA Z.W.K) (.lst (rows.map rowD)) (.lst (rows.map rowD)) M Q2 := wr_neLL (.inl rfl) (.inl rfl) goodL_rows (Nat.le_trans depL_rows (by decide)) h
theorem wr_eqRows {rows : List (List Int)} (h : Q2 (.b true) M) : WR Z (rEqA Z.W.K) (.lst (rows.map rowD)) (.lst (rows.map rowD)) M Q2 := wr_eqLL (.inl rfl) (.inl rfl) goodL_rows (Nat.le_trans depL_rows (by decide)) h
theorem wr_neStrs {zs : List Str} (hz : ∀ z ∈ zs, PyData.strOk z = true) (h : Q2 (.b false) M) : WR Z (rNeA Z.W.K) (.lst (zs.map DV.s)) (.lst (zs.map DV.s)) M Q2 := wr_neLL (.inl rfl) (.inl rfl) (goodL_strs hz) (by rw [depL_strs]; decide) h
theorem wr_eqStrs {zs : List Str} (hz : ∀ z ∈ zs, PyData.strOk z = true) (h : Q2 (.b true) M) : WR Z (rEqA Z.W.K) (.lst (zs.map DV.s)) (.lst (zs.map DV.s)) M Q2 := wr_eqLL (.inl rfl) (.inl rfl) (goodL_strs hz) (by rw [depL_strs]; decide) h
theorem wr_neStrR {q : Addr} {zs : List Str} (hz : ∀ z ∈ zs, PyData.strOk z = true) (h : Q2 (.b false) (updM M q (.lst (zs.map DV.s)))) : WR Z (rNeA Z.W.K) (.r q) (.lst (zs.map DV.s)) (updM M q (.lst (zs.map DV.s))) Q2 := wr_neLL ls_l1 (.inl rfl) (goodL_strs hz) (by rw [depL_strs]; decide) h
theorem ws_frzL {ts : TS} {D2 : Ends2} {ds : List DV} (i : Nat) {b : Addr} (hi : ρ[i]? = some (some (.r b))) (hm : M b = some (.lst ds)) (h : WS Z ts D2 (ρ.set i (some (.lst ds))) (delM M b)) : WS Z ts D2 ρ M := ws_frz i hi hm trivial h
theorem ws_frzS {ts : TS} {D2 : Ends2} {i : Nat} {a : Addr} {ds : List DV} (hi : Nat.blt i ρ.length = true) (hm : M a = none) (h : WS Z ts D2 (ρ.set i (some (.lst ds))) M) : WS Z ts D2 (ρ.set i (some (.r a))) (updM M a (.lst ds)) := by
  have hi' : i < ρ.length := by simpa [Nat.blt_eq] using hi
  refine ws_frz i (by rw [List.getElem?_set_self hi']) updM_same trivial ?_
  rw [delM_updM hm, List.set_set]
  exact h
end
end DL
set_option Elab.async false
set_option linter.all false
set_option maxRecDepth 100000
set_option maxHeartbeats 2000000
/-! DL31: dicts whose keys are None, ints and texts. -/
namespace DL
open PySem PySem.Spec PyProof.Rows L2
def lV : Leaf → V
  | .none => .non
  | .num i => .int i
  | .text z => .str z
theorem lV_is {P : Program} {w : World} {k : Leaf} {u : Value} (r : RelV (lV k) u) : (leafKind P w).is k u = true := by
  cases k with
  | none => cases (show u = Value.none from r); rfl
  | num i => obtain ⟨t, rfl⟩ := r; show (i == i) = true; simp
  | text z => obtain ⟨t, rfl⟩ := r; show (z == z) = true; simp
section
variable {X : Cx} {pins : List (Addr × PySem.Obj)} {σ : L2.St} {H : Hp} {s : Shared} {a : Addr} {kvs : List (Leaf × V)}
theorem lf_of {W : Wd} (hP : W.P = X.prog) (hw : W.w = X.w) (I : Inv X pins σ H s) (e : H a = some (leafO W a kvs)) : kvs.length ≤ sizeLine ∧ (a == sysModules) = false ∧ ∃ us, KV kvs us ∧ s.heap.DictOf (leafKind X.prog X.w) a us := by
  have h := (I.hok a _ e).1
  rw [hP, hw] at h
  exact h
theorem lf_new {W : Wd} (hP : W.P = X.prog) (hw : W.w = X.w) {H' : Hp} {h' : Heap} {us : List (Leaf × Value)} (z : kvs.length ≤ sizeLine) (hd : (a == sysModules) = false) (rel : KV kvs us) (dd : h'.DictOf (leafKind X.prog X.w) a us) :
    ObjOk X.prog X.w H' h' a (leafO W a kvs) := by
  refine ⟨?_, let ⟨q, _, _, hq, _⟩ := dd; ⟨q, hq⟩, fun h1 h2 ⟨g1, g2, vs, g3, g4⟩ k => ⟨g1, g2, vs, g3, g4.at k⟩⟩
  show kvs.length ≤ sizeLine ∧ (a == sysModules) = false ∧ ∃ us, KV kvs us ∧ h'.DictOf (leafKind W.P W.w) a us
  rw [hP, hw]
  exact ⟨z, hd, us, rel, dd⟩
end
def rIxF (W : Wd) : R2 := fun x y H Q => ∃ a kvs k v, x = .ref a ∧ H a = some (leafO W a kvs) ∧ y = lV k ∧ valV kvs k = some v ∧ Q v H
theorem ix_leaf {X : Cx} {W : Wd} (hP : W.P = X.prog) (hw : W.w = X.w) : IxR X (rIxF W) := by
  intro value slice pins s σ H x y v u Q I rx ry h hs
  obtain ⟨a, kvs, k, z, rfl, e, rfl, l, q⟩ := h
  cases rx
  obtain ⟨_, hd, us, rel, dd⟩ := lf_of hP hw I e
  obtain ⟨w', hw', rw'⟩ := RelO.some_of (v := z) (o := valueAt us k) (by rw [← l]; exact rel.val k)
  exact tail_any dd.typeIs PySem.F.slot_dict_getitem.lookup (wpAny_getItem_of (lV_is ry) dd.mapOf hw' ⟨z, H, I.tok _, rw', q⟩) hs
def rInF (W : Wd) (neg : Bool) : R2 := fun x y H Q => ∃ a kvs k, y = .ref a ∧ H a = some (leafO W a kvs) ∧ x = lV k ∧ Q (.bl (if neg then !(valV kvs k).isSome else (valV kvs k).isSome)) H
theorem op_in_leaf {X : Cx} {W : Wd} (hP : W.P = X.prog) (hw : W.w = X.w) : OpR X (compareOp .In) (rInF W false) := by
  intro pins s σ H x y v u Q I rx ry h
  obtain ⟨a, kvs, k, rfl, e, rfl, q⟩ := h
  cases ry
  obtain ⟨_, hd, us, rel, dd⟩ := lf_of hP hw I e
  refine wpAny_in_of (lV_is rx) hd dd.mapOf ?_
  rw [← (rel.val k).isSome_eq]
  exact ⟨.bl _, H, I.tok _, rfl, q⟩
theorem op_ni_leaf {X : Cx} {W : Wd} (hP : W.P = X.prog) (hw : W.w = X.w) : OpR X (compareOp .NotIn) (rInF W true) := by
  intro pins s σ H x y v u Q I rx ry h
  obtain ⟨a, kvs, k, rfl, e, rfl, q⟩ := h
  cases ry
  obtain ⟨_, hd, us, rel, dd⟩ := lf_of hP hw I e
  refine wpAny_notIn_of (lV_is rx) hd dd.mapOf ?_
  rw [← (rel.val k).isSome_eq]
  exact ⟨.bl _, H, I.tok _, rfl, q⟩
def rSetF (W : Wd) : TSet := fun o i v H Q => ∃ a kvs k, o = .ref a ∧ H a = some (leafO W a kvs) ∧ i = lV k ∧ kvs.length < sizeLine ∧ Q (upd H a (leafO W a (putK kvs k v)))
theorem set_leaf {X : Cx} {W : Wd} (hP : W.P = X.prog) (hw : W.w = X.w) : PSet X (rSetF W) := by
  intro pins s σ H o i v ov iv u Q I ro ri rv h
  obtain ⟨a, kvs, k, rfl, e, rfl, l, q⟩ := h
  cases ro
  obtain ⟨z, hd, us, rel, dd⟩ := lf_of hP hw I e
  have hz : us.length ≤ sizeLine := by rw [← rel.length]; exact z
  have hl : (putK kvs k v).length ≤ sizeLine := by have := length_putK kvs k v; omega
  refine wpAny_setItem_pairs (hsz := hz) (lV_is ri) dd fun h' dd' hs => ⟨_, ?_, q⟩
  have he : ∃ q, h'.get? a = some q := let ⟨q, _, _, hq, _⟩ := dd'; ⟨q, hq⟩
  exact d_write I (by rw [e]; exact True.intro) hs he (lf_new hP hw hl hd (rel.put k rv) dd')
/-- {}, to be such a dict -/
def tDNewF (W : Wd) : TE := fun _ H Q => ∀ p, H p = none → Q (.ref p) (upd H p (leafO W p []))
theorem pe_dnewF {X : Cx} {W : Wd} {pos : Pos} (hP : W.P = X.prog) (hw : W.w = X.w) : PE X (.Dict [] [] pos) (tDNewF W) := ⟨fun pins s σ H Q I h =>
  wpAny_Dict_empty ⟨.ref s.heap.objs.size, _, I.laid (a := s.heap.objs.size) (o := leafO W s.heap.objs.size []) (t' := s.toks) (fun _ _ q => Heap.get?_push_of_some _ q) (Nat.le_refl _)
    (lf_new hP hw (Nat.zero_le _) (beq_eq_false_iff_ne.mpr (Ne.symm (Nat.ne_of_lt I.big))) .nil (Heap.DictOf.new s.heap)), rfl, h _ (I.hok.fresh (Nat.le_refl _))⟩⟩
end DL
set_option Elab.async false
set_option linter.all false
set_option maxRecDepth 100000
set_option maxHeartbeats 2000000
/-! DL32: such dicts over data. -/
namespace DL
open PySem PySem.Spec PyProof.Rows L2
abbrev KVs := List (Leaf × DV)
abbrev dlD (kvs : KVs) : DV := .dl (kvs.map (·.1)) (kvs.map (·.2))
abbrev dlM (kvs : KVs) : MO := .dl (kvs.map (·.1)) (kvs.map (·.2))
def lD : Leaf → DV
  | .none => .n
  | .num i => .i i
  | .text z => .s z
theorem lD_v (k : Leaf) : lD k = .v (lV k) := by cases k <;> rfl
/-- what stands at a key; put at a key -/
def valL (kvs : KVs) (k : Leaf) : Option DV := (kvs.find? fun kv => decide (kv.1 = k)).map (·.2)
def putL (kvs : KVs) (k : Leaf) (d : DV) : KVs := if (kvs.any fun kv => decide (kv.1 = k)) = true then kvs.map (fun kv => if kv.1 = k then (kv.1, d) else kv) else kvs ++ [(k, d)]
theorem valL_pos {p : Leaf × DV} {r : KVs} {k : Leaf} (e : p.1 = k) : valL (p :: r) k = some p.2 := by simp [valL, List.find?_cons, e]
theorem valL_neg {p : Leaf × DV} {r : KVs} {k : Leaf} (e : ¬ p.1 = k) : valL (p :: r) k = valL r k := by simp [valL, List.find?_cons, e]
theorem valL_any (k : Leaf) : ∀ kvs : KVs, (kvs.any fun kv => decide (kv.1 = k)) = (valL kvs k).isSome
  | [] => rfl
  | p :: r => by
    rw [List.any_cons, valL_any k r]
    by_cases e : p.1 = k
    · rw [valL_pos e]; simp [e]
    · rw [valL_neg e]; simp [e]
theorem putL_new {kvs : KVs} {k : Leaf} (d : DV) (h : valL kvs k = none) : putL kvs k d = kvs ++ [(k, d)] := by
  unfold putL
  rw [valL_any, h]
  rfl
theorem len_putL (kvs : KVs) (k : Leaf) (d : DV) : (putL kvs k d).length ≤ kvs.length + 1 := by
  unfold putL
  split <;> simp
section
variable {W : Wd} {G G' F : Hp}
inductive KD (W : Wd) (G : Hp) : KVs → List (Leaf × V) → Prop
  | nil : KD W G [] []
  | cons {k : Leaf} {d : DV} {v : V} {ps : KVs} {qs : List (Leaf × V)} (h : Dat W G d v) (t : KD W G ps qs) : KD W G ((k, d) :: ps) ((k, v) :: qs)
theorem KD.of : ∀ {kvs : KVs} {xs : List V}, DatL W G (kvs.map (·.2)) xs → KD W G kvs ((kvs.map (·.1)).zip xs)
  | [], xs, h => by rw [datL_nil.mp h]; exact .nil
  | (k, d) :: kvs, xs, h => by
    obtain ⟨y, r, rfl, h1, h2⟩ := datL_cons.mp h
    exact .cons h1 (KD.of h2)
theorem KD.back : ∀ {kvs : KVs} {qs : List (Leaf × V)}, KD W G kvs qs → ∃ xs, qs = (kvs.map (·.1)).zip xs ∧ DatL W G (kvs.map (·.2)) xs
  | _, _, .nil => ⟨[], rfl, datL_nil'⟩
  | _, _, .cons (v := v) h t => by
    obtain ⟨xs, e, q⟩ := KD.back t
    exact ⟨v :: xs, by rw [e]; rfl, datL_cons' h q⟩
theorem KD.length : ∀ {kvs : KVs} {qs : List (Leaf × V)}, KD W G kvs qs → qs.length = kvs.length
  | _, _, .nil => rfl
  | _, _, .cons h t => by rw [List.length_cons, List.length_cons, KD.length t]
theorem KD.val {k : Leaf} : ∀ {kvs : KVs} {qs : List (Leaf × V)}, KD W G kvs qs → (∀ d, valL kvs k = some d → ∃ v, valV qs k = some v ∧ Dat W G d v) ∧ (valV qs k).isSome = (valL kvs k).isSome
  | _, _, .nil => ⟨fun d h => (by cases h), rfl⟩
  | _, _, .cons (k := k') (d := d') (v := v') (ps := ps) (qs := qs) h t => by
    obtain ⟨h1, h2⟩ := KD.val (k := k) t
    by_cases e : k' = k
    · rw [valL_pos (p := (k', d')) e, valV_pos (p := (k', v')) e]
      exact ⟨fun d hd => by cases hd; exact ⟨v', rfl, h⟩, rfl⟩
    · rw [valL_neg (p := (k', d')) e, valV_neg (p := (k', v')) e]
      exact ⟨h1, h2⟩
theorem KD.repl {k : Leaf} {d : DV} {v : V} (hd : Dat W G d v) : ∀ {kvs : KVs} {qs : List (Leaf × V)}, KD W G kvs qs → KD W G (kvs.map fun kv => if kv.1 = k then (kv.1, d) else kv) (qs.map fun kv => if kv.1 = k then (kv.1, v) else kv)
  | _, _, .nil => .nil
  | _, _, .cons (k := k') h t => by
    rw [List.map_cons, List.map_cons]
    by_cases e : k' = k
    · simp only [e, if_true]
      exact .cons hd (KD.repl hd t)
    · simp only [e, if_false]
      exact .cons h (KD.repl hd t)
theorem KD.snoc {k : Leaf} {d : DV} {v : V} (hd : Dat W G d v) : ∀ {kvs : KVs} {qs : List (Leaf × V)}, KD W G kvs qs → KD W G (kvs ++ [(k, d)]) (qs ++ [(k, v)])
  | _, _, .nil => .cons hd .nil
  | _, _, .cons h t => .cons h (KD.snoc hd t)
theorem KD.put {k : Leaf} {d : DV} {v : V} {kvs : KVs} {qs : List (Leaf × V)} (r : KD W G kvs qs) (hd : Dat W G d v) : KD W G (putL kvs k d) (putK qs k v) := by
  have h := (r.val (k := k)).2
  rw [← valL_any, ← valV_any] at h
  unfold putL putK
  rw [h]
  split
  · exact r.repl hd
  · exact r.snoc hd
theorem KD.mono (e : Same G G') : ∀ {kvs : KVs} {qs : List (Leaf × V)}, KD W G kvs qs → KD W G' kvs qs
  | _, _, .nil => .nil
  | _, _, .cons h t => .cons (h.mono e) (KD.mono e t)
end
/-- a dict at hand -/
def DlOf (M : Mu) (d : DV) (kvs : KVs) : Prop := d = dlD kvs ∨ ∃ a, d = .r a ∧ M a = some (dlM kvs)
section
variable {W : Wd} {Z : Zn} {G G' F : Hp} {ρ : Ro} {M : Mu} {H : Hp} {Q2 : DQ} {d e x y : DV} {v : V} {kvs : KVs}
theorem dl_at (R : Rep W G M F H) (h : Dat W G d v) (l : DlOf M d kvs) : ∃ a qs, v = .ref a ∧ H a = some (leafO W a qs) ∧ KD W G kvs qs := by
  rcases l with rfl | ⟨a, rfl, hm⟩
  · obtain ⟨a, xs, h1, h2, h3, h4⟩ := dat_dl.mp h
    exact ⟨a, _, h1, R.ex _ _ h2, KD.of h4⟩
  · obtain ⟨xs, h1, h2, h3⟩ := (R.mu a _ hm).2
    exact ⟨a, _, dat_v.mp h, h1, KD.of h3⟩
theorem wr_ixF {k : Leaf} (l : DlOf M x kvs) (hv : valL kvs k = some e) (h : Q2 e M) : WR Z (rIxF Z.W) x (lD k) M Q2 := fun G H vx vy Q s R dx dy r => by
  obtain ⟨a, qs, e1, e2, e3⟩ := dl_at R dx l
  obtain ⟨v, h1, h2⟩ := (e3.val (k := k)).1 e hv
  rw [lD_v] at dy
  exact ⟨a, qs, k, v, e1, e2, dat_v.mp dy, h1, r _ _ G M H (Same.refl G) R h2 h⟩
theorem wr_inF' {k : Leaf} {neg : Bool} (l : DlOf M y kvs) (h : Q2 (.b (if neg then !(valL kvs k).isSome else (valL kvs k).isSome)) M) : WR Z (rInF Z.W neg) (lD k) y M Q2 := fun G H vx vy Q s R dx dy r => by
  obtain ⟨a, qs, e1, e2, e3⟩ := dl_at R dy l
  rw [lD_v] at dx
  refine ⟨a, qs, k, e1, e2, dat_v.mp dx, ?_⟩
  rw [(e3.val (k := k)).2]
  exact r _ _ G M H (Same.refl G) R dat_v' h
theorem wset_leaf {a : Addr} {k : Leaf} {P2 : Mu → Prop} (hm : M a = some (dlM kvs)) (hz : kvs.length < 1000000) (h : P2 (updM M a (dlM (putL kvs k d)))) : WSet Z (rSetF Z.W) (.r a) (lD k) d M P2 := fun G H vo vi vv P s R xo xi xv n => by
  obtain ⟨xs, h1, h2, h3⟩ := (R.mu a _ hm).2
  have kd := KD.of h3
  rw [lD_v] at xi
  obtain ⟨zs, e1, e2⟩ := (kd.put (k := k) xv).back
  refine ⟨a, _, k, dat_v.mp xo, h1, dat_v.mp xi, by rw [kd.length]; exact Nat.lt_of_lt_of_le hz (by decide), ?_⟩
  rw [e1]
  exact n G _ _ (Same.refl G) (R.write (mo' := dlM (putL kvs k d)) hm ⟨zs, upd_same, by simp, e2⟩) h
theorem we_dnewF {Q2 : DQ} (h : ∀ p, M p = none → Q2 (.r p) (updM M p (dlM []))) : WE Z (tDNewF Z.W) ρ M Q2 := fun G σ H Q s R E r p hp =>
  r _ _ G _ _ (Same.refl G) (R.newM (mo := dlM []) hp ⟨[], upd_same, rfl, datL_nil'⟩) dat_v' (h p (R.mnone hp))
end
end DL
set_option Elab.async false
set_option linter.all false
set_option maxRecDepth 100000
set_option maxHeartbeats 2000000
/-! DL33: displays of such dicts. -/
namespace DL
open PySem PySem.Spec PyProof.Rows L2
def mergeF (kvs more : List (Leaf × V)) : List (Leaf × V) := more.foldl (fun acc kv => putK acc kv.1 kv.2) kvs
theorem KV.mergeF : ∀ {more : List (Leaf × V)} {rs : List (Leaf × Value)} {kvs : List (Leaf × V)} {us : List (Leaf × Value)}, KV more rs → KV kvs us → KV (DL.mergeF kvs more) (merged us rs)
  | [], _, kvs, us, r, r0 => by cases r; exact r0
  | p :: ps, _, kvs, us, r, r0 => by
    cases r with
    | @cons _ q _ qs h t =>
      have e : KV (putK kvs p.1 p.2) (stored us q.1 q.2) := by
        have := r0.put p.1 h.2
        rw [← h.1]; exact this
      exact KV.mergeF (more := ps) (rs := qs) (kvs := putK kvs p.1 p.2) (us := stored us q.1 q.2) t e
theorem len_mergeF : ∀ (more kvs : List (Leaf × V)), (mergeF kvs more).length ≤ kvs.length + more.length
  | [], kvs => Nat.le_refl _
  | p :: r, kvs => by
    have h1 := len_mergeF r (putK kvs p.1 p.2)
    have h2 := length_putK kvs p.1 p.2
    show (mergeF (putK kvs p.1 p.2) r).length ≤ _
    simp only [List.length_cons]
    omega
theorem carriesF {P : Program} {w : World} : ∀ {kvs : List (Leaf × V)} {ws : List (Value × Value)}, VV (kvs.map fun kv => (lV kv.1, kv.2)) ws → ∃ rs, Carries (leafKind P w) ws rs ∧ KV kvs rs
  | [], _, r => by rw [List.map_nil] at r; cases r; exact ⟨[], True.intro, .nil⟩
  | p :: kvs, _, r => by
    rw [List.map_cons] at r
    cases r with
    | @cons _ b _ bs h t =>
      obtain ⟨rs, c, q⟩ := carriesF (P := P) (w := w) t
      obtain ⟨b1, b2⟩ := b
      exact ⟨(p.1, b2) :: rs, ⟨lV_is h.1, rfl, c⟩, .cons ⟨rfl, h.2⟩ q⟩
def tDispF (W : Wd) (trs : List (TE × TE)) : TE := fun σ H Q => ∀ p, H p = none → tPairs trs σ (upd H p (leafO W p [])) fun ps H2 => H2 p = some (leafO W p []) ∧ ∃ kvs : List (Leaf × V), ps = kvs.map (fun kv => (lV kv.1, kv.2)) ∧ kvs.length ≤ 15 ∧ Q (.ref p) (upd H2 p (leafO W p (mergeF [] kvs)))
theorem pe_dispF {X : Cx} {W : Wd} {pos : Pos} {keys : List (Option Expr)} {values : List Expr} {trs : List (TE × TE)} (hP : W.P = X.prog) (hw : W.w = X.w) (h : PPs X pos keys values trs) (hall : keys.all (·.isSome) = true) (hl : keys.length = values.length) (h0 : keys ≠ [])
    (h15 : keys.length ≤ 15) : PE X (.Dict keys values pos) (tDispF W trs) := ⟨fun pins s σ H Q I q => by
  have hn := I.hok.fresh (Nat.le_refl s.heap.objs.size)
  have hm : (s.heap.objs.size == sysModules) = false := beq_eq_false_iff_ne.mpr (Ne.symm (Nat.ne_of_lt I.big))
  have I1 := I.laid (a := s.heap.objs.size) (o := leafO W s.heap.objs.size []) (h' := s.heap.push { cls := .type "dict", data := .dict #[] }) (t' := s.toks) (fun _ _ q => Heap.get?_push_of_some _ q) (Nat.le_refl _) (lf_new hP hw (Nat.zero_le _) hm .nil (Heap.DictOf.new s.heap))
  refine wpAny_Dict_walk (knd := leafKind X.prog X.w) hall hl h0 h15 (thn (h.run pins _ σ _ _ I1 (q _ hn)) fun ws s2 ⟨ps, H2, I2, rel, e, kvs, ep, lk, q2⟩ => ?_)
  subst ep
  obtain ⟨rs, c, rk⟩ := carriesF (P := X.prog) (w := X.w) rel
  obtain ⟨z, hd, vs0, r0, dd⟩ := lf_of hP hw I2 e
  cases r0
  refine ⟨rs, c, dd, fun h' dd' hs => ⟨.ref s.heap.objs.size, _, ?_, rfl, q2⟩⟩
  have hz : (mergeF [] kvs).length ≤ sizeLine := by
    have h1 := len_mergeF kvs []
    simp only [List.length_nil] at h1
    exact le_size (by omega)
  have he : ∃ q, h'.get? s.heap.objs.size = some q := let ⟨q, _, _, hq, _⟩ := dd'; ⟨q, hq⟩
  exact d_write I2 (by rw [e]; exact True.intro) hs he (lf_new hP hw hz hd (KV.mergeF rk .nil) dd')⟩
end DL
set_option Elab.async false
set_option linter.all false
set_option maxRecDepth 100000
set_option maxHeartbeats 2000000
/-! DL34: displays over data. -/
namespace DL
open PySem PySem.Spec PyProof.Rows L2
inductive DatP (W : Wd) (G : Hp) : List (DV × DV) → List (V × V) → Prop
  | nil : DatP W G [] []
  | cons {d e : DV} {v u : V} {ps : List (DV × DV)} {qs : List (V × V)} (h1 : Dat W G d v) (h2 : Dat W G e u) (t : DatP W G ps qs) : DatP W G ((d, e) :: ps) ((v, u) :: qs)
theorem DatP.mono {W : Wd} {G G' : Hp} (s : Same G G') : ∀ {ps : List (DV × DV)} {qs : List (V × V)}, DatP W G ps qs → DatP W G' ps qs
  | _, _, .nil => .nil
  | _, _, .cons h1 h2 t => .cons (h1.mono s) (h2.mono s) (DatP.mono s t)
def WPs (Z : Zn) (trs : List (TE × TE)) (ρ : Ro) (M : Mu) (P2 : List (DV × DV) → Mu → Prop) : Prop :=
  ∀ G σ H Q, Same Z.G G → Rep Z.W G M Z.F H → EnvOk Z.W G ρ σ → (∀ ps qs G' M' H', Same G G' → Rep Z.W G' M' Z.F H' → DatP Z.W G' ps qs → P2 ps M' → Q qs H') → tPairs trs σ H Q
def mergeL (kvs more : KVs) : KVs := more.foldl (fun acc kv => putL acc kv.1 kv.2) kvs
section
variable {W : Wd} {Z : Zn} {G G' F : Hp} {ρ : Ro} {M : Mu} {H : Hp} {Q2 : DQ} {tk tv : TE} {trs : List (TE × TE)} {P2 : List (DV × DV) → Mu → Prop}
theorem wps_nil (h : P2 [] M) : WPs Z [] ρ M P2 := fun G σ H Q s R E r => r [] [] G M H (Same.refl G) R .nil h
theorem wps_cons (h : WE Z tk ρ M fun d M1 => WE Z tv ρ M1 fun e M2 => WPs Z trs ρ M2 fun ps M3 => P2 ((d, e) :: ps) M3) : WPs Z ((tk, tv) :: trs) ρ M P2 := fun G σ H Q s R E r =>
  h G σ H _ s R E fun d v G1 M1 H1 s1 R1 x1 q1 => q1 G1 σ H1 _ (s.trans s1) R1 (E.mono s1) fun e u G2 M2 H2 s2 R2 x2 q2 => q2 G2 σ H2 _ ((s.trans s1).trans s2) R2 ((E.mono s1).mono s2) fun ps qs G3 M3 H3 s3 R3 x3 q3 =>
    r _ _ G3 M3 H3 ((s1.trans s2).trans s3) R3 (.cons ((x1.mono s2).mono s3) (x2.mono s3) x3) q3
theorem KD.merge : ∀ {more : KVs} {rs : List (Leaf × V)} {kvs : KVs} {us : List (Leaf × V)}, KD W G more rs → KD W G kvs us → KD W G (mergeL kvs more) (mergeF us rs)
  | _, _, kvs, us, .nil, r0 => r0
  | _, _, kvs, us, .cons (ps := ps) (qs := qs) h t, r0 => KD.merge (more := ps) (rs := qs) t (r0.put h)
theorem datP_kd : ∀ {kvs : KVs} {qs : List (V × V)}, DatP W G (kvs.map fun kv => (lD kv.1, kv.2)) qs → ∃ us : List (Leaf × V), qs = us.map (fun kv => (lV kv.1, kv.2)) ∧ KD W G kvs us
  | [], _, h => by
    rw [List.map_nil] at h
    cases h
    exact ⟨[], rfl, .nil⟩
  | (k, d) :: kvs, _, h => by
    rw [List.map_cons] at h
    cases h with
    | cons h1 h2 t =>
      obtain ⟨us, e1, e2⟩ := datP_kd t
      rw [lD_v] at h1
      exact ⟨(k, _) :: us, by rw [e1, dat_v.mp h1]; rfl, .cons h2 e2⟩
theorem we_dispF (h : ∀ p, M p = none → WPs Z trs ρ (updM M p (dlM [])) fun ps M2 => M2 p = some (dlM []) ∧ ∃ kvs : KVs, ps = kvs.map (fun kv => (lD kv.1, kv.2)) ∧ kvs.length ≤ 15 ∧ Q2 (.r p) (updM M2 p (dlM (mergeL [] kvs)))) :
    WE Z (tDispF Z.W trs) ρ M Q2 := fun G σ H Q s R E r p hp => by
  have R1 := R.newM (mo := dlM []) (o := leafO Z.W p []) hp ⟨[], upd_same, rfl, datL_nil'⟩
  refine h p (R.mnone hp) G σ _ _ s R1 E fun ps qs G2 M2 H2 s2 R2 x ⟨hm, kvs, ep, h15, q⟩ => ?_
  subst ep
  obtain ⟨us, e1, kd⟩ := datP_kd x
  obtain ⟨xs, h1, _, h3⟩ := (R2.mu p _ hm).2
  refine ⟨h1, us, e1, by rw [kd.length]; exact h15, ?_⟩
  obtain ⟨zs, f1, f2⟩ := (KD.merge kd (.nil (W := Z.W) (G := G2))).back
  rw [f1]
  exact r _ _ G2 _ _ s2 (R2.write (mo' := dlM (mergeL [] kvs)) hm ⟨zs, upd_same, by simp, f2⟩) dat_v' q
end
end DL
set_option Elab.async false
set_option linter.all false
set_option maxRecDepth 100000
set_option maxHeartbeats 2000000
/-! DL35: dict(pairs). -/
namespace DL
open PySem PySem.Spec PyProof.Rows L2
def kL : Key → Leaf
  | .inl i => .num i
  | .inr x => .text x
theorem kL_inj {a b : Key} (h : kL a = kL b) : a = b := by
  cases a <;> cases b <;> simp [kL] at h <;> rw [h]
theorem kL_is {k : Key} {v : Value} (h : keyIs k v = true) : Leaf.isOf (kL k) v = true := by
  rcases keyIs_shape h with ⟨i, t, rfl, rfl⟩ | ⟨x, t, rfl, rfl⟩
  · show decide (i = i) = true; simp
  · exact h
theorem kL_hash (w : World) (k : Key) : keyH w k = (kL k).key.hash w := by
  cases k <;> rfl
theorem mix_leaf {P : Program} {w : World} {h : Heap} {a : Addr} {us : List (Key × Value)} (d : h.DictOf (mixKind P w) a us) : h.DictOf (leafKind P w) a (us.map fun kv => (kL kv.1, kv.2)) := by
  obtain ⟨o, es, ep, h1, h2, h3, h4, h5, h6⟩ := d
  refine ⟨o, es, ep, h1, h2, h3, fun e he => ?_, ?_, ?_⟩
  · obtain ⟨k, g1, g2⟩ := h4 e he
    exact ⟨kL k, kL_is g1, g2.trans (kL_hash w k)⟩
  · clear h4 h6
    generalize es.toList = l at h5
    induction h5 with
    | nil => exact .nil
    | cons g1 g2 _ ih => exact .cons (kL_is g1) g2 ih
  · rw [List.map_map]
    have e : ((fun x : Leaf × Value => x.1) ∘ fun kv : Key × Value => (kL kv.1, kv.2)) = kL ∘ (·.1) := rfl
    rw [e, ← List.map_map]
    clear h5
    generalize us.map (·.1) = l at h6
    induction l with
    | nil => exact List.nodup_nil
    | cons x xs ih =>
      rw [List.nodup_cons] at h6
      rw [List.map_cons, List.nodup_cons]
      refine ⟨fun hm => ?_, ih h6.2⟩
      obtain ⟨y, hy, e⟩ := List.mem_map.mp hm
      exact h6.1 (kL_inj e ▸ hy)
end DL
set_option Elab.async false
set_option linter.all false
set_option maxRecDepth 100000
set_option maxHeartbeats 2000000
/-! DL36: dict(pairs) over data. -/
namespace DL
open PySem PySem.Spec PyProof.Rows L2
def rDictF (W : Wd) : List V → Hp → VK → Prop := fun xs H Q => ∃ (a : Addr) (ps : List Addr) (kvs : List (Key × V)), xs = [.ref a] ∧ SqL W.K H a (ps.map V.ref) ∧ Paired (fun p kv => SqT W.K H p [kV kv.1, kv.2]) ps kvs ∧
  ∀ p, H p = none → Q (.ref p) (upd H p (leafO W p ((mergeK [] kvs).map fun kv => (kL kv.1, kv.2))))
theorem KV.mapL : ∀ {kvs : List (Key × V)} {us : List (Key × Value)}, KV kvs us → KV (kvs.map fun kv => (kL kv.1, kv.2)) (us.map fun kv => (kL kv.1, kv.2))
  | [], _, r => by cases r; exact .nil
  | p :: ps, _, r => by
    cases r with
    | @cons _ q _ qs h t => exact .cons ⟨congrArg kL h.1, h.2⟩ (KV.mapL (kvs := ps) (us := qs) t)
theorem call_dictF {X : Cx} {W : Wd} (hP : W.P = X.prog) (hw : W.w = X.w) (hK : W.K = X.K) (hcalm : X.calm = true) : CallR X (.type "dict") (rDictF W) := by
  intro pins s σ H xs us Q I r q
  obtain ⟨b, ps, kvs, rfl, hq, hp, q⟩ := q
  obtain ⟨u, rfl, rx⟩ := vals1 r
  cases rx
  rw [hK] at hq
  have hp' : Paired (fun p kv => SqT X.K H p [kV kv.1, kv.2]) ps kvs := hK ▸ hp
  obtain ⟨its, rv, pl, hz⟩ := I.list hq
  obtain rfl := refs_at rv
  rw [List.length_map] at hz
  obtain ⟨prs, rel, hl, hpr⟩ := pairs_of I hp'
  obtain ⟨o, n, ho, hc, hd, hdat⟩ := pl
  refine call_dict_pairs (prs := prs) (I.ok.hd hcalm) ho hc hd hdat (by simp [hl]) (by rw [hl]; exact hz) (fun j q' e => ?_) fun h' tk hd' k => ?_
  · obtain ⟨c, u, e1, e2, e3⟩ := hpr j q' e
    exact ⟨c, u, by simp [e1], e2, e3⟩
  · have hm : (s.heap.objs.size == sysModules) = false := beq_eq_false_iff_ne.mpr (Nat.ne_of_gt I.big)
    have hlen : ((mergeK [] kvs).map fun kv => (kL kv.1, kv.2)).length ≤ sizeLine := by
      rw [List.length_map]
      refine Nat.le_trans (length_mergeK kvs []) ?_
      rw [List.length_nil, Nat.zero_add, rel.length, hl]
      exact hz
    exact ⟨.ref s.heap.objs.size, _, I.laid (t' := tk) k (Nat.le_refl _) (lf_new hP hw hlen hm (KV.mapL (KV.merge rel .nil)) (mix_leaf hd')), rfl, q _ (I.hok.fresh (Nat.le_refl _))⟩
theorem mergeK_nodup : ∀ {more kvs : List (Key × V)}, ((kvs ++ more).map (·.1)).Nodup → mergeK kvs more = kvs ++ more
  | [], kvs, h => by simp [mergeK]
  | p :: ps, kvs, h => by
    have hn : valV kvs p.1 = none := by
      cases e : valV kvs p.1 with
      | none => rfl
      | some v =>
        have h1 := valV_any p.1 kvs
        rw [e] at h1
        obtain ⟨q, hq, hq2⟩ := List.any_eq_true.mp h1
        rw [List.map_append, List.nodup_append] at h
        exact absurd (of_decide_eq_true hq2) (h.2.2 _ (List.mem_map.mpr ⟨q, hq, rfl⟩) _ (by simp))
    show mergeK (putK kvs p.1 p.2) ps = _
    rw [putK_new p.2 hn, mergeK_nodup (by simpa using h)]
    simp
section
variable {W : Wd} {Z : Zn} {G G' F : Hp} {ρ : Ro} {M : Mu} {H : Hp} {Q2 : DQ} {d : DV}
/-- a pair as data -/
def pairD (kd : Key × DV) : DV := .tup [.v (kV kd.1), kd.2]
theorem pairs_at : ∀ {prs : List (Key × DV)} {xs : List V}, DatL W G (prs.map pairD) xs → ∃ (ps : List Addr) (kvs : List (Key × V)), xs = ps.map V.ref ∧ Paired (fun p kv => SqT W.K G p [kV kv.1, kv.2]) ps kvs ∧ kvs.map (·.1) = prs.map (·.1) ∧ KD W G (prs.map fun p => (kL p.1, p.2)) (kvs.map fun kv => (kL kv.1, kv.2))
  | [], xs, h => by
    rw [datL_nil.mp h]
    exact ⟨[], [], rfl, .nil, rfl, .nil⟩
  | (k, d) :: prs, xs, h => by
    obtain ⟨y, r, rfl, h1, h2⟩ := datL_cons.mp h
    obtain ⟨ps, kvs, rfl, e2, e3, e4⟩ := pairs_at h2
    obtain ⟨a, zs, rfl, g2, g3⟩ := dat_tup.mp h1
    obtain ⟨v1, v2, rfl, f1, f2⟩ := two_of g3
    rw [dat_v.mp f1] at g2
    exact ⟨a :: ps, (k, v2) :: kvs, rfl, .cons g2 e2, by simp [e3], .cons f2 e4⟩
theorem wc_dictF {prs : List (Key × DV)} (l : LstOf M d (prs.map pairD)) (hn : (prs.map (·.1)).Nodup) (h : Q2 (dlD (prs.map fun p => (kL p.1, p.2))) M) : WC Z (rDictF Z.W) [d] M Q2 := fun G H vs Q s R x r => by
  obtain ⟨y, rfl, h1⟩ := one_of x
  obtain ⟨a, xs, rfl, e3, e4⟩ := lst_at R h1 l
  obtain ⟨ps, kvs, rfl, g2, g3, g4⟩ := pairs_at e4
  have g2' : Paired (fun p kv => SqT Z.W.K H p [kV kv.1, kv.2]) ps kvs := by
    clear g3 g4 e3 e4
    induction g2 with
    | nil => exact .nil
    | cons h _ ih => exact .cons (sqt_mono R.ex h) ih
  refine ⟨a, ps, kvs, rfl, SqL.of e3, g2', fun p hp => ?_⟩
  rw [mergeK_nodup (by rw [List.nil_append, g3]; exact hn), List.nil_append]
  have sn := same_new (o := leafO Z.W p (kvs.map fun kv => (kL kv.1, kv.2))) (R.gnone hp)
  obtain ⟨zs, f1, f2⟩ := g4.back
  refine r _ _ _ M _ sn (R.new hp) (dat_dl.mpr ⟨p, zs, rfl, ?_, by simp, f2.mono sn⟩) h
  rw [← f1]
  exact upd_same
end
end DL
set_option Elab.async false
set_option linter.all false
set_option maxRecDepth 100000
set_option maxHeartbeats 2000000
/-! DL37: == of dicts of plain values. -/
namespace DL
open PySem PySem.Spec PyProof.Rows L2
def hitB (ls : List (Leaf × V)) (p : Leaf × V) : Bool := match valV ls p.1 with
  | some v => eqV p.2 v
  | none => false
def eqF (ks ls : List (Leaf × V)) : Bool := (ks.length == ls.length) && ks.all (hitB ls)
def flatF (ks : List (Leaf × V)) : Prop := ∀ p ∈ ks, flatV p.2 = true
theorem valV_mem {ls : List (Leaf × V)} {k : Leaf} {v : V} (h : valV ls k = some v) : ∃ p ∈ ls, p.2 = v := by
  unfold valV at h
  obtain ⟨p, h1, h2⟩ := Option.map_eq_some_iff.mp h
  exact ⟨p, List.mem_of_find?_eq_some h1, h2⟩
theorem hitsF {A : Around} {s : Shared} {ls : List (Leaf × V)} {vb : List (Leaf × Value)} (rb : KV ls vb) (fl : flatF ls) : ∀ {ks : List (Leaf × V)} {va : List (Leaf × Value)}, KV ks va → flatF ks → PySem.W.KeqHits A s vb va (ks.all (hitB ls))
  | [], _, ra, _ => by cases ra; exact .nil
  | p :: ps, _, ra, fk => by
    cases ra with
    | @cons _ q _ qs h t =>
      obtain ⟨k, v⟩ := q
      obtain ⟨h1, h2⟩ := h
      have h1' : p.1 = k := h1
      have ih := hitsF (A := A) (s := s) rb fl (ks := ps) (va := qs) t fun p' hp => fk p' (List.mem_cons_of_mem _ hp)
      have rr := rb.val p.1
      rw [List.all_cons]
      unfold hitB
      cases e : valV ls p.1 with
      | none =>
        rw [e, h1'] at rr
        have hn : valueAt vb k = none := by
          cases z : valueAt vb k with
          | none => rfl
          | some _ => rw [z] at rr; exact rr.elim
        simp only [Bool.false_and]
        exact .miss hn
      | some y =>
        rw [e, h1'] at rr
        obtain ⟨y', hy, ry⟩ := rr.some_of
        obtain ⟨q', hq', e'⟩ := valV_mem e
        exact .hit hy (eqAt_V h2 ry (fk p List.mem_cons_self) (e' ▸ fl q' hq')) ih
def rEqF (W : Wd) (neg : Bool) : R2 := fun x y H Q => ∃ a b ks ls, x = .ref a ∧ y = .ref b ∧ H a = some (leafO W a ks) ∧ H b = some (leafO W b ls) ∧ flatF ks ∧ flatF ls ∧ Q (.bl (if neg then !eqF ks ls else eqF ks ls)) H
theorem op_eqF {X : Cx} {W : Wd} (hP : W.P = X.prog) (hw : W.w = X.w) (hu : X.A.units < cLine) : OpR X (compareOp .Eq) (rEqF W false) := by
  intro pins s σ H x y v u Q I rx ry h
  obtain ⟨a, b, ks, ls, rfl, rfl, ea, eb, fk, fl, q⟩ := h
  cases rx
  cases ry
  obtain ⟨_, ya, va, ra, da⟩ := lf_of hP hw I ea
  obtain ⟨_, yb, vb, rb, db⟩ := lf_of hP hw I eb
  exact PySem.W.keq_eq (knd := leafKind X.prog X.w) (r := ks.all (hitB ls)) ya yb da db hu (fun _ => hitsF rb fl ra fk) (fin_bl I q (by rw [← ra.length, ← rb.length]; rfl))
theorem op_neF {X : Cx} {W : Wd} (hP : W.P = X.prog) (hw : W.w = X.w) (hu : X.A.units < cLine) : OpR X (compareOp .NotEq) (rEqF W true) := by
  intro pins s σ H x y v u Q I rx ry h
  obtain ⟨a, b, ks, ls, rfl, rfl, ea, eb, fk, fl, q⟩ := h
  cases rx
  cases ry
  obtain ⟨_, ya, va, ra, da⟩ := lf_of hP hw I ea
  obtain ⟨_, yb, vb, rb, db⟩ := lf_of hP hw I eb
  exact PySem.W.keq_ne (knd := leafKind X.prog X.w) (r := ks.all (hitB ls)) ya yb da db hu (fun _ => hitsF rb fl ra fk) (fin_bl I q (by rw [← ra.length, ← rb.length]; rfl))
section
variable {W : Wd} {Z : Zn} {G : Hp} {M : Mu} {Q2 : DQ} {x y : DV}
def vKV (ks : List (Leaf × V)) : KVs := ks.map fun p => (p.1, .v p.2)
theorem KD.flat : ∀ {ks : List (Leaf × V)} {qs : List (Leaf × V)}, KD W G (vKV ks) qs → qs = ks
  | [], _, h => by cases h; rfl
  | (k, v) :: ks, _, h => by
    cases h with
    | cons h1 t => rw [KD.flat t, dat_v.mp h1]
theorem wr_eqF {ks ls : List (Leaf × V)} {neg : Bool} (l1 : DlOf M x (vKV ks)) (l2 : DlOf M y (vKV ls)) (f1 : flatF ks) (f2 : flatF ls) (h : Q2 (.b (if neg then !eqF ks ls else eqF ks ls)) M) : WR Z (rEqF Z.W neg) x y M Q2 := fun G H vx vy Q s R dx dy r => by
  obtain ⟨a, qs, e1, e2, e3⟩ := dl_at R dx l1
  obtain ⟨b, rs, g1, g2, g3⟩ := dl_at R dy l2
  rw [e3.flat] at e2
  rw [g3.flat] at g2
  exact ⟨a, b, ks, ls, e1, g1, e2, g2, f1, f2, r _ _ G M H (Same.refl G) R dat_v' h⟩
end
end DL
set_option Elab.async false
set_option linter.all false
set_option maxRecDepth 100000
set_option maxHeartbeats 2000000
/-! DL38: many cells frozen at once; xs[::-1]; signs of a text; sorted names. -/
namespace DL
open PySem PySem.Spec PyProof.Rows L2
theorem MLe.of {M M' : Mu} (h : ∀ q, M' q = none ∨ M q = M' q) : MLe M M' := fun q => by
  rcases h q with e | e
  · rw [e]; exact .drop
  · rw [e]; exact .rf
structure Kid where
  key : Leaf
  at_ : Addr
  ds : List DV
def kidsR (b : List Kid) : KVs := b.map fun e => (e.key, .r e.at_)
def kidsF (b : List Kid) : KVs := b.map fun e => (e.key, .lst e.ds)
structure TCells (M M0 : Mu) (x o k C : Addr) (ns : List Str) (ovs : KVs) (b : List Kid) : Prop where
  hx : M x = some (.ins C ns [.r o, .r k])
  ho : M o = some (dlM ovs)
  hk : M k = some (dlM (kidsR b))
  hb : ∀ e ∈ b, M e.at_ = some (.lst e.ds)
  out : ∀ q, q ≠ x → q ≠ o → q ≠ k → (∀ e ∈ b, q ≠ e.at_) → M q = M0 q
  fo : M0 o = none
  fk : M0 k = none
  fb : ∀ e ∈ b, M0 e.at_ = none
  ox : o ≠ x
  kx : k ≠ x
  ok : o ≠ k
  bx : ∀ e ∈ b, e.at_ ≠ x ∧ e.at_ ≠ o ∧ e.at_ ≠ k
  dis : b.Pairwise fun e f => e.at_ ≠ f.at_
section
variable {W : Wd} {Z : Zn} {G F H : Hp} {ρ : Ro} {M M0 : Mu} {x o k C : Addr} {ns : List Str} {ovs : KVs} {b : List Kid}
def inB (o k : Addr) (b : List Kid) (q : Addr) : Bool := decide (q = o) || (decide (q = k) || b.any fun e => decide (q = e.at_))
theorem inB_o : inB o k b o = true := by simp [inB]
theorem inB_k : inB o k b k = true := by simp [inB]
theorem inB_b {e : Kid} (h : e ∈ b) : inB o k b e.at_ = true := by
  simp only [inB, Bool.or_eq_true, decide_eq_true_eq, List.any_eq_true]
  exact .inr (.inr ⟨e, h, rfl⟩)
theorem inB_of {q : Addr} (h : inB o k b q = true) : q = o ∨ q = k ∨ ∃ e ∈ b, q = e.at_ := by
  simpa [inB] using h
theorem inB_no {q : Addr} (h : inB o k b q = false) : q ≠ o ∧ q ≠ k ∧ ∀ e ∈ b, q ≠ e.at_ := by
  refine ⟨fun e => ?_, fun e => ?_, fun e he e' => ?_⟩
  · rw [e, inB_o] at h; cases h
  · rw [e, inB_k] at h; cases h
  · rw [e', inB_b he] at h; cases h
theorem TCells.inM (c : TCells M M0 x o k C ns ovs b) {q : Addr} (h : inB o k b q = true) : (∃ mo, M q = some mo) ∧ M0 q = none ∧ q ≠ x := by
  rcases inB_of h with rfl | rfl | ⟨e, he, rfl⟩
  · exact ⟨⟨_, c.ho⟩, c.fo, c.ox⟩
  · exact ⟨⟨_, c.hk⟩, c.fk, c.kx⟩
  · exact ⟨⟨_, c.hb e he⟩, c.fb e he, (c.bx e he).1⟩
theorem datL_refs {α : Type} {f : α → Addr} : ∀ {l : List α} {xs : List V}, DatL W G (l.map fun e => DV.r (f e)) xs → xs = l.map fun e => V.ref (f e)
  | [], xs, h => datL_nil.mp h
  | e :: l, xs, h => by
    obtain ⟨y, r, rfl, h1, h2⟩ := datL_cons.mp h
    rw [dat_v.mp h1, datL_refs h2]
    rfl
theorem TCells.freeze (c : TCells M M0 x o k C ns ovs b) (hn : ns.length = 2) (R : Rep W G M F H) : ∃ G', Same G G' ∧ Rep W G' (updM M0 x (.ins C ns [dlD ovs, dlD (kidsF b)])) F H := by
  refine ⟨fun q => if inB o k b q = true then H q else G q, ?_, ?_⟩
  · have hs : Same G (fun q => if inB o k b q = true then H q else G q) := fun q u hq => by
      show (if inB o k b q = true then H q else G q) = some u
      by_cases e : inB o k b q = true
      · obtain ⟨⟨mo, hm⟩, _⟩ := c.inM e
        rw [(R.mu q mo hm).1] at hq
        cases hq
      · rw [if_neg e]; exact hq
    exact hs
  · have hs : Same G (fun q => if inB o k b q = true then H q else G q) := fun q u hq => by
      show (if inB o k b q = true then H q else G q) = some u
      by_cases e : inB o k b q = true
      · obtain ⟨⟨mo, hm⟩, _⟩ := c.inM e
        rw [(R.mu q mo hm).1] at hq
        cases hq
      · rw [if_neg e]; exact hq
    refine ⟨fun q u hq => ?_, R.fr, fun q u hq => ?_, fun q mo hq => ?_⟩
    · replace hq : (if inB o k b q = true then H q else G q) = some u := hq
      by_cases e : inB o k b q = true
      · rw [if_pos e] at hq; exact hq
      · rw [if_neg e] at hq; exact R.ex q u hq
    · obtain ⟨h1, h2⟩ := R.fd q u hq
      have hn' : inB o k b q = false := by
        cases e : inB o k b q with
        | false => rfl
        | true =>
          obtain ⟨⟨mo, hm⟩, _⟩ := c.inM e
          rw [hm] at h2
          cases h2
      have hqx : q ≠ x := fun e => by rw [e, c.hx] at h2; cases h2
      obtain ⟨a1, a2, a3⟩ := inB_no hn'
      refine ⟨?_, ?_⟩
      · show (if inB o k b q = true then H q else G q) = none
        rw [hn', if_neg Bool.false_ne_true]; exact h1
      · rw [updM_ne hqx, ← c.out q hqx a1 a2 a3]; exact h2
    · by_cases e : q = x
      · subst e
        rw [updM_same] at hq
        cases hq
        obtain ⟨g0, dx, xs, hH, hl, hd⟩ := R.mu _ _ c.hx
        have hxn : inB o k b q = false := by
          cases e : inB o k b q with
          | false => rfl
          | true => exact absurd rfl (c.inM e).2.2
        refine ⟨?_, dx, xs, hH, hn, ?_⟩
        · show (if inB o k b q = true then H q else G q) = none
          rw [hxn, if_neg Bool.false_ne_true]; exact g0
        · obtain ⟨y1, r1, rfl, d1, hd⟩ := datL_cons.mp hd
          obtain ⟨y2, r2, rfl, d2, hd⟩ := datL_cons.mp hd
          rw [datL_nil.mp hd]
          refine datL_cons' ?_ (datL_cons' ?_ datL_nil')
          · obtain ⟨_, zs, hz, hzl, hzd⟩ := R.mu _ _ c.ho
            refine dat_dl.mpr ⟨o, zs, dat_v.mp d1, ?_, hzl, hzd.mono hs⟩
            show (if inB o k b o = true then H o else G o) = _
            rw [inB_o, if_pos rfl]; exact hz
          · obtain ⟨_, zs, hz, hzl, hzd⟩ := R.mu _ _ c.hk
            have ez : zs = b.map fun e => V.ref e.at_ := datL_refs (f := Kid.at_) (by rw [show (b.map fun e => DV.r e.at_) = (kidsR b).map (·.2) by simp [kidsR, Function.comp_def]]; exact hzd)
            refine dat_dl.mpr ⟨k, zs, dat_v.mp d2, ?_, by simp [kidsF], ?_⟩
            · show (if inB o k b k = true then H k else G k) = _
              rw [inB_k, if_pos rfl, hz]
              have : (kidsR b).map (·.1) = (kidsF b).map (·.1) := by simp [kidsR, kidsF, Function.comp_def]
              rw [this]
            · rw [ez]
              have key : ∀ l : List Kid, (∀ e ∈ l, e ∈ b) → DatL W (fun q => if inB o k b q = true then H q else G q) ((kidsF l).map (·.2)) (l.map fun e => V.ref e.at_) := by
                intro l
                induction l with
                | nil => intro _; exact datL_nil'
                | cons e l ih =>
                  intro hm
                  refine datL_cons' ?_ (ih fun f hf => hm f (List.mem_cons_of_mem _ hf))
                  have he := hm e List.mem_cons_self
                  obtain ⟨_, ys, hy, hyd⟩ := R.mu _ _ (c.hb e he)
                  refine dat_lst.mpr ⟨e.at_, ys, rfl, ?_, hyd.mono hs⟩
                  show (if inB o k b e.at_ = true then H e.at_ else G e.at_) = _
                  rw [inB_b he, if_pos rfl]; exact hy
              exact key b fun _ h => h
      · rw [updM_ne e] at hq
        have hn' : inB o k b q = false := by
          cases e' : inB o k b q with
          | false => rfl
          | true => rw [(c.inM e').2.1] at hq; cases hq
        obtain ⟨a1, a2, a3⟩ := inB_no hn'
        rw [← c.out q e a1 a2 a3] at hq
        obtain ⟨g0, hm⟩ := R.mu q mo hq
        refine ⟨?_, hm.mono hs⟩
        show (if inB o k b q = true then H q else G q) = none
        rw [hn', if_neg Bool.false_ne_true]; exact g0
theorem ws_frzT {ts : TS} {D2 : Ends2} (c : TCells M M0 x o k C ns ovs b) (hn : ns.length = 2) (h : WS Z ts D2 ρ (updM M0 x (.ins C ns [dlD ovs, dlD (kidsF b)]))) : WS Z ts D2 ρ M := fun G σ H D s R E e => by
  obtain ⟨G', s', R'⟩ := c.freeze hn R
  exact h G' σ H D (s.trans s') R' (E.mono s') (e.mono s')
end
/-! ### xs[::-1] -/
section
variable {W : Wd} {Z : Zn} {ρ : Ro} {M : Mu} {Q2 : DQ} {te : TE}
def tRevD (K : PySem.W.Frag) (te : TE) : TE := tRevL K te
theorem k_rev {X : Cx} {K : PySem.W.Frag} {e : Expr} {te : TE} {k : Nat} {p1 p2 p3 pos : Pos} (eK : X.K = K) (he : PE X e te) : PE X (.Subscript e (.Slice none none (some (.UnaryOp .USub (.Constant (.int 1) k p1) p2)) p3) pos) (tRevD K te) := eK ▸ pe_revL he
theorem we_rev (h : WE Z te ρ M fun d M1 => ∃ ds, LstOf M1 d ds ∧ Q2 (.lst ds.reverse) M1) : WE Z (tRevD Z.W.K te) ρ M Q2 := fun G σ H Q s R E r =>
  h G σ H _ s R E fun d v G' M' H' s' R' x ⟨ds, l, q⟩ => by
    obtain ⟨a, xs, rfl, h1, h2⟩ := lst_at R' x l
    refine ⟨a, xs, rfl, SqL.of h1, fun p hp => ?_⟩
    exact r _ _ (upd G' p (.lst xs.reverse)) M' _ (s'.trans (same_new (R'.gnone hp))) (R'.new hp) (dat_lst.mpr ⟨p, xs.reverse, rfl, by simp [upd], (h2.mono (same_new (R'.gnone hp))).reverse⟩) q
end
end DL
set_option Elab.async false
set_option linter.all false
set_option maxRecDepth 100000
set_option maxHeartbeats 2000000
/-! DL39: trees, plainly. -/
namespace DL
open PySem PySem.Spec PyProof.Rows L2
abbrev Prs := List (Str × Option Str)
def kidsOf (ps : Prs) (o : Option Str) : List Str := (ps.filter fun p => decide (p.2 = o)).map (·.1)
def namesOf (ps : Prs) : List Str := ps.map (·.1)
structure okPair (told : List Str) (p : Str × Option Str) : Prop where
  nm : nameB p.1 = true
  new : p.1 ∉ told
  ov : ∀ c, p.2 = some c → c ∈ told
def TrF : List Str → Prs → Prop
  | _, [] => True
  | told, p :: r => okPair told p ∧ TrF (told ++ [p.1]) r
structure Tr (ps : Prs) : Prop where
  len : ps.length ≤ 8
  ok : TrF [] ps
theorem TrF.get : ∀ {ps : Prs} {told : List Str} {i : Nat} {p : Str × Option Str}, TrF told ps → ps[i]? = some p → okPair (told ++ namesOf (ps.take i)) p
  | [], told, i, p, h, e => by simp at e
  | q :: ps, told, 0, p, h, e => by
    simp at e
    subst e
    simpa [namesOf] using h.1
  | q :: ps, told, i + 1, p, h, e => by
    have := TrF.get h.2 (i := i) (by simpa using e)
    simpa [namesOf] using this
theorem TrF.of : ∀ {ps : Prs} {told : List Str}, (∀ (i : Nat) p, ps[i]? = some p → okPair (told ++ namesOf (ps.take i)) p) → TrF told ps
  | [], told, h => trivial
  | q :: ps, told, h => ⟨by simpa [namesOf] using h 0 q rfl, TrF.of fun i p e => by simpa [namesOf] using h (i + 1) p (by simpa using e)⟩
theorem TrF.nodup : ∀ {ps : Prs} {told : List Str}, TrF told ps → told.Nodup → (told ++ namesOf ps).Nodup
  | [], told, h, hn => by simpa [namesOf] using hn
  | q :: ps, told, h, hn => by
    have := TrF.nodup h.2 (by
      rw [List.nodup_append]
      refine ⟨hn, by simp, ?_⟩
      intro a ha b hb e
      simp at hb
      subst hb e
      exact h.1.new ha)
    simpa [namesOf] using this
section
variable {ps : Prs}
theorem Tr.nodup (t : Tr ps) : (namesOf ps).Nodup := by simpa using t.ok.nodup List.nodup_nil
theorem Tr.pair (t : Tr ps) {i : Nat} {p : Str × Option Str} (h : ps[i]? = some p) : okPair (namesOf (ps.take i)) p := by simpa using t.ok.get h
theorem Tr.name (t : Tr ps) {c : Str} (h : c ∈ namesOf ps) : nameB c = true := by
  obtain ⟨p, hp, rfl⟩ := List.mem_map.mp h
  obtain ⟨i, hi⟩ := List.getElem?_of_mem hp
  exact (t.pair hi).nm
theorem Tr.take (t : Tr ps) (n : Nat) : Tr (ps.take n) := ⟨by rw [List.length_take]; have := t.len; omega, TrF.of fun i p e => by
  have hi : i < n := by
    have := (List.getElem?_eq_some_iff.mp e).1
    rw [List.length_take] at this
    omega
  rw [List.getElem?_take_of_lt hi] at e
  have := t.pair e
  rw [List.take_take, Nat.min_eq_left (by omega)]
  simpa using this⟩
theorem names_len : (namesOf ps).length = ps.length := by simp [namesOf]
theorem names_get {i : Nat} {p : Str × Option Str} (h : ps[i]? = some p) : (namesOf ps)[i]? = some p.1 := by simp [namesOf, h]
theorem mem_kids {o : Option Str} {c : Str} : c ∈ kidsOf ps o ↔ (c, o) ∈ ps := by
  simp only [kidsOf, List.mem_map, List.mem_filter, decide_eq_true_eq]
  constructor
  · rintro ⟨⟨c', o'⟩, ⟨h1, rfl⟩, rfl⟩; exact h1
  · intro h; exact ⟨(c, o), ⟨h, rfl⟩, rfl⟩
theorem kids_names {o : Option Str} {c : Str} (h : c ∈ kidsOf ps o) : c ∈ namesOf ps := List.mem_map.mpr ⟨_, mem_kids.mp h, rfl⟩
/-- how far a column stands from the end -/
def rk (ps : Prs) : Option Str → Nat
  | none => ps.length
  | some c => ps.length - 1 - posS c (namesOf ps)
theorem rk_kid (t : Tr ps) {o : Option Str} {c : Str} (h : c ∈ kidsOf ps o) : rk ps (some c) < rk ps o := by
  have hc := kids_names h
  obtain ⟨i, hi⟩ := List.getElem?_of_mem (mem_kids.mp h)
  have ei : posS c (namesOf ps) = i := posS_eq t.nodup (names_get hi)
  have li : i < ps.length := (List.getElem?_eq_some_iff.mp hi).1
  cases o with
  | none =>
    show ps.length - 1 - posS c (namesOf ps) < ps.length
    omega
  | some d =>
    have hd := (t.pair hi).ov d rfl
    obtain ⟨j, hj⟩ := List.getElem?_of_mem hd
    have hj' : (namesOf (ps.take i))[j]? = some d := hj
    have lj : j < i := by
      have := (List.getElem?_eq_some_iff.mp hj').1
      rw [names_len, List.length_take] at this
      omega
    have hj2 : (namesOf ps)[j]? = some d := by
      rw [show namesOf (ps.take i) = (namesOf ps).take i by simp [namesOf], List.getElem?_take_of_lt lj] at hj'
      exact hj'
    have ej : posS d (namesOf ps) = j := posS_eq t.nodup hj2
    show ps.length - 1 - posS c (namesOf ps) < ps.length - 1 - posS d (namesOf ps)
    omega
def ordF (ps : Prs) : Nat → Option Str → List Str
  | 0, _ => []
  | n + 1, o => (kidsOf ps o).flatMap fun c => c :: ordF ps n (some c)
theorem flatMap_congr' {α β : Type} {f g : α → List β} : ∀ {l : List α}, (∀ x ∈ l, f x = g x) → l.flatMap f = l.flatMap g
  | [], h => rfl
  | x :: l, h => by
    rw [List.flatMap_cons, List.flatMap_cons, h x List.mem_cons_self, flatMap_congr' fun y hy => h y (List.mem_cons_of_mem _ hy)]
theorem ordF_stab (t : Tr ps) : ∀ (n : Nat) (o : Option Str), rk ps o ≤ n → ordF ps n o = ordF ps (n + 1) o
  | 0, o, h => by
    have : kidsOf ps o = [] := by
      cases e : kidsOf ps o with
      | nil => rfl
      | cons c l =>
        have := rk_kid t (o := o) (c := c) (by rw [e]; exact List.mem_cons_self)
        omega
    show [] = (kidsOf ps o).flatMap fun c => c :: ordF ps 0 (some c)
    rw [this]
    rfl
  | n + 1, o, h => by
    show ((kidsOf ps o).flatMap fun c => c :: ordF ps n (some c)) = (kidsOf ps o).flatMap fun c => c :: ordF ps (n + 1) (some c)
    refine flatMap_congr' fun c hc => ?_
    rw [ordF_stab t n (some c) (by have := rk_kid t hc; omega)]
theorem ordF_more (t : Tr ps) {n m : Nat} {o : Option Str} (h : rk ps o ≤ n) (hm : n ≤ m) : ordF ps m o = ordF ps n o := by
  obtain ⟨k, rfl⟩ := Nat.le.dest hm
  clear hm
  induction k with
  | zero => rfl
  | succ k ih => rw [← ih, ← Nat.add_assoc]; exact (ordF_stab t (n + k) o (by omega)).symm
def ord (ps : Prs) (o : Option Str) : List Str := ordF ps ps.length o
theorem rk_le (o : Option Str) : rk ps o ≤ ps.length := by
  cases o with
  | none => exact Nat.le_refl _
  | some c => show ps.length - 1 - posS c (namesOf ps) ≤ ps.length; omega
theorem ord_eq (t : Tr ps) (o : Option Str) : ord ps o = (kidsOf ps o).flatMap fun c => c :: ord ps (some c) := by
  unfold ord
  rw [← ordF_more t (rk_le o) (Nat.le_succ _)]
  rfl
end
end DL
set_option Elab.async false
set_option linter.all false
set_option maxRecDepth 100000
set_option maxHeartbeats 2000000
/-! DL40: a tree as data; words for walks over dicts. -/
namespace DL
open PySem PySem.Spec PyProof.Rows L2
theorem huF {A : Around} {k : Nat} (hr : Room k A) : A.units < cLine := by have := hr.un; omega
def optD : Option Str → DV
  | none => .n
  | some c => .s c
def optL : Option Str → Leaf
  | none => .none
  | some c => .text c
theorem optD_lD (o : Option Str) : optD o = lD (optL o) := by cases o <;> rfl
theorem optL_inj {o o' : Option Str} (h : optL o = optL o') : o = o' := by
  cases o <;> cases o' <;> first | rfl | (cases h; rfl) | cases h
abbrev namesD (zs : List Str) : DV := .lst (zs.map DV.s)
def ovsOf (ps : Prs) : KVs := ps.map fun p => (.text p.1, optD p.2)
def kdsOf (ps : Prs) : KVs := (.none, namesD (kidsOf ps none)) :: ps.map fun p => (.text p.1, namesD (kidsOf ps (some p.1)))
def treeD (C : Addr) (ps : Prs) : DV := .obj C ["overs", "kids", "order"] [dlD (ovsOf ps), dlD (kdsOf ps), namesD (ord ps none)]
section
variable {ps : Prs}
theorem valL_map {α : Type} {f : α → Leaf} {g : α → DV} {x : α} (hi : ∀ y z : α, f y = f z → g y = g z) : ∀ {l : List α}, x ∈ l → valL (l.map fun y => (f y, g y)) (f x) = some (g x)
  | [], h => by cases h
  | y :: l, h => by
    rw [List.map_cons]
    by_cases e : f y = f x
    · rw [valL_pos (p := (f y, g y)) e, hi y x e]
    · rw [valL_neg (p := (f y, g y)) e]
      rcases List.mem_cons.mp h with h | h
      · rw [h] at e; exact absurd rfl e
      · exact valL_map hi h
theorem valL_none {k : Leaf} : ∀ {kvs : KVs}, (∀ kv ∈ kvs, kv.1 ≠ k) → valL kvs k = none
  | [], h => rfl
  | p :: r, h => by rw [valL_neg (h p List.mem_cons_self)]; exact valL_none fun kv hk => h kv (List.mem_cons_of_mem _ hk)
def overOf (ps : Prs) (c : Str) : Option Str := ((ps.find? fun p => decide (p.1 = c)).map (·.2)).getD none
theorem overOf_cons_pos {p : Str × Option Str} {r : Prs} {c : Str} (e : p.1 = c) : overOf (p :: r) c = p.2 := by simp [overOf, List.find?_cons, e]
theorem overOf_cons_neg {p : Str × Option Str} {r : Prs} {c : Str} (e : ¬ p.1 = c) : overOf (p :: r) c = overOf r c := by simp [overOf, List.find?_cons, e]
theorem overOf_mem : ∀ {ps : Prs} {c : Str} {o : Option Str}, (namesOf ps).Nodup → (c, o) ∈ ps → overOf ps c = o
  | [], c, o, hn, h => by cases h
  | p :: r, c, o, hn, h => by
    rw [namesOf, List.map_cons, List.nodup_cons] at hn
    by_cases e : p.1 = c
    · rw [overOf_cons_pos e]
      rcases List.mem_cons.mp h with h | h
      · rw [← h]
      · exact absurd (List.mem_map.mpr ⟨_, h, rfl⟩) (by rw [← e]; exact hn.1)
    · rw [overOf_cons_neg e]
      rcases List.mem_cons.mp h with h | h
      · rw [← h] at e; exact absurd rfl e
      · exact overOf_mem hn.2 h
theorem overOf_in : ∀ {ps : Prs} {c : Str}, c ∈ namesOf ps → (c, overOf ps c) ∈ ps
  | [], c, h => by cases h
  | p :: r, c, h => by
    by_cases e : p.1 = c
    · rw [overOf_cons_pos e, ← e]; exact List.mem_cons_self
    · rw [overOf_cons_neg e]
      refine List.mem_cons_of_mem _ (overOf_in ?_)
      rcases List.mem_cons.mp h with h | h
      · exact absurd h.symm e
      · exact h
theorem ovs_val : ∀ {ps : Prs} {c : Str}, c ∈ namesOf ps → valL (ovsOf ps) (.text c) = some (optD (overOf ps c))
  | [], c, h => by cases h
  | p :: r, c, h => by
    by_cases e : p.1 = c
    · rw [overOf_cons_pos e]
      exact valL_pos (p := (Leaf.text p.1, optD p.2)) (by rw [e])
    · rw [overOf_cons_neg e]
      refine (valL_neg (p := (Leaf.text p.1, optD p.2)) (fun h => e (by injection h))).trans (ovs_val ?_)
      rcases List.mem_cons.mp h with h | h
      · exact absurd h.symm e
      · exact h
theorem ovs_no {c : Str} (h : c ∉ namesOf ps) : valL (ovsOf ps) (.text c) = none := valL_none fun kv hk => by
  obtain ⟨p, hp, rfl⟩ := List.mem_map.mp hk
  intro e
  injection e with e
  exact h (List.mem_map.mpr ⟨p, hp, e⟩)
theorem ovs_is (c : Str) : (valL (ovsOf ps) (.text c)).isSome = decide (c ∈ namesOf ps) := by
  by_cases h : c ∈ namesOf ps
  · rw [ovs_val h, decide_eq_true h]; rfl
  · rw [ovs_no h, decide_eq_false h]; rfl
theorem kds_none : valL (kdsOf ps) .none = some (namesD (kidsOf ps none)) := valL_pos rfl
theorem kds_val {c : Str} (h : c ∈ namesOf ps) : valL (kdsOf ps) (.text c) = some (namesD (kidsOf ps (some c))) := by
  unfold kdsOf
  rw [valL_neg (by intro e; cases e)]
  obtain ⟨p, hp, rfl⟩ := List.mem_map.mp h
  exact valL_map (f := fun p : Str × Option Str => Leaf.text p.1) (g := fun p => namesD (kidsOf ps (some p.1))) (fun y z e => by injection e with e; simp only [e]) hp
theorem kds_opt {o : Option Str} (h : ∀ c, o = some c → c ∈ namesOf ps) : valL (kdsOf ps) (optL o) = some (namesD (kidsOf ps o)) := by
  cases o with
  | none => exact kds_none
  | some c => exact kds_val (h c rfl)
end
/-! words -/
section
variable {Z : Zn} {ρ : Ro} {M : Mu} {Q2 : DQ} {kvs : KVs} {e : DV}
theorem wr_ixS' {c : Str} (hv : valL kvs (.text c) = some e) (h : Q2 e M) : WR Z (rIxF Z.W) (dlD kvs) (.s c) M Q2 := wr_ixF (k := .text c) (.inl rfl) hv h
theorem wr_ixN (hv : valL kvs .none = some e) (h : Q2 e M) : WR Z (rIxF Z.W) (dlD kvs) .n M Q2 := wr_ixF (k := .none) (.inl rfl) hv h
theorem wr_ixO {o : Option Str} (hv : valL kvs (optL o) = some e) (h : Q2 e M) : WR Z (rIxF Z.W) (dlD kvs) (optD o) M Q2 := by
  rw [optD_lD]; exact wr_ixF (.inl rfl) hv h
theorem wr_inSF {c : Str} (h : Q2 (.b (valL kvs (.text c)).isSome) M) : WR Z (rInF Z.W false) (.s c) (dlD kvs) M Q2 := wr_inF' (k := .text c) (neg := false) (.inl rfl) h
theorem wr_niSF {c : Str} (h : Q2 (.b (!(valL kvs (.text c)).isSome)) M) : WR Z (rInF Z.W true) (.s c) (dlD kvs) M Q2 := wr_inF' (k := .text c) (neg := true) (.inl rfl) h
theorem wr_inOvs {c : Str} {ps : Prs} (h : Q2 (.b (decide (c ∈ namesOf ps))) M) : WR Z (rInF Z.W false) (.s c) (dlD (ovsOf ps)) M Q2 := wr_inSF (by rw [ovs_is]; exact h)
theorem wr_niOvs {c : Str} {ps : Prs} (h : Q2 (.b (!decide (c ∈ namesOf ps))) M) : WR Z (rInF Z.W true) (.s c) (dlD (ovsOf ps)) M Q2 := wr_niSF (by rw [ovs_is]; exact h)
end
end DL
set_option Elab.async false
set_option linter.all false
set_option maxRecDepth 100000
set_option maxHeartbeats 2000000
/-! DL41: the order of a tree: each column once. -/
namespace DL
open PySem PySem.Spec PyProof.Rows L2
theorem len_sub {α : Type} [DecidableEq α] : ∀ {l m : List α}, l.Nodup → (∀ x ∈ l, x ∈ m) → l.length ≤ m.length
  | [], m, h, hs => Nat.zero_le _
  | x :: l, m, h, hs => by
    have hx := hs x List.mem_cons_self
    rw [List.nodup_cons] at h
    have := len_sub (l := l) (m := m.erase x) h.2 (fun y hy => (List.mem_erase_of_ne (show y ≠ x from fun e => h.1 (e ▸ hy))).mpr (hs y (List.mem_cons_of_mem _ hy)))
    rw [List.length_erase_of_mem hx] at this
    have h0 : 0 < m.length := List.length_pos_of_mem hx
    rw [List.length_cons]
    omega
theorem perm_nodup {α : Type} [DecidableEq α] : ∀ {l m : List α}, l.Nodup → m.Nodup → (∀ x, x ∈ l ↔ x ∈ m) → l.Perm m
  | [], m, h1, h2, h => by
    cases m with
    | nil => exact .refl _
    | cons y m => exact absurd ((h y).mpr List.mem_cons_self) (by simp)
  | x :: l, m, h1, h2, h => by
    have hx := (h x).mp List.mem_cons_self
    rw [List.nodup_cons] at h1
    have h3 : l.Perm (m.erase x) := perm_nodup h1.2 (h2.erase x) fun y => by
      rw [h2.mem_erase_iff]
      constructor
      · intro hy; exact ⟨fun e => h1.1 (e ▸ hy), (h y).mp (List.mem_cons_of_mem _ hy)⟩
      · rintro ⟨n, hy⟩
        rcases List.mem_cons.mp ((h y).mpr hy) with e | e
        · exact absurd e n
        · exact e
    exact (h3.cons x).trans (List.perm_cons_erase hx).symm
def up (ps : Prs) : Option Str → Option Str
  | none => none
  | some c => overOf ps c
def upN (ps : Prs) : Nat → Option Str → Option Str
  | 0, o => o
  | n + 1, o => upN ps n (up ps o)
section
variable {ps : Prs}
theorem upN_add : ∀ (i j : Nat) (o : Option Str), upN ps (i + j) o = upN ps j (upN ps i o)
  | 0, j, o => by rw [Nat.zero_add]; rfl
  | i + 1, j, o => by rw [Nat.succ_add]; exact upN_add i j (up ps o)
theorem upN_succ (i : Nat) (o : Option Str) : upN ps (i + 1) o = up ps (upN ps i o) := upN_add i 1 o
theorem overOf_no : ∀ {ps : Prs} {c : Str}, c ∉ namesOf ps → overOf ps c = none
  | [], c, h => rfl
  | p :: r, c, h => by
    have h1 : ¬ p.1 = c := fun e => h (List.mem_map.mpr ⟨p, List.mem_cons_self, e⟩)
    rw [overOf_cons_neg h1]
    exact overOf_no fun e => h (List.mem_cons_of_mem _ e)
theorem over_kid {c : Str} (h : c ∈ namesOf ps) : c ∈ kidsOf ps (overOf ps c) := mem_kids.mpr (overOf_in h)
theorem kid_over (t : Tr ps) {o : Option Str} {c : Str} (h : c ∈ kidsOf ps o) : overOf ps c = o := overOf_mem t.nodup (mem_kids.mp h)
theorem rk_up (t : Tr ps) (o : Option Str) : rk ps o ≤ rk ps (up ps o) := by
  cases o with
  | none => exact Nat.le_refl _
  | some c =>
    by_cases h : c ∈ namesOf ps
    · exact Nat.le_of_lt (rk_kid t (over_kid h))
    · show rk ps (some c) ≤ rk ps (overOf ps c)
      rw [overOf_no h]
      exact rk_le _
theorem rk_upN (t : Tr ps) : ∀ (n : Nat) (o : Option Str), rk ps o ≤ rk ps (upN ps n o)
  | 0, o => Nat.le_refl _
  | n + 1, o => Nat.le_trans (rk_up t o) (rk_upN t n (up ps o))
theorem ord_up (t : Tr ps) : ∀ {n : Nat} {o : Option Str} {x : Str}, x ∈ ordF ps n o → ∃ k c, c ∈ kidsOf ps o ∧ upN ps k (some x) = some c
  | 0, o, x, h => by cases h
  | n + 1, o, x, h => by
    obtain ⟨c, hc, hx⟩ := List.mem_flatMap.mp h
    rcases List.mem_cons.mp hx with rfl | hx
    · exact ⟨0, x, hc, rfl⟩
    · obtain ⟨k, d, hd, hk⟩ := ord_up t hx
      refine ⟨k + 1, c, hc, ?_⟩
      rw [upN_succ, hk]
      exact kid_over t hd
theorem kids_nodup (t : Tr ps) (o : Option Str) : (kidsOf ps o).Nodup := by
  have h : (kidsOf ps o).Sublist (namesOf ps) := List.Sublist.map _ List.filter_sublist
  exact h.nodup t.nodup
theorem same_kid (t : Tr ps) {o : Option Str} {c d x : Str} (hc : c ∈ kidsOf ps o) (hd : d ∈ kidsOf ps o) {i j : Nat} (hi : upN ps i (some x) = some c) (hj : upN ps j (some x) = some d) : c = d := by
  have key : ∀ {c d : Str} {i j : Nat}, c ∈ kidsOf ps o → d ∈ kidsOf ps o → upN ps i (some x) = some c → upN ps j (some x) = some d → i ≤ j → c = d := by
    intro c d i j hc hd hi hj hij
    obtain ⟨m, rfl⟩ := Nat.le.dest hij
    rw [upN_add, hi] at hj
    cases m with
    | zero => injection hj
    | succ m =>
      have h1 : upN ps m (up ps (some c)) = some d := hj
      rw [show up ps (some c) = o from kid_over t hc] at h1
      have h2 := rk_upN t m o
      rw [h1] at h2
      have h3 := rk_kid t hd
      omega
  rcases Nat.le_total i j with h | h
  · exact key hc hd hi hj h
  · exact (key hd hc hj hi h).symm
theorem nodup_flatMap {α β : Type} {f : α → List β} : ∀ {l : List α}, l.Nodup → (∀ x ∈ l, (f x).Nodup) → (∀ x ∈ l, ∀ y ∈ l, x ≠ y → ∀ z, z ∈ f x → z ∈ f y → False) → (l.flatMap f).Nodup
  | [], _, _, _ => List.nodup_nil
  | x :: l, h, h1, h2 => by
    rw [List.nodup_cons] at h
    rw [List.flatMap_cons, List.nodup_append]
    refine ⟨h1 x List.mem_cons_self, nodup_flatMap h.2 (fun y hy => h1 y (List.mem_cons_of_mem _ hy)) (fun y hy z hz => h2 y (List.mem_cons_of_mem _ hy) z (List.mem_cons_of_mem _ hz)), ?_⟩
    intro a ha b hb e
    subst e
    obtain ⟨y, hy, hb⟩ := List.mem_flatMap.mp hb
    exact h2 x List.mem_cons_self y (List.mem_cons_of_mem _ hy) (fun e => h.1 (e ▸ hy)) a ha hb
theorem ordF_nodup (t : Tr ps) : ∀ (n : Nat) (o : Option Str), (ordF ps n o).Nodup
  | 0, o => List.nodup_nil
  | n + 1, o => by
    refine nodup_flatMap (kids_nodup t o) (fun c hc => ?_) fun c hc d hd ne z h1 h2 => ne ?_
    · rw [List.nodup_cons]
      refine ⟨fun h => ?_, ordF_nodup t n (some c)⟩
      obtain ⟨k, d, hd, hk⟩ := ord_up t h
      have h1 := rk_upN t k (some c)
      rw [hk] at h1
      have h2 := rk_kid t hd
      omega
    · have e1 : ∀ c, c ∈ kidsOf ps o → z ∈ c :: ordF ps n (some c) → ∃ k, upN ps k (some z) = some c := by
        intro c hc hz
        rcases List.mem_cons.mp hz with rfl | hz
        · exact ⟨0, rfl⟩
        · obtain ⟨k, d, hd, hk⟩ := ord_up t hz
          exact ⟨k + 1, by rw [upN_succ, hk]; exact kid_over t hd⟩
      obtain ⟨i, hi⟩ := e1 c hc h1
      obtain ⟨j, hj⟩ := e1 d hd h2
      exact same_kid t hc hd hi hj
theorem ord_nodup (t : Tr ps) (o : Option Str) : (ord ps o).Nodup := ordF_nodup t _ o
theorem beneath_nodup (t : Tr ps) (c : Str) : (c :: ord ps (some c)).Nodup := by
  rw [List.nodup_cons]
  refine ⟨fun h => ?_, ord_nodup t _⟩
  obtain ⟨k, d, hd, hk⟩ := ord_up t h
  have h1 := rk_upN t k (some c)
  rw [hk] at h1
  have h2 := rk_kid t hd
  omega
theorem ordF_names : ∀ {n : Nat} {o : Option Str} {x : Str}, x ∈ ordF ps n o → x ∈ namesOf ps
  | 0, o, x, h => by cases h
  | n + 1, o, x, h => by
    obtain ⟨c, hc, hx⟩ := List.mem_flatMap.mp h
    rcases List.mem_cons.mp hx with rfl | hx
    · exact kids_names hc
    · exact ordF_names hx
theorem ord_names {o : Option Str} {x : Str} (h : x ∈ ord ps o) : x ∈ namesOf ps := ordF_names h
theorem ord_len (t : Tr ps) (o : Option Str) : (ord ps o).length ≤ ps.length := by
  rw [← names_len]
  exact len_sub (ord_nodup t o) fun x h => ord_names h
theorem beneath_len (t : Tr ps) {c : Str} (h : c ∈ namesOf ps) : (c :: ord ps (some c)).length ≤ ps.length := by
  rw [← names_len]
  refine len_sub (beneath_nodup t c) fun x hx => ?_
  rcases List.mem_cons.mp hx with rfl | hx
  · exact h
  · exact ord_names hx
theorem ord_kid (t : Tr ps) {o : Option Str} {c : Str} (h : c ∈ kidsOf ps o) : c ∈ ord ps o := by
  rw [ord_eq t]
  exact List.mem_flatMap.mpr ⟨c, h, List.mem_cons_self⟩
theorem ordF_step (t : Tr ps) : ∀ {n : Nat} {o : Option Str} {c d : Str}, d ∈ ordF ps n o → c ∈ kidsOf ps (some d) → c ∈ ordF ps (n + 1) o
  | 0, o, c, d, h, hc => by cases h
  | n + 1, o, c, d, h, hc => by
    obtain ⟨k, hk, hd⟩ := List.mem_flatMap.mp h
    refine List.mem_flatMap.mpr ⟨k, hk, List.mem_cons_of_mem _ ?_⟩
    rcases List.mem_cons.mp hd with rfl | hd
    · exact List.mem_flatMap.mpr ⟨c, hc, List.mem_cons_self⟩
    · exact ordF_step t hd hc
theorem ord_step (t : Tr ps) {o : Option Str} {c d : Str} (h : d ∈ ord ps o) (hc : c ∈ kidsOf ps (some d)) : c ∈ ord ps o := by
  have := ordF_step t h hc
  rw [ordF_more t (rk_le o) (Nat.le_succ _)] at this
  exact this
theorem ord_all (t : Tr ps) : ∀ (n : Nat) {c : Str}, c ∈ namesOf ps → ps.length ≤ rk ps (some c) + n → c ∈ ord ps none
  | 0, c, h, hn => by
    have h1 := rk_kid t (over_kid h)
    have h2 := rk_le (ps := ps) (overOf ps c)
    omega
  | n + 1, c, h, hn => by
    have hk := over_kid h
    have h1 := rk_kid t hk
    cases e : overOf ps c with
    | none => rw [e] at hk; exact ord_kid t hk
    | some d =>
      rw [e] at hk h1
      have hd : d ∈ namesOf ps := by
        obtain ⟨i, hi⟩ := List.getElem?_of_mem (mem_kids.mp hk)
        have := (t.pair hi).ov d rfl
        rw [show namesOf (ps.take i) = (namesOf ps).take i by simp [namesOf]] at this
        exact List.mem_of_mem_take this
      exact ord_step t (ord_all t n hd (by omega)) hk
theorem ord_mem (t : Tr ps) {c : Str} : c ∈ ord ps none ↔ c ∈ namesOf ps := ⟨ord_names, fun h => ord_all t ps.length h (by omega)⟩
theorem ord_perm (t : Tr ps) : (ord ps none).Perm (namesOf ps) := perm_nodup (ord_nodup t none) t.nodup fun _ => ord_mem t
end
end DL
set_option Elab.async false
set_option linter.all false
set_option maxRecDepth 100000
set_option maxHeartbeats 2000000
/-! DL42: the cells of a tree while it is made. -/
namespace DL
open PySem PySem.Spec PyProof.Rows L2
def addK (k : Leaf) (d : DV) (e : Kid) : Kid := if e.key = k then { e with ds := e.ds ++ [d] } else e
theorem addK_key (k : Leaf) (d : DV) (e : Kid) : (addK k d e).key = e.key := by unfold addK; split <;> rfl
theorem addK_at (k : Leaf) (d : DV) (e : Kid) : (addK k d e).at_ = e.at_ := by unfold addK; split <;> rfl
section
variable {M M0 : Mu} {x o k C : Addr} {ns : List Str} {ovs ovs' : KVs} {b : List Kid}
theorem TCells.fresh (c : TCells M M0 x o k C ns ovs b) {q : Addr} (h : M q = none) : q ≠ x ∧ q ≠ o ∧ q ≠ k ∧ (∀ e ∈ b, q ≠ e.at_) ∧ M0 q = none := by
  have h1 : q ≠ x := fun e => by rw [e, c.hx] at h; cases h
  have h2 : q ≠ o := fun e => by rw [e, c.ho] at h; cases h
  have h3 : q ≠ k := fun e => by rw [e, c.hk] at h; cases h
  have h4 : ∀ e ∈ b, q ≠ e.at_ := fun e he e' => by rw [e', c.hb e he] at h; cases h
  exact ⟨h1, h2, h3, h4, by rw [← c.out q h1 h2 h3 h4]; exact h⟩
theorem TCells.setO (c : TCells M M0 x o k C ns ovs b) : TCells (updM M o (dlM ovs')) M0 x o k C ns ovs' b where
  hx := by rw [updM_ne (Ne.symm c.ox)]; exact c.hx
  ho := updM_same
  hk := by rw [updM_ne (Ne.symm c.ok)]; exact c.hk
  hb := fun e he => by rw [updM_ne (c.bx e he).2.1]; exact c.hb e he
  out := fun q h1 h2 h3 h4 => by rw [updM_ne h2]; exact c.out q h1 h2 h3 h4
  fo := c.fo
  fk := c.fk
  fb := c.fb
  ox := c.ox
  kx := c.kx
  ok := c.ok
  bx := c.bx
  dis := c.dis
theorem TCells.newKid (c : TCells M M0 x o k C ns ovs b) {q : Addr} (h : M q = none) (key : Leaf) : TCells (updM (updM M q (.lst [])) k (dlM (kidsR b ++ [(key, .r q)]))) M0 x o k C ns ovs (b ++ [⟨key, q, []⟩]) := by
  obtain ⟨f1, f2, f3, f4, f5⟩ := c.fresh h
  exact {
    hx := by rw [updM_ne (Ne.symm c.kx), updM_ne (Ne.symm f1)]; exact c.hx
    ho := by rw [updM_ne c.ok, updM_ne (Ne.symm f2)]; exact c.ho
    hk := by rw [updM_same]; simp [kidsR]
    hb := fun e he => by
      rcases List.mem_append.mp he with he | he
      · rw [updM_ne (c.bx e he).2.2, updM_ne (Ne.symm (f4 e he))]; exact c.hb e he
      · rw [List.mem_singleton.mp he, updM_ne f3, updM_same]
    out := fun q' h1 h2 h3 h4 => by
      rw [updM_ne h3, updM_ne (h4 ⟨key, q, []⟩ (List.mem_append.mpr (.inr (List.mem_singleton.mpr rfl))))]
      exact c.out q' h1 h2 h3 fun e he => h4 e (List.mem_append.mpr (.inl he))
    fo := c.fo
    fk := c.fk
    fb := fun e he => by
      rcases List.mem_append.mp he with he | he
      · exact c.fb e he
      · rw [List.mem_singleton.mp he]; exact f5
    ox := c.ox
    kx := c.kx
    ok := c.ok
    bx := fun e he => by
      rcases List.mem_append.mp he with he | he
      · exact c.bx e he
      · rw [List.mem_singleton.mp he]; exact ⟨f1, f2, f3⟩
    dis := by
      rw [List.pairwise_append]
      refine ⟨c.dis, List.pairwise_singleton _ _, fun e he f hf => ?_⟩
      rw [List.mem_singleton.mp hf]
      exact Ne.symm (f4 e he) }
theorem pair_ne {α β : Type} {f : α → β} : ∀ {l : List α}, l.Pairwise (fun e g => f e ≠ f g) → ∀ {e g : α}, e ∈ l → g ∈ l → f e = f g → e = g
  | [], h, e, g, he, hg, q => by cases he
  | y :: l, h, e, g, he, hg, q => by
    rw [List.pairwise_cons] at h
    rcases List.mem_cons.mp he with rfl | he
    · rcases List.mem_cons.mp hg with rfl | hg
      · rfl
      · exact absurd q (h.1 g hg)
    · rename_i he'
      rcases List.mem_cons.mp hg with hg | hg
      · rw [hg] at q; exact absurd q.symm (h.1 e (by assumption))
      · exact pair_ne h.2 (by assumption) hg q
theorem valL_kid : ∀ {b : List Kid} {e : Kid}, (b.map (·.key)).Nodup → e ∈ b → valL (kidsR b) e.key = some (.r e.at_)
  | [], e, hn, he => by cases he
  | f :: b, e, hn, he => by
    rw [List.map_cons, List.nodup_cons] at hn
    rcases List.mem_cons.mp he with rfl | he
    · exact valL_pos (p := (e.key, DV.r e.at_)) rfl
    · refine (valL_neg (p := (f.key, DV.r f.at_)) (fun h => hn.1 ?_)).trans (valL_kid hn.2 he)
      exact List.mem_map.mpr ⟨e, he, h.symm⟩
theorem key_inj {b : List Kid} (hn : (b.map (·.key)).Nodup) {e f : Kid} (he : e ∈ b) (hf : f ∈ b) (h : e.key = f.key) : e = f :=
  pair_ne (f := Kid.key) (List.pairwise_map.mp hn) he hf h
theorem TCells.add (c : TCells M M0 x o k C ns ovs b) (hn : (b.map (·.key)).Nodup) {e : Kid} (he : e ∈ b) (d : DV) : TCells (updM M e.at_ (.lst (e.ds ++ [d]))) M0 x o k C ns ovs (b.map (addK e.key d)) := by
  obtain ⟨b1, b2, b3⟩ := c.bx e he
  exact {
    hx := by rw [updM_ne (Ne.symm b1)]; exact c.hx
    ho := by rw [updM_ne (Ne.symm b2)]; exact c.ho
    hk := by
      rw [updM_ne (Ne.symm b3)]
      have : kidsR (b.map (addK e.key d)) = kidsR b := by simp [kidsR, addK_key, addK_at]
      rw [this]; exact c.hk
    hb := fun f hf => by
      obtain ⟨f', hf', rfl⟩ := List.mem_map.mp hf
      rw [addK_at]
      by_cases h : f' = e
      · subst h
        rw [updM_same]
        simp [addK]
      · have h1 : f'.at_ ≠ e.at_ := fun q => h (pair_ne c.dis hf' he q)
        have h2 : f'.key ≠ e.key := fun q => h (key_inj hn hf' he q)
        rw [updM_ne h1]
        simp only [addK, if_neg h2]
        exact c.hb f' hf'
    out := fun q h1 h2 h3 h4 => by
      rw [updM_ne (by have := h4 _ (List.mem_map.mpr ⟨e, he, rfl⟩); rw [addK_at] at this; exact this)]
      exact c.out q h1 h2 h3 fun f hf => by
        have := h4 _ (List.mem_map.mpr ⟨f, hf, rfl⟩)
        rw [addK_at] at this
        exact this
    fo := c.fo
    fk := c.fk
    fb := fun f hf => by
      obtain ⟨f', hf', rfl⟩ := List.mem_map.mp hf
      rw [addK_at]; exact c.fb f' hf'
    ox := c.ox
    kx := c.kx
    ok := c.ok
    bx := fun f hf => by
      obtain ⟨f', hf', rfl⟩ := List.mem_map.mp hf
      rw [addK_at]; exact c.bx f' hf'
    dis := by
      rw [List.pairwise_map]
      exact c.dis.imp fun {u v} h => by rw [addK_at, addK_at]; exact h }
end
/-! what the lists hold -/
section
variable {acc : Prs} {p : Str × Option Str} {b : List Kid}
def appD : DV → DV → DV
  | .lst ds, d => .lst (ds ++ [d])
  | x, _ => x
def addF (k : Leaf) (d : DV) (kv : Leaf × DV) : Leaf × DV := if kv.1 = k then (kv.1, appD kv.2 d) else kv
theorem kidsF_add (k : Leaf) (d : DV) (b : List Kid) : kidsF (b.map (addK k d)) = (kidsF b).map (addF k d) := by
  simp only [kidsF, List.map_map]
  refine List.map_congr_left fun e _ => ?_
  simp only [Function.comp_def, addK, addF]
  by_cases h : e.key = k
  · simp [if_pos h, appD]
  · simp [if_neg h]
theorem kidsOf_snoc (o : Option Str) : kidsOf (acc ++ [p]) o = kidsOf acc o ++ (if p.2 = o then [p.1] else []) := by
  simp only [kidsOf, List.filter_append, List.map_append]
  congr 1
  by_cases h : p.2 = o
  · simp [h]
  · simp [h]
theorem kids_new (t : Tr acc) {c : Str} (h : c ∉ namesOf acc) : kidsOf acc (some c) = [] := by
  cases e : kidsOf acc (some c) with
  | nil => rfl
  | cons d l =>
    have hd : d ∈ kidsOf acc (some c) := by rw [e]; exact List.mem_cons_self
    obtain ⟨i, hi⟩ := List.getElem?_of_mem (mem_kids.mp hd)
    have := (t.pair hi).ov c rfl
    rw [show namesOf (acc.take i) = (namesOf acc).take i by simp [namesOf]] at this
    exact absurd (List.mem_of_mem_take this) h
theorem addF_opt (o o' : Option Str) (c : Str) (zs : List Str) : addF (optL o) (.s c) (optL o', namesD zs) = (optL o', namesD (zs ++ if o = o' then [c] else [])) := by
  unfold addF
  by_cases h : o = o'
  · subst h
    simp [appD, namesD]
  · rw [if_neg (fun e => h (optL_inj e).symm), if_neg h, List.append_nil]
theorem kds_step (t : Tr acc) (ok : okPair (namesOf acc) p) : (kdsOf acc ++ [(Leaf.text p.1, DV.lst [])]).map (addF (optL p.2) (.s p.1)) = kdsOf (acc ++ [p]) := by
  have h0 := addF_opt p.2 none p.1 (kidsOf acc none)
  have h1 : ∀ q : Str × Option Str, addF (optL p.2) (.s p.1) (Leaf.text q.1, namesD (kidsOf acc (some q.1))) = (Leaf.text q.1, namesD (kidsOf (acc ++ [p]) (some q.1))) := fun q => by
    have := addF_opt p.2 (some q.1) p.1 (kidsOf acc (some q.1))
    rw [kidsOf_snoc]
    exact this
  have h2 : addF (optL p.2) (.s p.1) (Leaf.text p.1, DV.lst []) = (Leaf.text p.1, namesD (kidsOf (acc ++ [p]) (some p.1))) := by
    rw [← h1 p, kids_new t ok.new]
    rfl
  unfold kdsOf
  rw [List.map_append, List.map_cons, List.map_cons, List.map_nil, List.map_map, h2, List.map_append, List.map_cons, List.map_nil]
  have h3 : addF (optL p.2) (.s p.1) (Leaf.none, namesD (kidsOf acc none)) = (Leaf.none, namesD (kidsOf (acc ++ [p]) none)) := by
    rw [kidsOf_snoc]; exact h0
  rw [h3]
  have h4 : List.map (addF (optL p.2) (DV.s p.1) ∘ fun p => (Leaf.text p.1, namesD (kidsOf acc (some p.1)))) acc = List.map (fun p_1 => (Leaf.text p_1.1, namesD (kidsOf (acc ++ [p]) (some p_1.1)))) acc := List.map_congr_left fun q _ => h1 q
  rw [h4]
  rfl
theorem kids_keys (h : kidsF b = kdsOf acc) : b.map (·.key) = .none :: acc.map fun p => .text p.1 := by
  have : (kidsF b).map (·.1) = (kdsOf acc).map (·.1) := by rw [h]
  simpa [kidsF, kdsOf, Function.comp_def] using this
theorem kids_nodupK (t : Tr acc) (h : kidsF b = kdsOf acc) : (b.map (·.key)).Nodup := by
  rw [kids_keys h, List.nodup_cons]
  refine ⟨fun e => ?_, ?_⟩
  · obtain ⟨p, _, e⟩ := List.mem_map.mp e
    cases e
  · have := t.nodup
    rw [namesOf, List.Nodup, List.pairwise_map] at this
    rw [List.Nodup, List.pairwise_map]
    exact this.imp fun {u v} h e => h (by injection e)
theorem ovs_snoc (ok : okPair (namesOf acc) p) : putL (ovsOf acc) (.text p.1) (optD p.2) = ovsOf (acc ++ [p]) := by
  rw [putL_new _ (ovs_no ok.new)]
  simp [ovsOf]
theorem TrF.snoc : ∀ {acc : Prs} {told : List Str}, TrF told acc → okPair (told ++ namesOf acc) p → TrF told (acc ++ [p])
  | [], told, h, ok => ⟨by simpa [namesOf] using ok, trivial⟩
  | q :: acc, told, h, ok => ⟨h.1, TrF.snoc h.2 (by simpa [namesOf] using ok)⟩
theorem Tr.snoc (t : Tr acc) (hl : acc.length < 8) (ok : okPair (namesOf acc) p) : Tr (acc ++ [p]) := ⟨by simp; omega, t.ok.snoc (by simpa using ok)⟩
theorem Tr.nil : Tr [] := ⟨by decide, trivial⟩
end
/-! things that are pairs -/
def pairOver (told : List Str) (c : Str) : DV → Option (Str × Option Str)
  | .v .non => some (c, none)
  | .v (.str o) => if nameB o = true ∧ o ∈ told then some (c, some o) else none
  | _ => none
def pairOf (told : List Str) : DV → Option (Str × Option Str)
  | .tup [.v (.str c), e] => if nameB c = true ∧ c ∉ told then pairOver told c e else none
  | _ => none
theorem pairOf_ok {told : List Str} {d : DV} {p : Str × Option Str} (h : pairOf told d = some p) : okPair told p ∧ d = .tup [.s p.1, optD p.2] := by
  unfold pairOf at h
  split at h
  · rename_i c e
    split at h
    · rename_i hc
      unfold pairOver at h
      split at h
      · cases h
        exact ⟨⟨hc.1, hc.2, fun _ h => by cases h⟩, rfl⟩
      · split at h
        · rename_i ho
          cases h
          exact ⟨⟨hc.1, hc.2, fun _ h => by cases h; exact ho.2⟩, rfl⟩
        · cases h
      · cases h
    · cases h
  · cases h
theorem pairOf_of {told : List Str} {p : Str × Option Str} (ok : okPair told p) (hn : ∀ c ∈ told, nameB c = true) : pairOf told (.tup [.s p.1, optD p.2]) = some p := by
  obtain ⟨c, o⟩ := p
  show (if nameB c = true ∧ c ∉ told then pairOver told c (optD o) else none) = _
  rw [if_pos ⟨ok.nm, ok.new⟩]
  cases o with
  | none => rfl
  | some d =>
    show (if nameB d = true ∧ d ∈ told then _ else _) = _
    rw [if_pos ⟨hn d (ok.ov d rfl), ok.ov d rfl⟩]
def readP : Prs → List DV → Int ⊕ Prs
  | acc, [] => .inr acc
  | acc, e :: es => if acc.length = 8 then .inl (acc.length : Nat) else match pairOf (namesOf acc) e with
    | none => .inl (acc.length : Nat)
    | some p => readP (acc ++ [p]) es
def treeM (M : Mu) (d : DV) : Int ⊕ Prs := match lstM M d with
  | none => .inl (-1)
  | some es => readP [] es
abbrev pairsD (ps : Prs) : List DV := ps.map fun p => .tup [.s p.1, optD p.2]
theorem readP_of : ∀ {qs acc : Prs}, Tr (acc ++ qs) → readP acc (pairsD qs) = .inr (acc ++ qs)
  | [], acc, t => by simp [readP]
  | p :: qs, acc, t => by
    have hl := t.len
    rw [List.length_append, List.length_cons] at hl
    have hp := t.pair (i := acc.length) (p := p) (by simp)
    rw [List.take_left] at hp
    have hn : ∀ c ∈ namesOf acc, nameB c = true := fun c hc => t.name (by simp [namesOf] at hc ⊢; exact .inl hc)
    show (if acc.length = 8 then _ else match pairOf (namesOf acc) (.tup [.s p.1, optD p.2]) with | none => _ | some p => readP (acc ++ [p]) (pairsD qs)) = _
    rw [if_neg (by omega), pairOf_of hp hn]
    have := readP_of (qs := qs) (acc := acc ++ [p]) (by simpa using t)
    simpa using this
theorem readP_tr : ∀ {es : List DV} {acc ps : Prs}, Tr acc → readP acc es = .inr ps → Tr ps ∧ acc.length ≤ ps.length ∧ pairsD ps = pairsD acc ++ es
  | [], acc, ps, t, h => by
    cases h
    exact ⟨t, Nat.le_refl _, by simp⟩
  | e :: es, acc, ps, t, h => by
    simp only [readP] at h
    split at h
    · cases h
    · rename_i h8
      cases hp : pairOf (namesOf acc) e with
      | none => rw [hp] at h; cases h
      | some p =>
        rw [hp] at h
        obtain ⟨ok, rfl⟩ := pairOf_ok hp
        obtain ⟨h1, h2, h3⟩ := readP_tr (t.snoc (by have := t.len; omega) ok) h
        refine ⟨h1, by rw [List.length_append] at h2; omega, ?_⟩
        rw [h3]
        simp [pairsD]
end DL
set_option Elab.async false
set_option linter.all false
set_option maxRecDepth 100000
set_option maxHeartbeats 2000000
/-! DL43: a store seen otherwise; the last cell of an object is frozen. -/
namespace DL
open PySem PySem.Spec PyProof.Rows L2
def Frz (W : Wd) (M M' : Mu) : Prop := ∀ G F H, Rep W G M F H → ∃ G', Same G G' ∧ Rep W G' M' F H
section
variable {W : Wd} {Z : Zn} {G F H : Hp} {ρ : Ro} {M M' M2 M0 : Mu} {x o k r C : Addr} {ns : List Str} {ds l : List DV} {ovs : KVs} {b : List Kid} {Q2 : DQ}
theorem Frz.rfl : Frz W M M := fun G F H R => ⟨G, Same.refl G, R⟩
theorem Frz.trans (h : Frz W M M') (h' : Frz W M' M2) : Frz W M M2 := fun G F H R => by
  obtain ⟨G1, s1, R1⟩ := h G F H R
  obtain ⟨G2, s2, R2⟩ := h' G1 F H R1
  exact ⟨G2, s1.trans s2, R2⟩
theorem Frz.le (h : MLe M M') : Frz W M M' := fun G F H R => ⟨G, Same.refl G, R.weak h⟩
theorem ws_frzN {ts : TS} {D2 : Ends2} (h : WS Z ts { nx := fun ρ' M' => ∃ M2, Frz Z.W M' M2 ∧ D2.nx ρ' M2, rt := D2.rt, bk := D2.bk, ct := D2.ct } ρ M) : WS Z ts D2 ρ M := fun G σ H D s R E e =>
  h G σ H D s R E ⟨fun ρ' σ' G' M' H' s' R' E' ⟨M2, f, q⟩ => by
    obtain ⟨G2, s2, R2⟩ := f G' _ H' R'
    exact e.nx ρ' σ' G2 M2 H' (s'.trans s2) R2 (E'.mono s2) q, e.rt, e.bk, e.ct⟩
theorem ws_frzA {ts : TS} {D2 : Ends2} (f : Frz Z.W M M') (h : WS Z ts D2 ρ M') : WS Z ts D2 ρ M := fun G σ H D s R E e => by
  obtain ⟨G2, s2, R2⟩ := f G _ H R
  exact h G2 σ H D (s.trans s2) R2 (E.mono s2) (e.mono s2)
theorem we_frzA {te : TE} (f : Frz Z.W M M') (h : WE Z te ρ M' Q2) : WE Z te ρ M Q2 := fun G σ H Q s R E e => by
  obtain ⟨G2, s2, R2⟩ := f G _ H R
  exact h G2 σ H Q (s.trans s2) R2 (E.mono s2) (e.mono s2)
/-- what is told is seen otherwise -/
theorem we_frzR {te : TE} (h : WE Z te ρ M fun d M1 => ∃ M2, Frz Z.W M1 M2 ∧ Q2 d M2) : WE Z te ρ M Q2 := fun G σ H Q s R E r =>
  h G σ H Q s R E fun d v G' M' H' s' R' x ⟨M2, f, q⟩ => by
    obtain ⟨G2, s2, R2⟩ := f G' _ H' R'
    exact r d v G2 M2 H' (s'.trans s2) R2 (x.mono s2) q
theorem Rep.relab {o o' : MO} (R : Rep W G M F H) (hm : M x = some o) (h : MAt W G H x o → MAt W G H x o') : Rep W G (updM M x o') F H where
  ex := R.ex
  fr := R.fr
  fd := fun q u hq => by
    obtain ⟨h1, h2⟩ := R.fd q u hq
    exact ⟨h1, by rw [updM_ne (fun e => by rw [e, hm] at h2; cases h2)]; exact h2⟩
  mu := fun q mo hq => by
    by_cases e : q = x
    · subst e
      rw [updM_same] at hq
      cases hq
      exact ⟨(R.mu q _ hm).1, h (R.mu q _ hm).2⟩
    · rw [updM_ne e] at hq
      exact R.mu q mo hq
theorem DatL.snoc_of : ∀ {ds : List DV} {d : DV} {xs : List V}, DatL W G (ds ++ [d]) xs → ∃ ys y, xs = ys ++ [y] ∧ DatL W G ds ys ∧ Dat W G d y
  | [], d, xs, h => by
    obtain ⟨y, r, rfl, h1, h2⟩ := datL_cons.mp h
    rw [datL_nil.mp h2]
    exact ⟨[], y, rfl, datL_nil', h1⟩
  | e :: ds, d, xs, h => by
    obtain ⟨y, r, rfl, h1, h2⟩ := datL_cons.mp h
    obtain ⟨ys, z, rfl, h3, h4⟩ := DatL.snoc_of h2
    exact ⟨y :: ys, z, rfl, datL_cons' h1 h3, h4⟩
theorem frz_last (hr : M r = none) (ne : r ≠ x) : Frz W (updM (updM M x (.ins C ns (ds ++ [.r r]))) r (.lst l)) (updM M x (.ins C ns (ds ++ [.lst l]))) := fun G F H R => by
  obtain ⟨G', s, R1, d1⟩ := R.freeze (a := r) (mo := .lst l) updM_same trivial
  rw [delM_updM (by rw [updM_ne ne]; exact hr)] at R1
  have d1' : Dat W G' (.lst l) (.ref r) := d1
  refine ⟨G', s, ?_⟩
  have := R1.relab (x := x) (o := .ins C ns (ds ++ [.r r])) (o' := .ins C ns (ds ++ [.lst l])) updM_same (fun ⟨dx, xs, h1, h2, h3⟩ => by
    obtain ⟨ys, y, rfl, h4, h5⟩ := DatL.snoc_of h3
    rw [dat_v.mp h5] at h1
    refine ⟨dx, ys ++ [.ref r], h1, by simpa using h2, h4.append (datL_cons' d1' datL_nil')⟩)
  rw [updM_upd] at this
  exact this
theorem frz_one {mo : MO} (hr : M r = some mo) (so : mo.solid) : Frz W M (delM M r) := fun G F H R => by
  obtain ⟨G', s, R1, d1⟩ := R.freeze hr so
  exact ⟨G', s, R1⟩
theorem TCells.frz (c : TCells M M0 x o k C ns ovs b) (hn : ns.length = 2) : Frz W M (updM M0 x (.ins C ns [dlD ovs, dlD (kidsF b)])) := fun G F H R => c.freeze hn R
theorem TCells.lst {d : DV} {es : List DV} {C' : Addr} {ns' : List Str} {ds' : List DV} (c : TCells M M0 x o k C ns ovs b) (h0 : M0 x = some (.ins C' ns' ds')) (l : LstOf M0 d es) : LstOf M d es := by
  rcases l with l | ⟨q, e, hq⟩
  · exact .inl l
  · refine .inr ⟨q, e, ?_⟩
    rw [c.out q (fun e => by rw [e, h0] at hq; cases hq) (fun e => by rw [e, c.fo] at hq; cases hq) (fun e => by rw [e, c.fk] at hq; cases hq) (fun f hf e => by rw [e, c.fb f hf] at hq; cases hq)]
    exact hq
theorem kdM_keep {d : DV} {k : Kd} (h : ∀ q ds, M0 q = some (.lst ds) → M q = some (.lst ds)) (hk : kdM M0 d = some k) : kdM M d = some k := by
  unfold kdM at hk
  split at hk
  all_goals first | (cases hk; rfl) | (cases hk; done) | skip
  rename_i q
  split at hk
  · rename_i ds e
    cases hk
    exact kd_r (h q ds e)
  · cases hk
theorem Kn.keep {d : DV} (h : ∀ q ds, M0 q = some (.lst ds) → M q = some (.lst ds)) (k : Kn M0 d) : Kn M d := ⟨k.1.elim fun k hk => ⟨k, kdM_keep h hk⟩, k.2⟩
theorem TCells.keep {C' : Addr} {ns' : List Str} {ds' : List DV} (c : TCells M M0 x o k C ns ovs b) (h0 : M0 x = some (.ins C' ns' ds')) : ∀ q ds, M0 q = some (.lst ds) → M q = some (.lst ds) := fun q ds hq => by
  rw [c.out q (fun e => by rw [e, h0] at hq; cases hq) (fun e => by rw [e, c.fo] at hq; cases hq) (fun e => by rw [e, c.fk] at hq; cases hq) (fun f hf e => by rw [e, c.fb f hf] at hq; cases hq)]
  exact hq
theorem TCells.le (c : TCells M M0 x o k C ns ovs b) : MLe M (delM M0 x) := .of fun q => by
  by_cases e : q = x
  · subst e; exact .inl delM_same
  · rw [delM_ne e]
    cases hb : inB o k b q with
    | true => exact .inl (c.inM hb).2.1
    | false =>
      obtain ⟨a1, a2, a3⟩ := inB_no hb
      exact .inr (c.out q e a1 a2 a3)
theorem TCells.start {q : Addr} (ho : M0 o = none) (hk : M0 k = none) (hq : M0 q = none) (ox : o ≠ x) (kx : k ≠ x) (qx : q ≠ x) (ok : o ≠ k) (qo : q ≠ o) (qk : q ≠ k) (hM : ∀ y, M y = if y = x then some (.ins C ns [.r o, .r k]) else if y = k then some (dlM [(.none, .r q)]) else if y = q then some (.lst []) else if y = o then some (dlM []) else M0 y) :
    TCells M M0 x o k C ns (ovsOf []) [⟨.none, q, []⟩] where
  hx := by rw [hM]; simp
  ho := by rw [hM]; simp [ox, ok, Ne.symm qo, ovsOf]
  hk := by rw [hM]; simp [kx, kidsR]
  hb := fun e he => by rw [List.mem_singleton.mp he, hM]; simp [qx, qk]
  out := fun y h1 h2 h3 h4 => by
    have := h4 _ (List.mem_singleton.mpr rfl)
    rw [hM, if_neg h1, if_neg h3, if_neg this, if_neg h2]
  fo := ho
  fk := hk
  fb := fun e he => by rw [List.mem_singleton.mp he]; exact hq
  ox := ox
  kx := kx
  ok := ok
  bx := fun e he => by rw [List.mem_singleton.mp he]; exact ⟨qx, qo, qk⟩
  dis := List.pairwise_singleton _ _
end
end DL
set_option Elab.async false
set_option linter.all false
set_option maxRecDepth 100000
set_option maxHeartbeats 2000000
/-! DL44: things made within a try; signs of a text. -/
namespace DL
open PySem PySem.Spec PyProof.Rows L2
section
variable {X : Cx} {CX : CXT} {k : Nat} {f C : Addr} {fd : FuncData} {ps : List Str} {sp : Sp} {dvs : List V} {ds : List Value} {EE : L2.St → XK} {x : Str} {p pos : Pos} {e : Expr} {es : List Expr} {t : TA}
theorem run_makeS {pins : List (Addr × PySem.Obj)} {σ : L2.St} {H : Hp} {s : Shared} {Q : VK} {us : List Value} {vs : List V} (M : Mk X.K C f) (F : FnOk X.prog X.w X.K X.mg X.base CX k f fd ps sp) (hr : Room (k + 1) X.A) (hb : Binds X.K fd ps ds) (hd : Vals dvs ds)
    (hx : PassesAt CX X σ (EE σ)) (I : Inv X pins σ H s) (r : Vals vs us)
    (h : ∀ x dx, H x = none → H dx = none → dx ≠ x → sp (.ref x :: (vs ++ dvs)) (upd (upd H dx (.own x)) x (.ins C dx [])) (fun v H2 => v = .non ∧ Q (.ref x) H2) (EE σ)) :
    wpAny (model X.prog X.w) X.A (call (.ref C) us) (EP X pins σ Q) X.xe s := by
  have hq := h (s.heap.objs.size + 1) s.heap.objs.size (I.hok.fresh (Nat.le_succ _)) (I.hok.fresh (Nat.le_refl _)) (Nat.ne_of_lt (Nat.lt_succ_self _))
  have I2 := Inv.made (C := C) I
  have r2 : Vals (V.ref (s.heap.objs.size + 1) :: (vs ++ dvs)) (Value.ref (s.heap.objs.size + 1) :: (us ++ ds)) := .cons rfl (r.append hd)
  have hl : (Value.ref (s.heap.objs.size + 1) :: us ++ ds).length = ps.length := by
    have e := r2.length
    rw [F.len _ _ _ _ hq] at e
    exact e.symm
  refine wpAny_call (make_map (f := f) I.kIn M.makes M.init (beq_iff_eq.mp M.fn) (codeAny_mono (F.run _ X.stack _ _ ⟨Value.ref (s.heap.objs.size + 1) :: us, []⟩ (Value.ref (s.heap.objs.size + 1) :: (us ++ ds)) _ _ (EE σ) (hr.make C us [])
    (I2.env0.make C us []) (hb _ (Value.ref (s.heap.objs.size + 1) :: us) I2.kIn hl) r2 hq) fun r s' hq' => ?_))
  cases r with
  | error e => exact hx pins _ _ e s' I2 hq'
  | ok fl =>
    cases fl with
    | ret u =>
      obtain ⟨v, H', I3, rv, ev, q3⟩ := I2.after hq'
      subst ev
      exact ⟨rv, ⟨V.ref (s.heap.objs.size + 1), H', I3, rfl, q3⟩⟩
    | next => exact False.elim hq'
    | brk => exact False.elim hq'
    | cont => exact False.elim hq'
theorem pe_makeY (M : Mk X.K C f) (F : FnOk X.prog X.w X.K X.mg X.base CX k f fd ps sp) (hr : Room (k + 1) X.A) (hg : Gl X x) (hm : X.mg x = some (.ref C)) (hb : Binds X.K fd ps ds) (hd : Vals dvs ds) (hx : ∀ σ, PassesAt CX X σ (EE σ))
    (ha : PA X (e :: es) t) (hdb : (x == ("__debug__" : Str)) = false := by decide) (he : starEach (e :: es) X.env = (false, eval e X.env) :: starEach es X.env := by rfl) (hpl : (backTo pos (starEach es X.env)).any (·.1) = false := by rfl) :
    PE X (.Call (.Name x p) (e :: es) [] pos) (tMakeY C sp dvs EE t) := by
  refine ⟨fun pins s σ H Q I h => ?_⟩
  refine wpAny_Call_Name_kw (ld_glob I hg hm ?_ hdb)
  refine PySem.W.callWith_K (h₀ := X.base) I.ok.mod.kin M.kp (thn (ha.run pos pins s σ H _ I h) fun us s1 ⟨vs, H1, I1, r, q⟩ => ⟨I1.kIn, ?_⟩) he hpl
  exact run_makeS M F hr hb hd (hx σ) I1 r q
end
section
variable {Z : Zn} {ρ : Ro} {M : Mu} {tx : TA} {ta : TE} {Q2 : DQ} {sp2 : Sp2} {dvs : List V} {W2 : WX2} {Wx : WX}
theorem we_makeY {C : Addr} (hw : WxOk Z W2 Wx) (h : WA Z tx ρ M fun es M1 => ∀ x, M1 x = none → sp2 (.r x :: (es ++ dvs.map DV.v)) (updM M1 x (.ins C [] [])) (fun d M2 => d = .n ∧ ∃ mo, M2 x = some mo ∧ mo.solid ∧ Q2 mo.frz (delM M2 x)) (fun C ns es M' => ∃ M2, MLe M' M2 ∧ W2 C ns es ρ M2)) :
    WE Z (tMakeY C (lift Z.W sp2) dvs (L2.WE Wx) tx) ρ M Q2 := fun G σ H Q s R E r =>
  h G σ H _ s R E fun es vs G1 M1 H1 s1 R1 xs q y dx hy hd ne => by
    refine ⟨G1, Z.F, _, _, _, _, R1.made hy hd ne, datL_cons' dat_v' (xs.append (datL_v dvs)), q y (R1.mnone hy), fun d v G2 M2 H2 s2 R2 x2 q2 => ?_, fun C' ns es' d' G' M' H' s' R' x' q' => ?_⟩
    · obtain ⟨rfl, mo, hm, so, q3⟩ := q2
      obtain ⟨G3, s3, R3, x3⟩ := R2.freeze hm so
      exact ⟨dat_v.mp x2, r _ _ G3 _ H2 ((s1.trans s2).trans s3) R3 x3 q3⟩
    · obtain ⟨M2, l, q'⟩ := q'
      exact hw C' ns es' d' ρ σ G' M2 H' ((s.trans s1).trans s') (R'.weak l) (E.mono (s1.trans s')) x' q'
end
/-! ### signs -/
def chr (c : Nat) : Str := ⟨#[c]⟩
def chrs (z : Str) : List Str := z.cps.toList.map chr
theorem chrs_len (z : Str) : (chrs z).length = z.cps.size := by simp [chrs]
theorem its_ok {W : Wd} {G : Hp} {z : Str} : ItOk W G (Its z) ((chrs z).map DV.s) where
  go := fun i G' F M H' s R h => by
    rw [List.length_map, chrs_len] at h
    exact h
  stop := fun i G' F M H' s R h => by
    rw [List.length_map, chrs_len] at h
    exact h
  yld := fun i d G' F M H' x H'' s R hd h => by
    obtain ⟨rfl, c, hc, rfl⟩ := h
    have : d = .s (chr c) := by
      rw [List.getElem?_map, chrs, List.getElem?_map, Array.getElem?_toList, hc] at hd
      simpa using hd.symm
    subst this
    exact ⟨G', Same.refl _, R, dat_v'⟩
section
variable {Z : Zn} {ρ : Ro} {M : Mu} {te : TE} {Q2 : DQ}
theorem wi_str {R2 : List DV → Mu → Prop} (h : WE Z te ρ M fun d M1 => ∃ z, d = .s z ∧ R2 ((chrs z).map DV.s) M1) : WI Z (iStr te) ρ M R2 := fun G σ H R s Rp E r =>
  h G σ H _ s Rp E fun d v G1 M1 H1 s1 R1 x ⟨z, e, q⟩ => by
    subst e
    exact ⟨z, dat_v.mp x, r _ _ G1 M1 H1 s1 R1 its_ok q⟩
theorem wr_inSg {c : Nat} {z : Str} (h : Q2 (.b (decide (c ∈ z.cps.toList))) M) : WR Z rInS (.s (chr c)) (.s z) M Q2 := fun G H vx vy Q s R dx dy r =>
  ⟨c, z, dat_v.mp dx, dat_v.mp dy, r _ _ G M H (Same.refl G) R dat_v' h⟩
theorem wr_niSg {c : Nat} {z : Str} (h : Q2 (.b (!decide (c ∈ z.cps.toList))) M) : WR Z rNotInS (.s (chr c)) (.s z) M Q2 := fun G H vx vy Q s R dx dy r =>
  ⟨c, z, dat_v.mp dx, dat_v.mp dy, r _ _ G M H (Same.refl G) R dat_v' h⟩
end
end DL
set_option Elab.async false
set_option linter.all false
set_option maxRecDepth 100000
set_option maxHeartbeats 2000000
/-! DL45: lists of the very same things are equal; things by their address. -/
namespace DL
open PySem PySem.Spec PyProof.Rows L2
def okV : V → Bool
  | .byt _ => false
  | .flt _ => false
  | _ => true
theorem eqAt_rel {A : Around} {s : Shared} {x : V} {u u' : Value} (hv : okV x = true) (h : RelV x u) (h' : RelV x u') : SeqAt.EqAt A s u u' true := by
  cases x with
  | non => cases h; cases h'; exact SeqAt.EqAt.same _
  | bl b => cases h; cases h'; exact SeqAt.EqAt.same _
  | int i =>
    obtain ⟨t, rfl⟩ := h
    obtain ⟨t', rfl⟩ := h'
    have := SeqAt.EqAt.int_int (A := A) (s := s) i t i t'
    rwa [beq_self_eq_true] at this
  | str z =>
    obtain ⟨t, rfl⟩ := h
    obtain ⟨t', rfl⟩ := h'
    have := SeqAt.EqAt.str_str (A := A) (s := s) z t z t'
    rwa [beq_self_eq_true] at this
  | ref a => cases h; cases h'; exact SeqAt.EqAt.same _
  | ty n => cases h; cases h'; exact SeqAt.EqAt.same _
  | byt b => cases hv
  | flt b => cases hv
theorem vals_get : ∀ {xs : List V} {us ws : List Value}, xs.all okV = true → Vals xs us → Vals xs ws → us.length = ws.length ∧ ∀ (j : Nat) (u w : Value), us[j]? = some u → ws[j]? = some w → ∃ x, okV x = true ∧ RelV x u ∧ RelV x w
  | [], us, ws, hv, h, h' => by
    cases h
    cases h'
    exact ⟨rfl, fun j u w e => by simp at e⟩
  | x :: xs, us, ws, hv, h, h' => by
    rw [List.all_cons, Bool.and_eq_true] at hv
    cases h with
    | cons a b =>
      cases h' with
      | cons c d =>
        obtain ⟨e1, e2⟩ := vals_get hv.2 b d
        refine ⟨by simp [e1], fun j u w hu hw => ?_⟩
        cases j with
        | zero =>
          simp at hu hw
          subst hu hw
          exact ⟨x, hv.1, a, c⟩
        | succ j => exact e2 j u w (by simpa using hu) (by simpa using hw)
def rNeId (K : PySem.W.Frag) : R2 := fun x y H Q => ∃ a b xs, x = .ref a ∧ y = .ref b ∧ SqL K H a xs ∧ SqL K H b xs ∧ xs.all okV = true ∧ Q (.bl false) H
theorem op_neId {X : Cx} (hu : X.A.units < cLine) : OpR X (compareOp .NotEq) (rNeId X.K) := by
  intro pins s σ H x y v u Q I rx ry h
  obtain ⟨a, b, xs, rfl, rfl, h1, h2, hv, q⟩ := h
  cases rx
  cases ry
  obtain ⟨its, rv, ⟨o, n, ho, hc, _, hd⟩, _⟩ := I.list h1
  obtain ⟨its2, rv2, ⟨o2, n2, ho2, hc2, _, hd2⟩, _⟩ := I.list h2
  obtain ⟨e1, e2⟩ := vals_get hv rv rv2
  have := SeqAt.RcNeAt.lists (A := X.A) (s := s) (l := a) (b := b) (e := fun _ => true) ⟨_, ho, hc, _, hd⟩ ⟨_, ho2, hc2, _, hd2⟩ (by simpa using e1) hu (fun j j1 j2 => by
    obtain ⟨x, r0, r1, r2⟩ := e2 j its.toArray[j] its2.toArray[j] (by simp at j1 ⊢) (by simp at j2 ⊢)
    exact eqAt_rel r0 r1 r2)
  refine this X.prog X.w X.xe _ ?_
  have e3 : (!(List.range its.toArray.size).all fun _ => true) = false := by simp
  rw [e3]
  exact ⟨.bl false, H, I, rfl, q⟩
theorem k_neId {X : Cx} {K : PySem.W.Frag} (e : X.K = K) (hu : X.A.units < cLine) : OpR X (compareOp .NotEq) (rNeId K) := e ▸ op_neId hu
def okDV : DV → Bool
  | .v (.byt _) => false
  | .v (.flt _) => false
  | _ => true
section
variable {W : Wd} {Z : Zn} {G F H : Hp} {ρ : Ro} {M : Mu} {Q2 : DQ} {d e x y : DV} {ds : List DV} {vs : List V}
theorem okDV_dat {d : DV} {v : V} (h : Dat W G d v) (hd : okDV d = true) : okV v = true := by
  cases d with
  | v x => rw [dat_v.mp h]; cases x <;> first | rfl | cases hd
  | tup xs => obtain ⟨_, _, rfl, _⟩ := dat_tup.mp h; rfl
  | lst xs => obtain ⟨_, _, rfl, _⟩ := dat_lst.mp h; rfl
  | obj C ns xs => obtain ⟨_, _, _, rfl, _⟩ := dat_obj.mp h; rfl
  | dk ks xs => obtain ⟨_, _, rfl, _⟩ := dat_dk.mp h; rfl
  | dl ks xs => obtain ⟨_, _, rfl, _⟩ := dat_dl.mp h; rfl
  | fn q o => obtain ⟨_, _, rfl, _⟩ := dat_fn.mp h; rfl
theorem okDV_datL : ∀ {ds : List DV} {vs : List V}, DatL W G ds vs → ds.all okDV = true → vs.all okV = true
  | [], vs, h, hd => by rw [datL_nil.mp h]; rfl
  | d :: ds, vs, h, hd => by
    obtain ⟨y, r, rfl, h1, h2⟩ := datL_cons.mp h
    rw [List.all_cons, Bool.and_eq_true] at hd ⊢
    exact ⟨okDV_dat h1 hd.1, okDV_datL h2 hd.2⟩
theorem wr_neId (l1 : LstOf M x (vs.map DV.v)) (l2 : LstOf M y (vs.map DV.v)) (hv : vs.all okV = true) (h : Q2 (.b false) M) : WR Z (rNeId Z.W.K) x y M Q2 := fun G H vx vy Q s R dx dy r => by
  obtain ⟨a, xs, rfl, h1, h2⟩ := lst_at R dx l1
  obtain ⟨b, ys, rfl, h3, h4⟩ := lst_at R dy l2
  rw [datL_vs h2] at h1
  rw [datL_vs h4] at h3
  exact ⟨a, b, vs, rfl, rfl, SqL.of h1, SqL.of h3, hv, r _ _ G M H (Same.refl G) R dat_v' h⟩
/-- the things of a list by their addresses -/
theorem ws_nameL {ts : TS} {D2 : Ends2} (i : Nat) (hi : ρ[i]? = some (some (.lst ds))) (h : ∀ G' vs, Same Z.G G' → DatL Z.W G' ds vs → WS (Z.at G') ts D2 (ρ.set i (some (.lst (vs.map DV.v)))) M) : WS Z ts D2 ρ M := fun G σ H D s R E e => by
  obtain ⟨v, hv, dv⟩ := E.get i _ hi
  obtain ⟨a, xs, rfl, h1, h2⟩ := dat_lst.mp dv
  refine h G xs s h2 G σ H D (Same.refl G) R ⟨by simpa using E.len, fun j d hj => ?_⟩ e
  by_cases ej : j = i
  · subst ej
    have hlt : j < ρ.length := (List.getElem?_eq_some_iff.mp hi).1
    rw [List.getElem?_set_self hlt] at hj
    cases hj
    exact ⟨_, hv, dat_lst.mpr ⟨a, xs, rfl, h1, datL_v xs⟩⟩
  · rw [List.getElem?_set_ne (Ne.symm ej)] at hj
    exact E.get j d hj
def See (Z : Zn) (d d' : DV) : Prop := ∀ G v, Same Z.G G → Dat Z.W G d v → Dat Z.W G d' v
theorem See.same : See Z d d := fun _ _ _ h => h
theorem See.lst (h : DatL Z.W Z.G ds vs) : See Z (.lst (vs.map DV.v)) (.lst ds) := fun G v s x => by
  obtain ⟨a, xs, rfl, h1, h2⟩ := dat_lst.mp x
  rw [datL_vs h2] at h1
  exact dat_lst.mpr ⟨a, vs, rfl, h1, h.mono s⟩
theorem ws_see {ts : TS} {D2 : Ends2} (i : Nat) (hi : ρ[i]? = some (some d)) (hs : See Z d e) (h : WS Z ts D2 (ρ.set i (some e)) M) : WS Z ts D2 ρ M := fun G σ H D s R E k => by
  refine h G σ H D s R ⟨by simpa using E.len, fun j d' hj => ?_⟩ k
  by_cases ej : j = i
  · subst ej
    have hlt : j < ρ.length := (List.getElem?_eq_some_iff.mp hi).1
    rw [List.getElem?_set_self hlt] at hj
    cases hj
    obtain ⟨v, hv, dv⟩ := E.get j _ hi
    exact ⟨v, hv, hs G v s dv⟩
  · rw [List.getElem?_set_ne (Ne.symm ej)] at hj
    exact E.get j d' hj
theorem we_see {te : TE} (h : WE Z te ρ M fun x M1 => ∃ y, See Z x y ∧ Q2 y M1) : WE Z te ρ M Q2 := fun G σ H Q s R E r =>
  h G σ H Q s R E fun x v G' M' H' s' R' dx ⟨y, hs, q⟩ => r y v G' M' H' s' R' (hs G' v (s.trans s') dx) q
end
end DL
set_option Elab.async false
set_option linter.all false
set_option maxRecDepth 100000
set_option maxHeartbeats 2000000
/-! DL46: empty dicts; isinstance of a caught thing by a tuple of classes; slots seen otherwise; what names are. -/
namespace DL
open PySem PySem.Spec PyProof.Rows L2
section
variable {W : Wd} {Z : Zn} {G G' F H : Hp} {ρ : Ro} {M : Mu} {Q2 : DQ} {ns : List Str} {ds : List DV} {ts : TS} {D2 : Ends2}
theorem we_dnewK (h : Q2 (.dk [] []) M) : WE Z tDNewK ρ M Q2 := fun G σ H Q s R E r p hp =>
  r _ _ (upd G p (.dK [])) M _ (same_new (R.gnone hp)) (R.new hp) (dat_dk.mpr ⟨p, [], rfl, Rd.of (by unfold upd; rw [if_pos rfl]; rfl), rfl, datL_nil'⟩) h
/-! slots -/
def SeeR (Z : Zn) (ρ ρ' : Ro) : Prop := ∀ G σ, Same Z.G G → EnvOk Z.W G ρ σ → EnvOk Z.W G ρ' σ
theorem SeeR.set {i : Nat} {d e : DV} (hi : ρ[i]? = some (some d)) (hs : See Z d e) : SeeR Z ρ (ρ.set i (some e)) := fun G σ s E => by
  refine ⟨by simpa using E.len, fun j d' hj => ?_⟩
  by_cases ej : j = i
  · subst ej
    have hlt : j < ρ.length := (List.getElem?_eq_some_iff.mp hi).1
    rw [List.getElem?_set_self hlt] at hj
    cases hj
    obtain ⟨v, hv, dv⟩ := E.get j _ hi
    exact ⟨v, hv, hs G v s dv⟩
  · rw [List.getElem?_set_ne (Ne.symm ej)] at hj
    exact E.get j d' hj
theorem ws_seeN (h : WS Z ts { nx := fun ρ1 M1 => ∃ ρ2, SeeR Z ρ1 ρ2 ∧ D2.nx ρ2 M1, rt := D2.rt, bk := D2.bk, ct := D2.ct } ρ M) : WS Z ts D2 ρ M := fun G σ H D s R E e =>
  h G σ H D s R E ⟨fun ρ' σ' G' M' H' s' R' E' ⟨ρ2, f, q⟩ => e.nx ρ2 σ' G' M' H' s' R' (f G' σ' (s.trans s') E') q, e.rt, e.bk, e.ct⟩
end
/-! ### isinstance(e, (C, D, ..)) in a suite -/
def rIsXQ (K : PySem.W.Frag) (cls : Value) (d : Option Addr) (a : Addr) : List V → Hp → VK → Prop := fun xs H Q => ∃ (D tp : Addr) (cs : List V) (us : List Value) (b : Bool), cls = .ref D ∧ ExcC K D ∧ xs = [.ref a, .ref tp] ∧ SqT K H tp cs ∧ Paired ClsV cs us ∧
  PySem.W.kitAny K (.ref D) us = some b ∧ (d = none ∨ ∃ dd fs, d = some dd ∧ H dd = some (.xd fs)) ∧ Q (.bl b) H
section
variable {X : Cx} {a : Addr} {oe : PySem.Obj} {cls : Value} {d : Option Addr} {pn : List (Addr × PySem.Obj)}
theorem call_isXQ (hz : Zc cls d oe) (hf : ∃ vs, oe.data = .fields vs) : CallR (X.suite a ((a, oe) :: pn)) (.builtin "isinstance") (rIsXQ X.K cls d a) := by
  intro pins s σ H xs us Q I r h
  obtain ⟨D, tp, cs, ws, b, rfl, C, rfl, hT, k, e, hd, q⟩ := h
  obtain ⟨u1, u2, rfl, r1, r2⟩ := vals2 r
  cases (show u1 = Value.ref a from r1)
  cases (show u2 = Value.ref tp from r2)
  obtain ⟨od, J⟩ := inst_of I hz hf hd
  rcases hT with hT | ⟨o, its, n, h1, h2, h3, _, rv⟩
  · obtain ⟨_, its, rv, o, h1, h2, n, h3⟩ := (show ObjOk X.prog X.w H s.heap tp (.tup cs) from hT.ok I.hok)
    have e3 := ClsV.all k rv
    subst e3
    obtain ⟨oc, od', dt, sl⟩ := o
    simp only at h2 h3
    subst h2 h3
    exact PySem.W.kia_tup (kitx_of_excC C) I.kIn J h1 e (fun z => nomatch z) fun tk => ⟨.bl b, H, I.kept (t' := tk) fun _ _ z => z, rfl, q⟩
  · have e3 := ClsV.all k rv
    subst e3
    obtain ⟨oc, od', dt, sl⟩ := o
    simp only at h2 h3
    subst h2 h3
    exact PySem.W.kia_tup (kitx_of_excC C) I.kIn J (I.kIn _ _ h1) e (fun z => nomatch z) fun tk => ⟨.bl b, H, I.kept (t' := tk) fun _ _ z => z, rfl, q⟩
end
section
variable {W : Wd} {Z : Zn} {M : Mu} {Q2 : DQ} {ns : List Str} {ds : List DV}
theorem wc_isXQ {a D : Addr} {d : Option Addr} {cs : List V} {us : List Value} {b : Bool} (C : ExcC Z.W.K D) (hx : XdOk Z.W Z.G d ns ds) (hc : Paired ClsV cs us) (hk : PySem.W.kitAny Z.W.K (.ref D) us = some b) (h : Q2 (.b b) M) : WC Z (rIsXQ Z.W.K (.ref D) d a) [.r a, .tup (cs.map DV.v)] M Q2 := fun G H vs Q s R xs r => by
  obtain ⟨y, z, e1, h1, h2⟩ := two_of xs
  obtain ⟨tp, ws, rfl, h3, h4⟩ := dat_tup.mp h2
  rw [dat_v.mp h1] at e1
  rw [datL_vs h4] at h3
  exact ⟨D, tp, cs, us, b, rfl, C, e1, sqt_mono R.ex h3, hc, hk, xd_there hx (fun a o k => R.ex a o (s a o k)), r _ _ G M H (Same.refl G) R dat_v' h⟩
theorem wc_isX2 {a D C1 C2 : Addr} {d : Option Addr} {b : Bool} (C : ExcC Z.W.K D) (hx : XdOk Z.W Z.G d ns ds) (k1 : PySem.W.kitOne Z.W.K (.ref D) (.ref C1) = some false) (k2 : PySem.W.kitOne Z.W.K (.ref D) (.ref C2) = some b) (h : Q2 (.b b) M) : WC Z (rIsXQ Z.W.K (.ref D) d a) [.r a, .tup [.r C1, .r C2]] M Q2 :=
  wc_isXQ (cs := [.ref C1, .ref C2]) C hx (.cons (.own _) (.cons (.own _) .nil)) (by unfold PySem.W.kitAny; rw [k1]; unfold PySem.W.kitAny; rw [k2]; cases b <;> rfl) h
end
/-! ### what names are -/
theorem takeWhile_lt {α : Type} {p : α → Bool} : ∀ {l : List α}, l.all p = false → (l.takeWhile p).length < l.length
  | [], h => by simp at h
  | c :: l, h => by
    rw [List.all_cons, Bool.and_eq_false_iff] at h
    rw [List.takeWhile_cons]
    cases e : p c with
    | false => simp
    | true =>
      rw [e] at h
      have := takeWhile_lt (l := l) (h.resolve_left (by simp))
      simp only [if_true, List.length_cons]
      omega
theorem drop_takeWhile {α : Type} {p : α → Bool} : ∀ {l : List α}, l.all p = false → (l.drop (l.takeWhile p).length).all p = false
  | [], h => by simp at h
  | c :: l, h => by
    rw [List.all_cons, Bool.and_eq_false_iff] at h
    rw [List.takeWhile_cons]
    cases e : p c with
    | false => simp [e]
    | true =>
      rw [e] at h
      simpa using drop_takeWhile (l := l) (h.resolve_left (by simp))
theorem strip_all {x y : Str} (h : Txt.stripChars x y = ⟨#[]⟩) : x.cps.toList.all y.cps.contains = true := by
  cases e : x.cps.toList.all y.cps.contains with
  | true => rfl
  | false =>
    exfalso
    unfold Txt.stripChars at h
    rw [PySem.W.stripBy_eq] at h
    replace h : Builtin.Str.strSub x (stripLo y.cps.contains true x) (stripHi y.cps.contains true x (stripLo y.cps.contains true x)) = ⟨#[]⟩ := h
    have h1 := takeWhile_lt e
    have h2 := takeWhile_lt (p := y.cps.contains) (l := (x.cps.toList.drop (x.cps.toList.takeWhile y.cps.contains).length).reverse) (by rw [List.all_reverse]; exact drop_takeWhile e)
    have h3 := congrArg (fun z : Str => z.cps.size) h
    simp only [stripLo, stripHi, Builtin.Str.strSub, if_true, Array.size_extract, Str.length] at h3
    rw [List.length_reverse, List.length_drop] at h2
    simp only [Array.length_toList] at h1 h2
    have h4 : (#[] : Array Nat).size = 0 := rfl
    rw [h4] at h3
    omega
theorem nameB_iff {z : Str} : nameB z = true ↔ 1 ≤ z.length ∧ z.length ≤ 8 ∧ ∀ c ∈ z.cps.toList, c ∈ letters.cps.toList := by
  unfold nameB
  rw [Bool.and_eq_true, Bool.and_eq_true, decide_eq_true_eq, decide_eq_true_eq, decide_eq_true_eq]
  constructor
  · rintro ⟨h1, h2, h3⟩
    refine ⟨by omega, by omega, fun c hc => ?_⟩
    have h3 : Txt.stripChars z letters = ⟨#[]⟩ := by injection h3
    have := List.all_eq_true.mp (strip_all h3) c hc
    rw [Array.contains_iff_mem] at this
    exact Array.mem_toList_iff.mpr this
  · rintro ⟨h1, h2, h3⟩
    refine ⟨by omega, by omega, ?_⟩
    rw [strip_letters (List.all_eq_true.mpr fun c hc => by
      rw [Array.contains_iff_mem]
      exact Array.mem_toList_iff.mp (h3 c hc))]
    rfl
/-! ### loops that change slots -/
section
variable {W : Wd} {Z : Zn} {G G' F H : Hp} {ρ : Ro} {M : Mu} {ts : TS} {D2 : Ends2} {g : TG}
theorem loop_V {β : Type} {tr : TS} (is : List Nat) (R : β → Ro) (S : Nat → β → Mu) (I : Nat → β → Prop) (c : Nat) {n : Nat} {b0 : β} {items : List DV} (hI : I 0 b0) (h0 : wipe2 ρ is = R b0)
    (hs : ∀ i d m b, items[i]? = some d → m ≤ n + c * i → I i b → WG Z g d (R b) (S m b) fun ρ1 M1 => WS Z ts { nx := fun ρ2 M2 => ∃ m' b', wipe2 ρ2 is = R b' ∧ m' ≤ m + c ∧ I (i + 1) b' ∧ M2 = S m' b', rt := D2.rt, bk := fun ρ2 M2 => WS Z tr D2 ρ2 M2, ct := fun ρ2 M2 => ∃ m' b', wipe2 ρ2 is = R b' ∧ m' ≤ m + c ∧ I (i + 1) b' ∧ M2 = S m' b' } ρ1 M1)
    (hk : ∀ m b, m ≤ n + c * items.length → I items.length b → WS Z tr D2 (R b) (S m b)) : Loop Z g ts { nx := fun ρ' M' => WS Z tr D2 ρ' M', rt := D2.rt, bk := D2.bk, ct := D2.ct } items ρ (S n b0) := by
  refine loop_word (fun j ρ2 M2 => ∃ m b, wipe2 ρ2 is = R b ∧ m ≤ n + c * j ∧ I j b ∧ M2 = S m b) items 0 ρ _ ⟨n, b0, h0, by omega, hI, rfl⟩ (fun i d ρ2 M2 hi h => ?_) fun ρ2 M2 h => ?_
  · rw [Nat.zero_add] at h ⊢
    obtain ⟨m, b, h1, h2, h3, rfl⟩ := h
    refine wg_env is ?_
    rw [h1]
    have key : ∀ ρ2 M2, (∃ m' b', wipe2 ρ2 is = R b' ∧ m' ≤ m + c ∧ I (i + 1) b' ∧ M2 = S m' b') → (∃ m b, wipe2 ρ2 is = R b ∧ m ≤ n + c * (i + 1) ∧ I (i + 1) b ∧ M2 = S m b) :=
      fun ρ2 M2 ⟨m', b', g1, g2, g3, g4⟩ => ⟨m', b', g1, by rw [Nat.mul_add]; omega, g3, g4⟩
    exact (hs i d m b hi h2 h3).imp fun ρ1 M1 q => q.imp key (fun _ _ h => h) (fun _ _ h => h) key
  · rw [Nat.zero_add] at h
    obtain ⟨m, b, h1, h2, h3, rfl⟩ := h
    refine ws_env is ?_
    rw [h1]
    exact hk m b h2 h3
end
end DL
set_option Elab.async false
set_option linter.all false
set_option maxRecDepth 100000
set_option maxHeartbeats 2000000
/-! DL47: lists told anew, to be kept or to be changed; ways up a tree. -/
namespace DL
open PySem PySem.Spec PyProof.Rows L2
def Told (Q2 : DQ) (M : Mu) (ds : List DV) : Prop := Q2 (.lst ds) M ∨ ∀ q, M q = none → Q2 (.r q) (updM M q (.lst ds))
section
variable {W : Wd} {Z : Zn} {ρ : Ro} {M : Mu} {Q2 : DQ} {te : TE} {ds : List DV} {d : DV}
theorem told_f (h : Q2 (.lst ds) M) : Told Q2 M ds := .inl h
theorem told_m (h : ∀ q, M q = none → Q2 (.r q) (updM M q (.lst ds))) : Told Q2 M ds := .inr h
theorem wc_listT (l : SqOf M d ds) (h : Told Q2 M ds) : WC Z (rListQ Z.W.K) [d] M Q2 := by
  rcases h with h | h
  · exact wc_listQ l h
  · exact wc_listQM l h
/-- a list that was filled is told -/
theorem we_told (h : WE Z te ρ M fun d M1 => ∃ q M2 ds, d = .r q ∧ M1 = updM M2 q (.lst ds) ∧ M2 q = none ∧ Told Q2 M2 ds) : WE Z te ρ M Q2 := fun G σ H Q s R E r =>
  h G σ H Q s R E fun d v G' M' H' s' R' dx ⟨q, M2, ds, e1, e2, hq, t⟩ => by
    subst e1 e2
    rcases t with t | t
    · obtain ⟨G3, s3, R3, x3⟩ := R'.freeze (updM_same) trivial
      rw [delM_updM hq] at R3
      exact r _ _ G3 _ H' (s'.trans s3) R3 (by rw [dat_v.mp dx]; exact x3) t
    · exact r _ _ G' _ H' s' R' dx (t q hq)
/-- xs[::-1] -/
theorem we_revT (h : WE Z te ρ M fun d M1 => ∃ ds, LstOf M1 d ds ∧ Told Q2 M1 ds.reverse) : WE Z (tRevD Z.W.K te) ρ M Q2 := fun G σ H Q s R E r => by
  refine h G σ H _ s R E fun d v G1 M1 H1 s1 R1 x ⟨ds, l, q⟩ => ?_
  obtain ⟨a, xs, rfl, h1, h2⟩ := lst_at R1 x l
  refine ⟨a, xs, rfl, SqL.of h1, fun p hp => ?_⟩
  rcases q with q | q
  · exact r _ _ (upd G1 p (.lst xs.reverse)) M1 _ (s1.trans (same_new (R1.gnone hp))) (R1.new hp) (dat_lst.mpr ⟨p, _, rfl, by unfold upd; rw [if_pos rfl], (h2.reverse).mono (same_new (R1.gnone hp))⟩) q
  · refine r _ _ G1 (updM M1 p (.lst ds.reverse)) _ s1 (R1.newM hp ⟨_, by unfold upd; rw [if_pos rfl], h2.reverse⟩) dat_v' (q p (R1.mnone hp))
end
/-! ### arguments seen otherwise -/
def SeeL (Z : Zn) (ds ds' : List DV) : Prop := ∀ G vs, Same Z.G G → DatL Z.W G ds vs → DatL Z.W G ds' vs
theorem SeeL.one {Z : Zn} {d d' : DV} (h : See Z d d') : SeeL Z [d] [d'] := fun G vs s x => by
  obtain ⟨y, rfl, k⟩ := one_of x
  exact datL_cons' (h G y s k) datL_nil'
theorem wa_see {Z : Zn} {ρ : Ro} {M : Mu} {tx : TA} {P2 : List DV → Mu → Prop} (h : WA Z tx ρ M fun ds M1 => ∃ ds', SeeL Z ds ds' ∧ P2 ds' M1) : WA Z tx ρ M P2 := fun G σ H Q s R E r =>
  h G σ H Q s R E fun ds vs G' M' H' s' R' x ⟨ds', hs, q⟩ => r ds' vs G' M' H' s' R' (hs G' vs (s.trans s') x) q
theorem decV {i j : Int} : decide (V.int i = V.int j) = decide (i = j) := by
  by_cases h : i = j
  · subst h; rw [decide_eq_true rfl, decide_eq_true rfl]
  · rw [decide_eq_false h, decide_eq_false fun e => h (by injection e)]
/-! ### ways up -/
section
variable {ps : Prs}
def ups (ps : Prs) : Nat → Option Str → List Str
  | 0, _ => []
  | _ + 1, none => []
  | n + 1, some c => c :: ups ps n (overOf ps c)
def inT (ps : Prs) (o : Option Str) : Prop := ∀ c, o = some c → c ∈ namesOf ps
theorem inT_over (t : Tr ps) (c : Str) : inT ps (overOf ps c) := fun d e => by
  by_cases h : c ∈ namesOf ps
  · have := overOf_in h
    obtain ⟨i, hi⟩ := List.getElem?_of_mem this
    have h2 := (t.pair hi).ov d e
    obtain ⟨g, hg, rfl⟩ := List.mem_map.mp h2
    exact List.mem_map.mpr ⟨g, List.mem_of_mem_take hg, rfl⟩
  · rw [overOf_no h] at e
    cases e
theorem rk_lt (t : Tr ps) {c : Str} (h : c ∈ namesOf ps) : rk ps (some c) < rk ps (overOf ps c) := rk_kid t (over_kid h)
theorem ups_stab (t : Tr ps) : ∀ (n : Nat) (o : Option Str), inT ps o → ps.length ≤ rk ps o + n → ups ps n o = ups ps (n + 1) o
  | 0, none, _, _ => rfl
  | 0, some c, hi, h => by
    have := rk_lt t (hi c rfl)
    have := rk_le (ps := ps) (overOf ps c)
    omega
  | n + 1, none, _, _ => rfl
  | n + 1, some c, hi, h => by
    show c :: ups ps n (overOf ps c) = c :: ups ps (n + 1) (overOf ps c)
    rw [ups_stab t n (overOf ps c) (inT_over t c) (by have := rk_lt t (hi c rfl); omega)]
theorem ups_more (t : Tr ps) {n m : Nat} {o : Option Str} (hi : inT ps o) (h : ps.length ≤ rk ps o + n) (hm : n ≤ m) : ups ps m o = ups ps n o := by
  induction m with
  | zero => rw [Nat.le_zero.mp hm]
  | succ m ih =>
    by_cases e : n = m + 1
    · rw [e]
    · rw [← ups_stab t m o hi (by omega)]
      exact ih (by omega)
/-- from the top down -/
def abv (ps : Prs) (c : Str) : List Str := (ups ps ps.length (overOf ps c)).reverse
def upto (ps : Prs) (o : Option Str) : List Str := (ups ps ps.length o).reverse
theorem abv_upto (c : Str) : abv ps c = upto ps (overOf ps c) := rfl
theorem ups_eq (t : Tr ps) {c : Str} (h : c ∈ namesOf ps) : ups ps ps.length (some c) = c :: ups ps ps.length (overOf ps c) := by
  have h1 : inT ps (some c) := fun d e => by cases e; exact h
  rw [ups_stab t ps.length (some c) h1 (by omega)]
  rfl
theorem upto_none : upto ps none = [] := by
  unfold upto
  cases ps.length <;> rfl
theorem upto_some (t : Tr ps) {c : Str} (h : c ∈ namesOf ps) : upto ps (some c) = abv ps c ++ [c] := by
  unfold upto abv
  rw [ups_eq t h, List.reverse_cons]
theorem abv_eq (t : Tr ps) {c : Str} : abv ps c = match overOf ps c with
    | none => []
    | some o => abv ps o ++ [o] := by
  rw [abv_upto]
  cases e : overOf ps c with
  | none => exact upto_none
  | some o => exact upto_some t (inT_over t c o e)
theorem mem_ups (t : Tr ps) {x : Str} : ∀ (n : Nat) (o : Option Str), x ∈ ups ps n o → ∃ k, upN ps k o = some x
  | 0, _, h => by cases h
  | n + 1, none, h => by cases h
  | n + 1, some c, h => by
    rcases List.mem_cons.mp h with rfl | h
    · exact ⟨0, rfl⟩
    · obtain ⟨k, hk⟩ := mem_ups t n (overOf ps c) h
      exact ⟨k + 1, hk⟩
theorem upN_none : ∀ n, upN ps n none = none
  | 0 => rfl
  | n + 1 => upN_none n
theorem ups_mem (t : Tr ps) {x : Str} : ∀ (k : Nat) (o : Option Str), inT ps o → upN ps k o = some x → x ∈ ups ps ps.length o
  | 0, some c, hi, h => by
    have h : some c = some x := h
    cases h
    rw [ups_eq t (hi x rfl)]
    exact List.mem_cons_self
  | 0, none, hi, h => by cases h
  | k + 1, none, hi, h => by
    rw [upN_none] at h
    cases h
  | k + 1, some c, hi, h => by
    rw [ups_eq t (hi c rfl)]
    exact List.mem_cons_of_mem _ (ups_mem t k (overOf ps c) (inT_over t c) h)
theorem abv_iff (t : Tr ps) {c x : Str} : x ∈ abv ps c ↔ ∃ k, upN ps (k + 1) (some c) = some x := by
  unfold abv
  rw [List.mem_reverse]
  constructor
  · intro h
    obtain ⟨k, hk⟩ := mem_ups t _ _ h
    exact ⟨k, hk⟩
  · rintro ⟨k, hk⟩
    exact ups_mem t k _ (inT_over t c) hk
theorem abv_names (t : Tr ps) {c x : Str} (h : x ∈ abv ps c) : x ∈ namesOf ps := by
  obtain ⟨k, hk⟩ := (abv_iff t).mp h
  rw [upN_succ] at hk
  cases e : upN ps k (some c) with
  | none => rw [e] at hk; cases hk
  | some d =>
    rw [e] at hk
    exact inT_over t d x hk
theorem ord_iff (t : Tr ps) {c x : Str} (hc : c ∈ namesOf ps) (hx : x ∈ namesOf ps) : x ∈ ord ps (some c) ↔ c ∈ abv ps x := by
  rw [abv_iff t]
  constructor
  · intro h
    obtain ⟨k, d, hd, hk⟩ := ord_up t h
    refine ⟨k, ?_⟩
    rw [upN_succ, hk]
    exact kid_over t hd
  · rintro ⟨k, hk⟩
    induction k generalizing x with
    | zero =>
      have h : overOf ps x = some c := hk
      have := over_kid hx
      rw [h] at this
      exact ord_kid t this
    | succ k ih =>
      cases e : overOf ps x with
      | none =>
        have : upN ps (k + 1) (overOf ps x) = some c := hk
        rw [e, upN_none] at this
        cases this
      | some y =>
        have h1 : upN ps (k + 1) (overOf ps x) = some c := hk
        rw [e] at h1
        have hy := inT_over t x y e
        have := ih hy h1
        exact ord_step t this (by have := over_kid hx; rw [e] at this; exact this)
theorem abv_len (t : Tr ps) (c : Str) : (abv ps c).length ≤ ps.length := by
  unfold abv
  rw [List.length_reverse]
  have : ∀ n o, (ups ps n o).length ≤ n := by
    intro n
    induction n with
    | zero => intro o; exact Nat.le_refl _
    | succ n ih =>
      intro o
      cases o with
      | none => exact Nat.zero_le _
      | some c => exact Nat.succ_le_succ (ih _)
  exact this _ _
end
def colT (ps : Prs) : DV → Option Str
  | .v (.str c) => if c ∈ namesOf ps then some c else none
  | _ => none
theorem colT_some {ps : Prs} {d : DV} {c : Str} (h : colT ps d = some c) : d = .s c ∧ c ∈ namesOf ps := by
  unfold colT at h
  split at h
  · split at h
    · cases h
      exact ⟨rfl, by assumption⟩
    · cases h
  · cases h
theorem colT_s {ps : Prs} {c : Str} (h : c ∈ namesOf ps) : colT ps (.s c) = some c := if_pos h
theorem colT_no {ps : Prs} {c : Str} (h : c ∉ namesOf ps) : colT ps (.s c) = none := if_neg h
end DL
set_option Elab.async false
set_option linter.all false
set_option maxRecDepth 100000
set_option maxHeartbeats 2000000
/-! DL48: what a def tells, as a list to be kept or changed. -/
namespace DL
open PySem PySem.Spec PyProof.Rows L2
def tAs (t : TE) : TE := t
theorem pe_as {X : Cx} {e : Expr} {t : TE} (h : PE X e t) : PE X e (tAs t) := h
section
variable {W : Wd} {Z : Zn} {G F H : Hp} {ρ : Ro} {M : Mu} {Q2 : DQ} {te : TE} {tx : TA} {ds : List DV} {d : DV} {wi : TI} {g : TG} {tt : TT}
theorem we_as (h : WE Z te ρ M Q2) : WE Z (tAs te) ρ M Q2 := h
theorem we_asList (h : WA Z tx ρ M fun ds M1 => ∃ d es, ds = [d] ∧ SqOf M1 d es ∧ Told Q2 M1 es) : WE Z (tAs (tCB (rListQ Z.W.K) tx)) ρ M Q2 :=
  we_cb (h.imp fun ds M1 ⟨d, es, e, l, t⟩ => by subst e; exact wc_listT l t)
theorem we_asVar (h : WE Z te ρ M fun d M1 => ∃ q M2 ds, d = .r q ∧ M1 = updM M2 q (.lst ds) ∧ M2 q = none ∧ Told Q2 M2 ds) : WE Z (tAs te) ρ M Q2 := we_told h
theorem we_asRev (h : WE Z te ρ M fun d M1 => ∃ ds, LstOf M1 d ds ∧ ∃ M2, Frz Z.W M1 M2 ∧ Told Q2 M2 ds.reverse) : WE Z (tAs (tRevD Z.W.K te)) ρ M Q2 := fun G σ H Q s R E r => by
  refine h G σ H _ s R E fun d v G1 M1 H1 s1 R1 x ⟨ds, l, M2, fz, q⟩ => ?_
  obtain ⟨a, xs, rfl, h1, h2⟩ := lst_at R1 x l
  obtain ⟨G2, s2, R2⟩ := fz G1 _ H1 R1
  refine ⟨a, xs, rfl, SqL.of h1, fun p hp => ?_⟩
  replace h2 := h2.mono s2
  rcases q with q | q
  · exact r _ _ (upd G2 p (.lst xs.reverse)) M2 _ ((s1.trans s2).trans (same_new (R2.gnone hp))) (R2.new hp) (dat_lst.mpr ⟨p, _, rfl, by unfold upd; rw [if_pos rfl], (h2.reverse).mono (same_new (R2.gnone hp))⟩) q
  · exact r _ _ G2 (updM M2 p (.lst ds.reverse)) _ (s1.trans s2) (R2.newM hp ⟨_, by unfold upd; rw [if_pos rfl], h2.reverse⟩) dat_v' (q p (R2.mnone hp))
theorem Rep.ofFrM {p : Addr} {xs : List V} (R : Rep W G M (upd F p (.lst xs)) H) (hf : F p = none) (hd : DatL W G ds xs) : Rep W G (updM M p (.lst ds)) F H := by
  have hp := R.fd p _ upd_same
  exact {
    ex := R.ex
    fr := fun a w e => R.fr a w (by rw [upd_ne (ne_of_none e hf)]; exact e)
    fd := fun a w e => by
      have ne := ne_of_none e hf
      rw [updM_ne ne]; exact R.fd a w (by rw [upd_ne ne]; exact e)
    mu := fun a w e => by
      by_cases h : a = p
      · subst h
        rw [updM_same] at e
        cases e
        exact ⟨hp.1, xs, R.fr a _ upd_same, hd⟩
      · rw [updM_ne h] at e
        exact R.mu a w e }
theorem we_asLc {is : List Nat} (hg : GOk g is) (h : WI Z wi ρ M fun items M1 => Comp Z g tt te (wipe2 ρ is) (fun acc M2 => Told Q2 M2 acc) items [] M1) : WE Z (tAs (tLc wi g tt te is)) ρ M Q2 := fun G σ H Q s R E r => by
  refine h G σ H _ s R E fun items J G1 M1 H1 s1 R1 it q => ?_
  intro D hD
  have fD : Z.F D = none := R1.fnone hD
  refine ⟨fun i m H' => ∃ G' M' acc accV, Same G1 G' ∧ Rep Z.W G' M' (upd Z.F D (.lst accV)) H' ∧ DatL Z.W G' acc accV ∧ i ≤ items.length ∧ m = items.length - i ∧ Comp Z g tt te (wipe2 ρ is) (fun acc M2 => Told Q2 M2 acc) (items.drop i) acc M',
    ⟨items.length, G1, M1, [], [], Same.refl G1, R1.toFr hD, datL_nil', Nat.zero_le _, rfl, q⟩, ?_⟩
  rintro i m H' ⟨G', M', acc, accV, sg, R', hacc, hi, rfl, lp⟩
  by_cases hlt : i < items.length
  · rw [drop_cons hlt] at lp
    obtain ⟨hz, lp⟩ := lp
    refine .inr ⟨it.go i G' _ M' H' sg R' hlt, fun H2 => ∃ G2 M2 acc2 acc2V, Same G1 G2 ∧ Rep Z.W G2 M2 (upd Z.F D (.lst acc2V)) H2 ∧ DatL Z.W G2 acc2 acc2V ∧ Comp Z g tt te (wipe2 ρ is) (fun acc M2 => Told Q2 M2 acc) (items.drop (i + 1)) acc2 M2, ?_, fun x H2 y => ?_⟩
    · rintro H2 ⟨G2, M2, acc2, acc2V, a1, a2, a3, a4⟩
      exact ⟨items.length - (i + 1), by omega, G2, M2, acc2, acc2V, a1, a2, a3, hlt, rfl, a4⟩
    · obtain ⟨G2, s2, R2, dx⟩ := it.yld i _ G' _ M' H' x H2 sg R' (List.getElem?_eq_getElem hlt) y
      have E2 : EnvOk Z.W G2 (wipe2 ρ is) (L2.wipe σ is) := ((E.mono s1).mono (sg.trans s2)).wipe is
      refine hg x σ (L2.wipe σ is) H2 _ (wipe_idem σ is) ?_
      refine lp (upd Z.F D (.lst accV)) G2 (L2.wipe σ is) H2 x _ ((s.trans s1).trans (sg.trans s2)) R2 E2 dx fun ρ3 σ3 G3 M3 H3 s3 R3 E3 q3 => ?_
      have s13 : Same G1 G3 := (sg.trans s2).trans s3
      refine q3 G3 σ3 H3 _ ((s.trans s1).trans s13) R3 E3 fun b G4 M4 H4 s4 R4 q4 => ?_
      cases b with
      | false => exact ⟨G4, M4, acc, accV, s13.trans s4, R4, hacc.mono ((s2.trans s3).trans s4), q4⟩
      | true =>
        refine q4 G4 σ3 H4 _ ((s.trans s1).trans (s13.trans s4)) R4 (E3.mono s4) fun yd yv G5 M5 H5 s5 R5 dy q5 => ?_
        have s25 : Same G' G5 := ((s2.trans s3).trans s4).trans s5
        refine ⟨accV, R5.fr D _ upd_same, by rw [hacc.length]; exact hz, ?_⟩
        exact ⟨G5, M5, acc ++ [yd], accV ++ [yv], sg.trans s25, R5.frSet, (hacc.mono s25).append (datL_cons' dy datL_nil'), q5⟩
  · have ei : i = items.length := by omega
    subst ei
    rw [List.drop_length] at lp
    refine .inl ⟨it.stop _ G' _ M' H' sg R' (Nat.le_refl _), ?_⟩
    have hD' := R'.fd D _ upd_same
    rcases lp with lp | lp
    · exact r _ _ (upd G' D (.lst accV)) M' H' ((s1.trans sg).trans (same_new hD'.1)) (R'.ofFr fD) (dat_lst.mpr ⟨D, accV, rfl, upd_same, hacc.mono (same_new hD'.1)⟩) lp
    · exact r _ _ G' _ H' (s1.trans sg) (R'.ofFrM fD hacc) dat_v' (lp D hD'.2)
end
end DL
set_option Elab.async false
set_option linter.all false
set_option maxRecDepth 100000
set_option maxHeartbeats 2000000
/-! DL49: == of trees; columns that don't lie on one way; dict(pairs). -/
namespace DL
open PySem PySem.Spec PyProof.Rows L2
def optV : Option Str → V
  | none => .non
  | some c => .str c
theorem optD_v (o : Option Str) : optD o = .v (optV o) := by cases o <;> rfl
def ovV (ps : Prs) : List (Leaf × V) := ps.map fun p => (.text p.1, optV p.2)
theorem ovs_vKV (ps : Prs) : ovsOf ps = vKV (ovV ps) := by
  unfold ovsOf vKV ovV
  rw [List.map_map]
  exact List.map_congr_left fun p _ => by simp [optD_v]
theorem ovV_flat (ps : Prs) : flatF (ovV ps) := fun p hp => by
  obtain ⟨q, _, rfl⟩ := List.mem_map.mp hp
  cases h : q.2 <;> simp [h, optV, flatV]
theorem eqV_opt (o o' : Option Str) : eqV (optV o) (optV o') = decide (o = o') := by
  cases o with
  | none => cases o' <;> rfl
  | some c =>
    cases o' with
    | none => rfl
    | some d =>
      show (c == d) = _
      by_cases h : c = d
      · subst h; simp
      · rw [decide_eq_false (fun e => h (by cases e; rfl))]
        simpa using h
theorem ovV_val : ∀ {ps : Prs} {c : Str}, c ∈ namesOf ps → valV (ovV ps) (.text c) = some (optV (overOf ps c))
  | p :: r, c, h => by
    by_cases e : p.1 = c
    · rw [overOf_cons_pos e]
      exact valV_pos (p := (Leaf.text p.1, optV p.2)) (by rw [e])
    · rw [overOf_cons_neg e]
      rw [ovV, List.map_cons, valV_neg (p := (Leaf.text p.1, optV p.2)) (fun h => e (by injection h))]
      refine ovV_val ?_
      rcases List.mem_cons.mp h with h | h
      · exact absurd h.symm e
      · exact h
def Teq (ps qs : Prs) : Prop := ord ps none = ord qs none ∧ ∀ c ∈ namesOf ps, overOf ps c = overOf qs c
instance (ps qs : Prs) : Decidable (Teq ps qs) := by unfold Teq; infer_instance
theorem eqF_teq {ps qs : Prs} (t : Tr ps) (u : Tr qs) (h : ord ps none = ord qs none) : eqF (ovV ps) (ovV qs) = decide (∀ c ∈ namesOf ps, overOf ps c = overOf qs c) := by
  have hl : ps.length = qs.length := by
    have h1 := (ord_perm t).length_eq
    have h2 := (ord_perm u).length_eq
    rw [h, names_len] at h1
    rw [names_len] at h2
    omega
  unfold eqF
  rw [show (ovV ps).length = ps.length by simp [ovV], show (ovV qs).length = qs.length by simp [ovV], hl, beq_self_eq_true, Bool.true_and, Bool.eq_iff_iff, decide_eq_true_eq, List.all_eq_true]
  have hit : ∀ p ∈ ps, hitB (ovV qs) (.text p.1, optV p.2) = decide (overOf ps p.1 = overOf qs p.1) := fun p hp => by
    have hn : p.1 ∈ namesOf ps := List.mem_map.mpr ⟨p, hp, rfl⟩
    have hq : p.1 ∈ namesOf qs := (ord_mem u).mp (by rw [← h]; exact (ord_mem t).mpr hn)
    unfold hitB
    rw [ovV_val hq]
    show eqV (optV p.2) (optV (overOf qs p.1)) = _
    rw [eqV_opt, overOf_mem t.nodup (show (p.1, p.2) ∈ ps from hp)]
  constructor
  · intro k c hc
    obtain ⟨p, hp, rfl⟩ := List.mem_map.mp hc
    have := k _ (List.mem_map.mpr ⟨p, hp, rfl⟩)
    rw [hit p hp, decide_eq_true_eq] at this
    exact this
  · intro k x hx
    obtain ⟨p, hp, rfl⟩ := List.mem_map.mp hx
    rw [hit p hp, decide_eq_true_eq]
    exact k p.1 (List.mem_map.mpr ⟨p, hp, rfl⟩)
/-! ### columns of which neither is above the other -/
def apB (ps : Prs) (x y : Str) : Bool := !decide (x ∈ abv ps y) && !decide (y ∈ abv ps x)
def apartF (ps : Prs) : List Str → Option (Str × Str)
  | [] => none
  | x :: xs => match xs.find? (apB ps x) with
    | some y => some (x, y)
    | none => apartF ps xs
def pairO : Option (Str × Str) → DV
  | none => .n
  | some (x, y) => .tup [.s x, .s y]
theorem drop_get {α : Type} {l : List α} {i : Nat} {x : α} (h : l[i]? = some x) : l.drop i = x :: l.drop (i + 1) := by
  obtain ⟨hlt, e⟩ := List.getElem?_eq_some_iff.mp h
  rw [List.drop_eq_getElem_cons hlt, e]
/-! ### dict(pairs) -/
theorem pairs_prs (ps : Prs) : pairsD ps = (ps.map fun p => ((.inr p.1 : Key), optD p.2)).map pairD := by
  rw [List.map_map]
  rfl
theorem wc_dictP {Z : Zn} {M : Mu} {Q2 : DQ} {d : DV} {ps : Prs} (l : LstOf M d (pairsD ps)) (t : (namesOf ps).Nodup) (h : Q2 (dlD (ovsOf ps)) M) : WC Z (rDictF Z.W) [d] M Q2 := by
  refine wc_dictF (prs := ps.map fun p => ((.inr p.1 : Key), optD p.2)) (by rw [← pairs_prs]; exact l) ?_ ?_
  · rw [List.map_map, List.Nodup, List.pairwise_map]
    rw [namesOf, List.Nodup, List.pairwise_map] at t
    exact t.imp fun {u v} h e => h (by injection e)
  · have e : ((ps.map fun p => ((.inr p.1 : Key), optD p.2)).map fun p => (kL p.1, p.2)) = ovsOf ps := by
      rw [List.map_map]
      rfl
    rw [e]
    exact h
theorem SeeL.two {Z : Zn} {d d' e e' : DV} (h : See Z d d') (k : See Z e e') : SeeL Z [d, e] [d', e'] := fun G vs s x => by
  obtain ⟨y, z, rfl, h1, h2⟩ := two_of x
  exact datL_cons' (h G y s h1) (datL_cons' (k G z s h2) datL_nil')
/-! ### a loop at the end of a body -/
theorem loop_KE {Z : Zn} {ρ : Ro} {M : Mu} {ts : TS} {D2 : Ends2} {g : TG} (is : List Nat) (I : Nat → Prop) {items : List DV} (h0 : I 0)
    (hs : ∀ (i : Nat) d, items[i]? = some d → I i → WG Z g d (wipe2 ρ is) M fun ρ1 M1 => WS Z ts { nx := fun ρ2 M2 => wipe2 ρ2 is = wipe2 ρ is ∧ M2 = M ∧ I (i + 1), rt := D2.rt, bk := D2.nx, ct := fun ρ2 M2 => wipe2 ρ2 is = wipe2 ρ is ∧ M2 = M ∧ I (i + 1) } ρ1 M1)
    (hk : ∀ ρ2, wipe2 ρ2 is = wipe2 ρ is → I items.length → D2.nx ρ2 M) : Loop Z g ts D2 items ρ M := by
  refine loop_word (fun j ρ2 M2 => wipe2 ρ2 is = wipe2 ρ is ∧ M2 = M ∧ I j) items 0 ρ M ⟨rfl, rfl, h0⟩ (fun i d ρ2 M2 hi h => ?_) fun ρ2 M2 h => ?_
  · rw [Nat.zero_add] at h ⊢
    obtain ⟨h1, rfl, h2⟩ := h
    refine wg_env is ?_
    rw [h1]
    exact hs i d hi h2
  · rw [Nat.zero_add] at h
    obtain ⟨h1, rfl, h2⟩ := h
    exact hk ρ2 h1 h2
end DL
set_option Elab.async false
set_option linter.all false
set_option maxRecDepth 100000
set_option maxHeartbeats 4000000
/-! DL50: tuples put together, cut, repeated, of any length. -/
namespace DL
open PySem PySem.Spec PyProof.Rows L2
/-! ### + -/
def rTupAdd (K : PySem.W.Frag) : R2 := fun x y H Q => ∃ a b xs ys, x = .ref a ∧ y = .ref b ∧ SqT K H a xs ∧ SqT K H b ys ∧ xs.length + ys.length ≤ sizeLine ∧
  (xs = [] → Q (.ref b) H) ∧ (xs ≠ [] → ys = [] → Q (.ref a) H) ∧ (xs ≠ [] → ys ≠ [] → ∀ p, H p = none → Q (.ref p) (upd H p (.tup (xs ++ ys))))
section
variable {X : Cx} {K : PySem.W.Frag}
theorem cat_tup0 {prog : Program} {w : World} {A : Around} {E : Value → Shared → Prop} {s : Shared} {t b : Addr} {vs ws : List Value} {Q : Value → Shared → Prop} (ht : IsTup s.heap t vs.toArray) (hb : IsTup s.heap b ws.toArray) (hv : vs = [])
    (h : Q (.ref b) s) : wpAny (model prog w) A (binaryOp .Add (.ref t) (.ref b)) Q E s := by
  obtain ⟨⟨cls, dd, data, sl⟩, ho, hc, n, hd⟩ := id ht
  obtain ⟨⟨cls2, dd2, data2, sl2⟩, ho2, hc2, n2, hd2⟩ := id hb
  simp only at hc hd hc2 hd2
  subst hc hd hc2 hd2
  exact concat_meets ⟨_, ho, rfl⟩ ⟨_, ho2, rfl⟩ noFill_tuple_add seq_tuple_add PySem.F.slot_tuple_add PySem.F.entry_tuple_add (PySem.F.args_tuple_add_2 _ _)
      (tuple_addW0 t b vs.toArray ws.toArray n n2 dd dd2 sl sl2 (by simp [hv])) ⟨ho, ho2, h⟩
theorem k_addT (e : X.K = K) : OpR X (binaryOp .Add) (rTupAdd K) := by
  subst e
  intro pins s σ H x y v u Q I rx ry h
  obtain ⟨a, b, xs, ys, rfl, rfl, ha, hb, hz, q0, q1, q2⟩ := h
  cases rx
  cases ry
  obtain ⟨its, r1, p1, _⟩ := I.tuple ha
  obtain ⟨its2, r2, p2, _⟩ := I.tuple hb
  by_cases hx : xs = []
  · exact cat_tup0 p1 p2 (r1.nil_iff.mpr hx) ⟨.ref b, H, I, rfl, q0 hx⟩
  · refine HT.cat_tup p1 p2 (fun z => hx (r1.nil_iff.mp z)) (fun z => ⟨.ref a, H, I, rfl, q1 hx (r2.nil_iff.mp z)⟩) (fun z => ?_) (by rw [← r1.length, ← r2.length]; exact hz)
    refine ⟨.ref s.heap.objs.size, _, I.laid (t' := s.toks) (o := .tup (xs ++ ys)) (fun b ob q => Heap.get?_push_of_some _ q) (Nat.le_refl _) ?_, rfl, q2 hx (fun w => z (r2.nil_iff.mpr w)) _ (I.hok.fresh (Nat.le_refl _))⟩
    exact ⟨by rw [List.length_append]; exact hz, _, r1.append r2, IsTup.new _ _⟩
end
section
variable {W : Wd} {Z : Zn} {G F H : Hp} {M : Mu} {Q2 : DQ} {ds es : List DV} {v : V}
theorem Rep.newT {p : Addr} {xs : List V} (R : Rep W G M F H) (hp : H p = none) (hd : DatL W G ds xs) : Same G (upd G p (.tup xs)) ∧ Rep W (upd G p (.tup xs)) M F (upd H p (.tup xs)) ∧ Dat W (upd G p (.tup xs)) (.tup ds) (.ref p) :=
  ⟨same_new (R.gnone hp), R.new hp, dat_tup.mpr ⟨p, xs, rfl, .inl (Rd.of (by unfold upd; rw [if_pos rfl])), hd.mono (same_new (R.gnone hp))⟩⟩
theorem wr_tupAdd (hz : ds.length + es.length ≤ 1000000) (h : Q2 (.tup (ds ++ es)) M) : WR Z (rTupAdd Z.W.K) (.tup ds) (.tup es) M Q2 := fun G H vx vy Q s R dx dy r => by
  obtain ⟨a, xs, rfl, h1, h2⟩ := dat_tup.mp dx
  obtain ⟨b, ys, rfl, h3, h4⟩ := dat_tup.mp dy
  refine ⟨a, b, xs, ys, rfl, rfl, sqt_mono R.ex h1, sqt_mono R.ex h3, by rw [h2.length, h4.length]; exact le_size hz, fun e => ?_, fun _ e => ?_, fun _ _ p hp => ?_⟩
  · subst e
    have : ds = [] := List.length_eq_zero_iff.mp (by rw [← h2.length]; rfl)
    subst this
    exact r _ _ G M H (Same.refl G) R dy h
  · subst e
    have : es = [] := List.length_eq_zero_iff.mp (by rw [← h4.length]; rfl)
    subst this
    rw [List.append_nil] at h
    exact r _ _ G M H (Same.refl G) R dx h
  · obtain ⟨s1, R1, d1⟩ := R.newT hp (h2.append h4)
    exact r _ _ _ M _ s1 R1 d1 h
end
/-! ### slices -/
def rTupSl (K : PySem.W.Frag) : V → Option Int → Option Int → Hp → VK → Prop := fun x lo hi H Q => ∃ a xs, x = .ref a ∧ SqT K H a xs ∧
  ((HT.sIx xs.length 0 lo = 0 ∧ HT.sIx xs.length xs.length hi = xs.length) → Q (.ref a) H) ∧ (¬ (HT.sIx xs.length 0 lo = 0 ∧ HT.sIx xs.length xs.length hi = xs.length) → ∀ p, H p = none → Q (.ref p) (upd H p (.tup (cutV xs lo hi))))
theorem getItem_tuple_all {prog : Program} {w : World} {A : Around} {E : Value → Shared → Prop} {s : Shared} {t sl : Addr} {items : Array Value} {vl vu : Value} {lo hi : Option Int} {Q : Value → Shared → Prop} (ht : IsTup s.heap t items) (hs : s.heap.IsSliceOf sl vl vu .none) (pl : IsPart vl lo) (pu : IsPart vu hi)
    (hw : HT.sIx items.size 0 lo = 0 ∧ HT.sIx items.size items.size hi = items.size) (h : Q (.ref t) s) : wpAny (model prog w) A (getItem (.ref t) (.ref sl)) Q E s := by
  obtain ⟨os, hos, hcs, hds⟩ := id hs
  have hTs : s.TypeIs (.ref sl) "slice" := ⟨os, hos, hcs⟩
  unfold getItem
  try with_reducible refine wpAny_holding ?_
  first | refine wpAny_bind (wpAny_pure ?_) | skip
  refine wpAny_bind (wpAny_sequenceKey ht.typeIs (by decide) ?_)
  refine wpAny_bind (wpAny_callSpecial?_slot (name := Str.ofString "__getitem__") ht.typeIs PyProof.Rows.slot_tuple_getitem
    (wpAny_call_entry PyProof.Rows.slot_tuple_getitem ht.typeIs entry_tuple_getitem ?_ (args_tuple_getitem _ _)))
  show wpAny _ _ (Builtin.Tuple.tupleItemsOf (.ref t) >>= _) _ _ s
  refine wpAny_bind (tupleItemsOf_ ht ?_)
  refine wpAny_bind (wpAny_typeOf hTs ?_)
  rw [if_pos (by decide)]
  refine wpAny_bind (HT.sliceApplied_gen hs pl pu ?_)
  have hyes : ((((HT.sIx items.size 0 lo : Nat) : Int) == 0 && (1 : Int) == 1 && (HT.sIx items.size items.size hi - HT.sIx items.size 0 lo) == items.size) = true) := by
    rw [hw.1, hw.2]
    simp
  show wpAny _ _ (if (((HT.sIx items.size 0 lo : Nat) : Int) == 0 && (1 : Int) == 1 && (HT.sIx items.size items.size hi - HT.sIx items.size 0 lo) == items.size) = true then _ else _) _ _ s
  rw [if_pos hyes]
  refine wpAny_bind (m := Builtin.Tuple.tupleIsExact _) ?_
  unfold Builtin.Tuple.tupleIsExact
  refine wpAny_bind (wpAny_typeOf ht.typeIs (wpAny_pure ?_))
  rw [if_pos (by decide)]
  refine wpAny_bind (wpAny_rule ?_)
  exact wpAny_pure ⟨_, rfl, wpAny_pure h⟩
theorem k_slT {X : Cx} {K : PySem.W.Frag} (e : X.K = K) : SlR X (rTupSl K) := by
  subst e
  intro pins s σ H x v vl vu lo hi sl Q I rx hs pl pu h
  obtain ⟨a, xs, rfl, hx, q1, q2⟩ := h
  cases rx
  obtain ⟨its, r, ht, hz⟩ := I.tuple hx
  have hlen : its.toArray.size = xs.length := by rw [List.size_toArray]; exact r.length.symm
  refine ⟨"tuple", _, PyProof.Rows.slot_tuple_getitem.lookup, ht.typeIs, ?_⟩
  by_cases hw : HT.sIx xs.length 0 lo = 0 ∧ HT.sIx xs.length xs.length hi = xs.length
  · exact getItem_tuple_all ht hs pl pu (by rw [hlen]; exact hw) ⟨.ref a, H, I, rfl, q1 hw⟩
  refine HT.getItem_tuple_cut ht hs pl pu (by rw [hlen]; exact hw) ?_ (by rw [hlen]; exact hz)
  rw [hlen]
  refine ⟨.ref s.heap.objs.size, _, I.laid (t' := s.toks) (o := .tup (cutV xs lo hi)) (fun b ob q => Heap.get?_push_of_some _ q) (Nat.le_refl _) ?_, rfl, q2 hw _ (I.hok.fresh (Nat.le_refl _))⟩
  exact ⟨Nat.le_trans (cutV_length xs lo hi) hz, _, (r.drop (HT.sIx xs.length 0 lo)).take (HT.sIx xs.length xs.length hi - HT.sIx xs.length 0 lo), IsTup.new _ _⟩
section
variable {W : Wd} {Z : Zn} {G F H : Hp} {M : Mu} {Q2 : DQ} {ds es : List DV} {v : V}
theorem wl_tupT {lo hi : Option Int} (h : Q2 (.tup (DL.cutD ds lo hi)) M) : WL Z (rTupSl Z.W.K) (.tup ds) lo hi M Q2 := fun G H vx Q s R dx r => by
  obtain ⟨a, xs, rfl, h1, h2⟩ := dat_tup.mp dx
  refine ⟨a, xs, rfl, sqt_mono R.ex h1, fun e => ?_, fun _ p hp => ?_⟩
  · rw [h2.length] at e
    have : DL.cutD ds lo hi = ds := by
      unfold DL.cutD
      rw [e.1, e.2]
      simp
    rw [this] at h
    exact r _ _ G M H (Same.refl G) R dx h
  · obtain ⟨s1, R1, d1⟩ := R.newT hp (datL_cut lo hi h2)
    exact r _ _ _ M _ s1 R1 d1 h
end
/-! ### * -/
def rTupMul (K : PySem.W.Frag) : R2 := fun x y H Q => ∃ l k xs, x = .ref l ∧ y = .int k ∧ SqT K H l xs ∧ xs ≠ [] ∧ 0 ≤ k ∧ k ≤ 1000 ∧ xs.length ≤ 1000 ∧ (k = 1 → Q (.ref l) H) ∧ (k ≠ 1 → ∀ p, H p = none → Q (.ref p) (upd H p (.tup (List.replicate k.toNat xs).flatten)))
theorem tuple_mulW1 (l : Addr) (items : Array Value) (n : Nat) (dd : Option Addr) (sl : Array (Option Value)) (u : Tok) :
    Meets (Builtin.«tuple.__mul__» ⟨[.ref l, .int 1 u], []⟩) (fun _ R s => s.heap.get? l = some { cls := .type "tuple", dict := dd, data := .seq items n, slots := sl } ∧ R (.ok (.ret (Value.ref l))) s) :=
  .of_wp fun prog w A R s h => by
    obtain ⟨hp, g, d, tk, os⟩ := s
    obtain ⟨hl, h⟩ := h
    have f1 := AutoSeq1.idx_int
    wp_walk using wpAny_loadPart' hl
    exact ⟨_, rfl, h⟩
theorem tuple_mulW0 (l : Addr) (items : Array Value) (n : Nat) (dd : Option Addr) (sl : Array (Option Value)) (u : Tok) (hi : items.isEmpty = false) :
    Meets (Builtin.«tuple.__mul__» ⟨[.ref l, .int 0 u], []⟩) (fun _ R s => s.heap.get? l = some { cls := .type "tuple", dict := dd, data := .seq items n, slots := sl } ∧ R (.ok (.ret (Value.ref s.heap.objs.size))) { s with heap := s.heap.push { cls := Value.type "tuple", data := Data.seq #[] }, toks := s.toks }) :=
  .of_wp fun prog w A R s h => by
    obtain ⟨hp, g, d, tk, os⟩ := s
    obtain ⟨hl, h⟩ := h
    have f1 := AutoSeq1.idx_int
    wp_walk using wpAny_loadPart' hl
    exact ⟨_, rfl, h⟩
theorem k_mulT {X : Cx} {K : PySem.W.Frag} (e : X.K = K) : OpR X (binaryOp .Mult) (rTupMul K) := by
  subst e
  intro pins s σ H x y v u Q I rx ry h
  obtain ⟨l, k, xs, rfl, rfl, hT, hne, h1, h2, hz, q1, q⟩ := h
  by_cases hk : 2 ≤ k
  · exact op_repT pins s σ H _ _ v u Q I rx ry ⟨l, k, xs, rfl, rfl, hT, hne, hk, h2, hz, q (by omega)⟩
  cases rx
  obtain ⟨t, rfl⟩ := ry
  obtain ⟨its, r, ⟨⟨cls, dd, data, sl⟩, ho, hc, n, hd⟩, hs⟩ := I.tuple hT
  simp only at hc hd
  subst hc hd
  have hle : its.length = xs.length := r.length.symm
  have hn : its ≠ [] := fun e => hne (by
    rw [e] at hle
    exact List.eq_nil_of_length_eq_zero hle.symm)
  have hi : its.toArray.isEmpty = false := by
    cases its with
    | nil => exact absurd rfl hn
    | cons a b => rfl
  by_cases hk1 : k = 1
  · subst hk1
    refine wpAny_binaryOp_repeat_ref (T := "tuple") (U := "int") (by decide) ⟨_, ho, rfl⟩ (fun s' => typeIs_int s' 1 t) noFill_tuple_mul F.fills_int_mul F.slot_int_rmul repeat_tuple F.slot_int_index.lookup
      (call_meets F.slot_int_rmul (typeIs_int s 1 t) F.entry_int_rmul (F.args_int_rmul_2 _ _) (int_rmul_tuple 1 t l its.toArray n dd sl)
        ⟨ho, rfl, ⟨_, ho, rfl⟩, call_meets F.slot_tuple_mul ⟨_, ho, rfl⟩ F.entry_tuple_mul (F.args_tuple_mul_2 _ _) (tuple_mulW1 l its.toArray n dd sl t) ⟨ho, ?_⟩⟩)
    exact ⟨.ref l, H, I, rfl, q1 rfl⟩
  · obtain rfl : k = 0 := by omega
    refine wpAny_binaryOp_repeat_ref (T := "tuple") (U := "int") (by decide) ⟨_, ho, rfl⟩ (fun s' => typeIs_int s' 0 t) noFill_tuple_mul F.fills_int_mul F.slot_int_rmul repeat_tuple F.slot_int_index.lookup
      (call_meets F.slot_int_rmul (typeIs_int s 0 t) F.entry_int_rmul (F.args_int_rmul_2 _ _) (int_rmul_tuple 0 t l its.toArray n dd sl)
        ⟨ho, rfl, ⟨_, ho, rfl⟩, call_meets F.slot_tuple_mul ⟨_, ho, rfl⟩ F.entry_tuple_mul (F.args_tuple_mul_2 _ _) (tuple_mulW0 l its.toArray n dd sl t hi) ⟨ho, ?_⟩⟩)
    refine ⟨.ref s.heap.objs.size, _, I.laid (t' := s.toks) (o := .tup (List.replicate (0 : Int).toNat xs).flatten) (fun b ob q => Heap.get?_push_of_some _ q) (Nat.le_refl _) ?_, rfl, q (by decide) _ (I.hok.fresh (Nat.le_refl _))⟩
    exact ⟨Nat.zero_le _, [], .nil, IsTup.new _ _⟩
theorem wr_tupMul {Z : Zn} {M : Mu} {Q2 : DQ} {d : DV} {k : Int} (h0 : 0 ≤ k) (h1 : k ≤ 1000) (h : Q2 (.tup (List.replicate k.toNat d)) M) : WR Z (rTupMul Z.W.K) (.tup [d]) (.i k) M Q2 := fun G H vx vy Q s R dx dy r => by
  obtain ⟨a, xs, rfl, h2, h3⟩ := dat_tup.mp dx
  obtain ⟨y, rfl, hy⟩ := one_of h3
  rw [dat_v.mp dy]
  refine ⟨a, k, [y], rfl, rfl, sqt_mono R.ex h2, by simp, h0, h1, by simp, fun e => ?_, fun e p hp => ?_⟩
  · subst e
    exact r _ _ G M H (Same.refl G) R dx h
  · have hd : DatL Z.W G (List.replicate k.toNat [d]).flatten (List.replicate k.toNat [y]).flatten := datL_flat h3 k.toNat
    have e2 : ∀ n, (List.replicate n [d]).flatten = List.replicate n d := fun n => by
      induction n with
      | zero => rfl
      | succ n ih => rw [List.replicate_succ, List.flatten_cons, ih, List.replicate_succ]; rfl
    rw [e2] at hd
    obtain ⟨s1, R1, d1⟩ := R.newT hp hd
    exact r _ _ _ M _ s1 R1 d1 h
theorem bt_ValueError : bootBuiltins "ValueError" = some (.type "ValueError") := by decide +kernel
end DL
set_option Elab.async false
set_option linter.all false
set_option maxRecDepth 100000
set_option maxHeartbeats 4000000
/-! DL51: len(set(xs) & set(ys)), lists of texts. -/
namespace DL
open PySem PySem.Spec PyProof.Rows L2
section
variable {prog : Program} {w : World} {A : Around} {E : Value → Shared → Prop} {s : Shared} {K : Type} [DecidableEq K] {knd : PySem.KeyKind prog w K}
theorem setWalk_perm {a : Addr} {o : PySem.Obj} {es : Array (Int × Value)} {ep : Nat} {t : SetTable} {Q : Array (Int × Value) → Shared → Prop} (ho : s.heap.get? a = some o) (hd : o.data = .set es ep t) (hf : t.fits es.size = true)
    (hc : (w.params.followText "set-order" || (t.led && t.plain) || decide (es.size ≤ 1)) = true) (h : ∀ xs : Array (Int × Value), xs.toList.Perm es.toList → Q xs s) : wpAny (model prog w) A (setWalk a) Q E s := by
  unfold setWalk
  refine wpAny_bind (wpAny_setState_of ho hd hf ?_)
  dsimp only
  refine wpAny_bind (wpAny_byText ?_)
  by_cases hbt : w.params.followText "set-order" = true
  · refine wp_if_pos hbt ?_
    exact wpAny_bind (wpAny_askSetting (wpAny_pure (h _ (pick_perm _ _))))
  · refine wp_if_neg hbt ?_
    try refine wpAny_bind (wpAny_pure ?_)
    have hc' : (t.led = true ∧ t.plain = true) ∨ es.size ≤ 1 := by
      have hb : w.params.followText "set-order" = false := by simpa using hbt
      rw [hb, Bool.false_or, Bool.or_eq_true, Bool.and_eq_true, decide_eq_true_eq] at hc
      exact hc
    refine wp_if_neg (by
      show ¬ ((!t.plain && decide (es.size > 1)) = true)
      rcases hc' with ⟨_, h2⟩ | h2
      · rw [h2]; simp
      · rw [decide_eq_false (by omega)]; simp) ?_
    try refine wpAny_bind (wpAny_pure ?_)
    refine wpAny_bind (wpAny_of_eq (a := ()) ?_ ?_)
    · show (if (!t.led && decide (es.size > 1)) = true then unsupported "set:maker-not-led" else pure ()) = pure ()
      rcases hc' with ⟨h1, _⟩ | h2
      · rw [h1]; rfl
      · rw [decide_eq_false (by omega)]; simp
    · exact wpAny_pure (h es (List.Perm.refl _))
theorem not_ref {x : Value} (h : x.scannable = true) : ∀ a, x ≠ .ref a := fun a e => by subst e; cases h
theorem setsQuiet_of : ∀ (l : List Addr) {Q : Bool → Shared → Prop}, (∀ a ∈ l, ∃ S n, s.heap.SetOf knd a S n) → Q true s → wpAny (model prog w) A (setsQuiet l) Q E s := by
  intro l Q hl hq
  unfold setsQuiet
  refine wpAny_bind (wpAny_forIn_list _ (fun rest b s' => b = (none, ()) ∧ s' = s ∧ ∀ a ∈ rest, a ∈ l) _ ?_ ?_ l _ ⟨rfl, rfl, fun a h => h⟩)
  · rintro a rest b s' ⟨rfl, rfl, hm⟩
    obtain ⟨S, n, o, es, ep, t, ho, hex, hd, hel, hmem, hb, hf, hn⟩ := hl a (hm a List.mem_cons_self)
    refine wpAny_bind (wpAny_setEntries_of ho hd hf ?_)
    refine wpAny_bind (wpAny_forIn_array' _ (fun rest b s2 => b = (none, ()) ∧ s2 = s' ∧ ∀ e ∈ rest, e ∈ es.toList) _ ?_ ?_ es _ ⟨rfl, rfl, fun a h => h⟩)
    · rintro ⟨fst, x⟩ rest2 b s2 ⟨rfl, rfl, hm2⟩
      have hsc := (hel _ (hm2 _ List.mem_cons_self)).2
      have nx : ∀ e ∈ rest2, e ∈ es.toList := fun e he => hm2 e (List.mem_cons_of_mem _ he)
      cases x with
      | ref a => cases hsc
      | _ => exact wpAny_pure ⟨rfl, rfl, nx⟩
    · rintro b s2 ⟨rfl, rfl, _⟩
      exact wpAny_pure ⟨rfl, rfl, fun a h => hm a (List.mem_cons_of_mem _ h)⟩
  · rintro b s' ⟨rfl, rfl, _⟩
    exact wpAny_pure hq
theorem fits_flags {t : SetTable} {n : Nat} {p l : Bool} (h : t.fits n = true) : ({ t with led := l, plain := p } : SetTable).fits n = true := h
/-- the elements of a set that nobody sees, in some order -/
theorem setWalkUnseen_of {a r : Addr} {Sr : K → Bool} {nr : Nat} {o : PySem.Obj} {es : Array (Int × Value)} {ep : Nat} {t : SetTable} {oth : List Addr} {Q : Array (Int × Value) → Shared → Prop} (ho : s.heap.get? a = some o) (hex : o.ExactSet) (hd : o.data = .set es ep t)
    (hel : ElemsOf knd es.toList) (hf : t.fits es.size = true) (hl : ∀ b ∈ a :: oth, ∃ S n, s.heap.SetOf knd b S n) (hr : s.heap.SetOf knd r Sr nr) (ne : r ≠ a)
    (h : ∀ (xs : Array (Int × Value)) (h' : Heap), xs.toList.Perm es.toList → Heap.SameBut r s.heap h' → h'.SetOf knd r Sr nr → Q xs { s with heap := h' }) : wpAny (model prog w) A (setWalkUnseen a oth (some r)) Q E s := by
  have same : ∀ (xs : Array (Int × Value)), xs.toList.Perm es.toList → Q xs s := fun xs hp => by
    have := h xs s.heap hp (Heap.SameBut.refl r s.heap) hr
    exact this
  unfold setWalkUnseen
  refine wpAny_bind (wpAny_setState_of ho hd hf ?_)
  dsimp only
  refine wpAny_bind (wpAny_byText ?_)
  by_cases hc : (w.params.followText "set-order" || (t.led && t.plain) || decide (es.size ≤ 1)) = true
  · refine wp_if_pos hc ?_
    exact setWalk_perm ho hd hf hc fun xs hp => same xs hp
  · refine wp_if_neg hc ?_
    try refine wpAny_bind (wpAny_pure ?_)
    refine wpAny_bind (setsQuiet_of (knd := knd) _ hl ?_)
    refine wp_if_neg (by simp) ?_
    try refine wpAny_bind (wpAny_pure ?_)
    refine wpAny_bind (wpAny_rule ?_)
    obtain ⟨orr, er, epr, tr, hor, hexr, hdr, helr, hmr, hbr, hfr, hnr⟩ := hr
    refine wpAny_bind (wpAny_setState_of hor hdr hfr ?_)
    dsimp only
    split
    · refine wpAny_bind (wpAny_storeSet_of hor hdr ?_ (fits_of_scanBound hbr))
      obtain ⟨_, hS1⟩ := SetOf_store (knd := knd) hor hexr hdr helr hmr hbr (t' := { mask := tr.mask, place := tr.place, dummies := tr.dummies, finger := tr.finger, led := tr.led && t.led, moves := tr.moves, plain := tr.plain && t.plain }) hfr
      rw [hnr] at hS1
      exact wpAny_pure (h es _ (List.Perm.refl _) (Heap.SameBut.update s.heap r _) hS1)
    · exact wpAny_pure (same es (List.Perm.refl _))
theorem SetOf.sameBut {h h' : Heap} {r c : Addr} {S : K → Bool} {n : Nat} (x : h.SetOf knd c S n) (sb : Heap.SameBut r h h') (ne : c ≠ r) : h'.SetOf knd c S n := by
  obtain ⟨o, es, ep, t, ho, rest⟩ := x
  exact ⟨o, es, ep, t, (sb.2 c ne).trans ho, rest⟩
theorem inter_loop {asked walked r : Addr} {Sa Sw : K → Bool} {na nw : Nat} {nm : String} {Q : Unit → Shared → Prop} (hA : s.heap.SetOf knd asked Sa na) (hW : s.heap.SetOf knd walked Sw nw) (hr : s.heap.SetOf knd r (fun _ => false) 0)
    (n1 : r ≠ asked) (n2 : r ≠ walked) (hn : nw + 1 < scanBound)
    (h : ∀ (h' : Heap) (m : Nat), Heap.SameBut r s.heap h' → h'.SetOf knd r (fun k => Sa k && Sw k) m → Q () { s with heap := h' }) :
    wpAny (model prog w) A (do
      let was ← setEpoch walked
      let l ← setWalkUnseen walked [asked, r] (some r)
      forIn l PUnit.unit fun x __s =>
        match x with
        | (h, x) => do
          holding [x] do
              let f ← setFind asked x h
              if f.isSome = true then do
                  let _ ← setAddHashed r x h
                  pure ()
                else pure ()
          Builtin.Frozenset.unchanged nm walked was
          pure (ForInStep.yield PUnit.unit)
      pure ()) Q E s := by
  obtain ⟨ow, ew, epw, tw, how, hexw, hdw, helw, hmw, hbw, hfw, hnw⟩ := id hW
  refine wpAny_bind (wpAny_setEpoch_of how hdw hfw ?_)
  refine wpAny_bind (setWalkUnseen_of (knd := knd) how hexw hdw helw hfw (fun b hb => ?_) hr n2 fun xs h1 hp sb1 hr1 => ?_)
  · simp only [List.mem_cons, List.not_mem_nil, or_false] at hb
    rcases hb with rfl | rfl | rfl
    · exact ⟨_, _, hW⟩
    · exact ⟨_, _, hA⟩
    · exact ⟨_, _, hr⟩
  refine wpAny_bind (wpAny_forIn_array' _ (fun rest _ s' => ∃ h' m done, s' = { s with heap := h' } ∧ Heap.SameBut r s.heap h' ∧ (done ++ rest).Perm ew.toList ∧ m ≤ done.length ∧ h'.SetOf knd r (fun k => Sa k && done.any fun e => knd.is k e.2) m) _ ?_ ?_ xs _ ⟨h1, 0, [], rfl, sb1, hp, Nat.le_refl _, ?_⟩)
  · rintro ⟨hh, x⟩ rest b s' ⟨h', m, done, rfl, sb, hp', hm, hS⟩
    have hmem : (hh, x) ∈ ew.toList := hp'.mem_iff.mp (by simp)
    obtain ⟨⟨k, hk, rfl⟩, hsc⟩ := helw _ hmem
    have hlen : (done ++ (knd.hash k, x) :: rest).length = ew.toList.length := hp'.length_eq
    have hA' : h'.SetOf knd asked Sa na := SetOf.sameBut hA sb (Ne.symm n1)
    have how' : h'.get? walked = some ow := (sb.2 walked (Ne.symm n2)).trans how
    have hperm : ((done ++ [(knd.hash k, x)]) ++ rest).Perm ew.toList := by rw [List.append_assoc]; exact hp'
    have his : ∀ k', knd.is k' x = true ↔ k' = k := fun k' => ⟨fun e => knd.inj x k' k e hk, fun e => e ▸ hk⟩
    have hany : ∀ k', ((done ++ [(knd.hash k, x)]).any fun e => knd.is k' e.2) = ((done.any fun e => knd.is k' e.2) || decide (k' = k)) := fun k' => by
      rw [List.any_append]
      congr 1
      rw [Bool.eq_iff_iff]
      simp only [List.any_cons, List.any_nil, Bool.or_false, decide_eq_true_eq]
      exact his k'
    dsimp only
    have tail : ∀ (h2 : Heap) (m2 : Nat), Heap.SameBut r s.heap h2 → m2 ≤ done.length + 1 → h2.SetOf knd r (fun k' => Sa k' && (done ++ [(knd.hash k, x)]).any fun e => knd.is k' e.2) m2 →
        wpAny (model prog w) A (Builtin.Frozenset.unchanged nm walked epw >>= fun _ => pure (ForInStep.yield PUnit.unit)) (fun st s' => st = .yield PUnit.unit ∧ ∃ h' m done, s' = { s with heap := h' } ∧ Heap.SameBut r s.heap h' ∧ (done ++ rest).Perm ew.toList ∧ m ≤ done.length ∧ h'.SetOf knd r (fun k => Sa k && done.any fun e => knd.is k e.2) m) E { s with heap := h2 } := fun h2 m2 sb2 hm2 hS2 => by
      unfold Builtin.Frozenset.unchanged
      refine wpAny_bind (wpAny_bind (wpAny_setEpoch_of (s := { s with heap := h2 }) ((sb2.2 walked (Ne.symm n2)).trans how) hdw hfw ?_))
      refine wp_if_neg (by simp) ?_
      exact wpAny_pure (wpAny_pure ⟨rfl, h2, m2, done ++ [(knd.hash k, x)], rfl, sb2, hperm, by simpa using hm2, hS2⟩)
    refine wpAny_bind (wpAny_holding (wpAny_bind (wpAny_setFind_of (knd := knd) (s := { s with heap := h' }) hk hsc hA' fun rr hrr => ?_)))
    by_cases hSa : Sa k = true
    · refine wp_if_pos (by rw [hrr]; exact hSa) ?_
      refine wpAny_bind (wpAny_setAddHashed_of (knd := knd) (s := { s with heap := h' }) hk hsc hS (by
        have e1 : ew.toList.length = nw := by rw [Array.length_toList]; exact hnw
        rw [List.length_append, List.length_cons, e1] at hlen
        omega) fun h2 sb2 hS2 => ?_)
      refine wpAny_pure (wpAny_mono (tail h2 _ (sb.trans sb2) ?_ (setOf_of hS2 (fun k' => ?_) rfl)) (fun st s' ⟨e, q⟩ => by subst e; exact q) fun _ _ h => h)
      · split
        · omega
        · omega
      · rw [hany]
        by_cases e : k' = k
        · subst e; rw [hSa]; simp
        · rw [decide_eq_false e, Bool.or_false, Bool.or_false]
    · refine wp_if_neg (by rw [hrr]; exact hSa) ?_
      refine wpAny_pure (wpAny_mono (tail h' m sb (by omega) (setOf_of hS (fun k' => ?_) rfl)) (fun st s' ⟨e, q⟩ => by subst e; exact q) fun _ _ h => h)
      rw [hany]
      by_cases e : k' = k
      · subst e
        have : Sa k' = false := by simpa using hSa
        rw [this]; rfl
      · rw [decide_eq_false e, Bool.or_false]
  · rintro b s' ⟨h', m, done, rfl, sb, hp', hm, hS⟩
    refine wpAny_pure (h h' m sb (setOf_of hS (fun k => ?_) rfl))
    congr 1
    rw [List.append_nil] at hp'
    rw [Bool.eq_iff_iff, hmw k, List.any_eq_true]
    exact ⟨fun ⟨e, he, q⟩ => ⟨e, hp'.mem_iff.mp he, q⟩, fun ⟨e, he, q⟩ => ⟨e, hp'.mem_iff.mpr he, q⟩⟩
  · exact setOf_of hr1 (fun k => by simp) rfl
/-- what two sets have in common -/
theorem inter_of {a b : Addr} {S S' : K → Bool} {n n' : Nat} {nm : String} {Q : Value → Shared → Prop} (hA : s.heap.SetOf knd a S n) (hB : s.heap.SetOf knd b S' n') (ne : b ≠ a) (hn : n + n' + 1 < scanBound)
    (h : ∀ (h' : Heap) (m : Nat), h'.SetOf knd s.heap.objs.size (fun k => S k && S' k) m → (∀ c o, s.heap.get? c = some o → h'.get? c = some o) → Q (.ref s.heap.objs.size) { s with heap := h' }) :
    wpAny (model prog w) A (Builtin.Frozenset.intersection nm a (.ref b)) Q E s := by
  obtain ⟨oa, ea, epa, ta, hoa, hexa, hda, hela, hma, hba, hfa, hna⟩ := id hA
  obtain ⟨ob, eb, epb, tb, hob, hexb, hdb, helb, hmb, hbb, hfb, hnb⟩ := id hB
  unfold Builtin.Frozenset.intersection
  refine wp_if_neg (by intro e; exact ne (by simpa using e)) ?_
  try refine wpAny_bind (wpAny_pure ?_)
  unfold Builtin.Frozenset.baseOf
  have hTa : s.TypeIs (.ref a) "set" := ⟨oa, hoa, hexa.1⟩
  refine wpAny_bind (wpAny_bind (wpAny_isInstance hTa PySem.F.sub_set_set (wpAny_pure ?_)))
  refine wpAny_bind (wpAny_newSet_of (knd := knd) fun led hS0 => ?_)
  refine wpAny_bind (wpAny_pure ?_)
  have k1 : ∀ c o, s.heap.get? c = some o → (s.heap.push { cls := .type "set", dict := none, data := .set #[] 0 (.fresh 0 0 led) }).get? c = some o := fun c o e => Heap.get?_push_of_some _ e
  generalize s.heap.push { cls := .type "set", dict := none, data := .set #[] 0 (.fresh 0 0 led) } = hp1 at hS0 k1 ⊢
  have hA1 : hp1.SetOf knd a S n := ⟨oa, ea, epa, ta, k1 _ _ hoa, hexa, hda, hela, hma, hba, hfa, hna⟩
  have hB1 : hp1.SetOf knd b S' n' := ⟨ob, eb, epb, tb, k1 _ _ hob, hexb, hdb, helb, hmb, hbb, hfb, hnb⟩
  have na : s.heap.objs.size ≠ a := Nat.ne_of_gt (Heap.lt_size hoa)
  have nb : s.heap.objs.size ≠ b := Nat.ne_of_gt (Heap.lt_size hob)
  have hTb : Shared.TypeIs { s with heap := hp1 } (.ref b) "set" := ⟨ob, k1 _ _ hob, hexb.1⟩
  have fin : ∀ (h' : Heap) (m : Nat), Heap.SameBut s.heap.objs.size hp1 h' → h'.SetOf knd s.heap.objs.size (fun k => S k && S' k) m → wpAny (model prog w) A (pure (Value.ref s.heap.objs.size)) Q E { s with heap := h' } := fun h' m sb hS =>
    wpAny_pure (h h' m hS fun c o e => (sb.2 c (Nat.ne_of_lt (Heap.lt_size e))).trans (k1 c o e))
  refine wpAny_bind (wpAny_holding ?_)
  unfold Builtin.Frozenset.isAnySet
  refine wpAny_bind (wpAny_bind (wpAny_isInstance hTb PySem.F.sub_set_set (wpAny_pure ?_)))
  refine wp_if_pos rfl ?_
  refine wpAny_bind (wpAny_pure ?_)
  unfold Builtin.Frozenset.sizeOf
  refine wpAny_bind (wpAny_bind (wpAny_setEntries_of (s := { s with heap := hp1 }) (k1 _ _ hob) hdb hfb (wpAny_pure ?_)))
  refine wpAny_bind (wpAny_bind (wpAny_setEntries_of (s := { s with heap := hp1 }) (k1 _ _ hoa) hda hfa (wpAny_pure ?_)))
  by_cases hc : eb.size > ea.size
  · rw [if_pos hc]
    refine inter_loop (knd := knd) (s := { s with heap := hp1 }) hB1 hA1 hS0 nb na (by omega) fun h' m sb hS => ?_
    exact fin h' m sb (setOf_of hS (fun k => Bool.and_comm _ _) rfl)
  · rw [if_neg hc]
    exact inter_loop (knd := knd) (s := { s with heap := hp1 }) hA1 hB1 hS0 na nb (by omega) fun h' m sb hS => fin h' m sb hS
/-- a & b -/
theorem and_sets {a b : Addr} {S S' : K → Bool} {n n' : Nat} {Q : Value → Shared → Prop} (hA : s.heap.SetOf knd a S n) (hB : s.heap.SetOf knd b S' n') (ne : b ≠ a) (hn : n + n' + 1 < scanBound)
    (h : ∀ (h' : Heap) (m : Nat), h'.SetOf knd s.heap.objs.size (fun k => S k && S' k) m → (∀ c o, s.heap.get? c = some o → h'.get? c = some o) → Q (.ref s.heap.objs.size) { s with heap := h' }) :
    wpAny (model prog w) A (binaryOp .BitAnd (.ref a) (.ref b)) Q E s := by
  obtain ⟨oa, ea, epa, ta, hoa, hexa, hda, hela, hma, hba, hfa, hna⟩ := id hA
  obtain ⟨ob, eb, epb, tb, hob, hexb, hdb, helb, hmb, hbb, hfb, hnb⟩ := id hB
  have hTa : s.TypeIs (.ref a) "set" := ⟨oa, hoa, hexa.1⟩
  have hTb : s.TypeIs (.ref b) "set" := ⟨ob, hob, hexb.1⟩
  refine wpAny_binaryOp_same hTa hTb PySem.F.fills_set_and PySem.F.slot_set_and (wpAny_call_entry PySem.F.slot_set_and hTa (b := Builtin.«frozenset.__and__») (entryFor_alias (id' := "frozenset.__and__") (by kernel_rfl) rfl (by decide +kernel) (by kernel_rfl)) ?_ (PySem.F.args_set_and_2 _ _))
  show wpAny _ _ (Builtin.Frozenset.slot1 "__and__" ⟨[.ref a, .ref b], []⟩ >>= _) _ _ s
  refine wpAny_bind (wpAny_of_eq (a := (Value.ref a, Value.ref b)) (by rfl) ?_)
  dsimp only
  rw [if_neg Bool.false_ne_true]
  dsimp only
  have anyS : ∀ {c : Addr} {Q' : Bool → Shared → Prop}, s.TypeIs (.ref c) "set" → Q' true s → wpAny (model prog w) A.in1 (Builtin.Frozenset.isAnySet (.ref c)) Q' E s := fun hT hq => by
    unfold Builtin.Frozenset.isAnySet
    exact wpAny_bind (wpAny_isInstance hT PySem.F.sub_set_set (wpAny_pure hq))
  refine wpAny_bind (wpAny_bind (anyS hTa (anyS hTb ?_)))
  refine wp_if_neg (by simp) ?_
  refine wpAny_bind (wpAny_pure ?_)
  refine wpAny_bind (inter_of (knd := knd) hA hB ne hn fun h' m hS hk => ?_)
  exact wpAny_pure ⟨_, rfl, (fun e => nomatch e), h h' m hS hk⟩
end
/-! ### len(set(xs) & set(ys)) -/
def setO (W : Wd) (a : Addr) (S : Str → Bool) (n : Nat) : HO := .ext fun h => h.SetOf (strKind W.P W.w) a S n
theorem SetOf.keep {P : Program} {w : World} {K : Type} [DecidableEq K] {knd : PySem.KeyKind P w K} {h h' : Heap} {a : Addr} {S : K → Bool} {n : Nat} (x : h.SetOf knd a S n) (k : ∀ o, h.get? a = some o → h'.get? a = some o) : h'.SetOf knd a S n := by
  obtain ⟨o, es, ep, t, ho, rest⟩ := x
  exact ⟨o, es, ep, t, k o ho, rest⟩
section
variable {X : Cx} {pins : List (Addr × PySem.Obj)} {σ : L2.St} {H : Hp} {s : Shared} {a : Addr} {S : Str → Bool} {n : Nat}
theorem so_of {W : Wd} (hP : W.P = X.prog) (hw : W.w = X.w) (I : Inv X pins σ H s) (e : H a = some (setO W a S n)) : s.heap.SetOf (strKind X.prog X.w) a S n := by
  have h := (I.hok a _ e).1
  rw [hP, hw] at h
  exact h
theorem so_new {W : Wd} (hP : W.P = X.prog) (hw : W.w = X.w) {H' : Hp} {h' : Heap} (dd : h'.SetOf (strKind X.prog X.w) a S n) : ObjOk X.prog X.w H' h' a (setO W a S n) := by
  refine ⟨?_, let ⟨q, _, _, _, hq, _⟩ := dd; ⟨q, hq⟩, fun h1 h2 g k => SetOf.keep g k⟩
  show h'.SetOf (strKind W.P W.w) a S n
  rw [hP, hw]
  exact dd
def rSetS (W : Wd) : List V → Hp → VK → Prop := fun vs H Q => ∃ (l : Addr) (xs : List Str), vs = [.ref l] ∧ SqL W.K H l (xs.map V.str) ∧ xs.length ≤ 1000 ∧ ∀ p n, n ≤ 1000 → H p = none → Q (.ref p) (upd H p (setO W p (fun k => decide (k ∈ xs)) n))
theorem call_setS {W : Wd} (hP : W.P = X.prog) (hw : W.w = X.w) (hK : W.K = X.K) (hc : X.calm = true) : CallR X (.type "set") (rSetS W) := by
  intro pins s σ H vs us Q I r h
  obtain ⟨l, xs, rfl, hq, hl, q⟩ := h
  obtain ⟨u, rfl, ru⟩ := vals1 r
  cases ru
  rw [hK] at hq
  obtain ⟨its, rv, pl, hz⟩ := I.list hq
  have hlen : its.toArray.size = xs.length := by rw [List.size_toArray, ← rv.length, List.length_map]
  refine call_set_keys (knd := strKind X.prog X.w) (I.ok.hd hc) pl.isList hlen (fun i v hv => ?_) (by unfold scanBound; omega) fun h' tk hS hk => ?_
  · obtain ⟨y, t, e1, rfl⟩ := strs_at rv i v (by simpa using hv)
    exact ⟨y, e1, strKind_is _ _ _ _, rfl⟩
  · have hS' : h'.SetOf (strKind X.prog X.w) s.heap.objs.size (fun k => decide (k ∈ xs)) (uniq xs).length := setOf_of hS (fun k => by rw [Bool.eq_iff_iff]; simp only [decide_eq_true_eq]; exact mem_uniq) rfl
    exact ⟨.ref s.heap.objs.size, _, I.laid (t' := tk) hk (Nat.le_refl _) (so_new hP hw hS'), rfl, q _ _ (Nat.le_trans (uniq_len_le xs) hl) (I.hok.fresh (Nat.le_refl _))⟩
def rAndS (W : Wd) : R2 := fun x y H Q => ∃ a b S S' n n', x = .ref a ∧ y = .ref b ∧ H a = some (setO W a S n) ∧ H b = some (setO W b S' n') ∧ b ≠ a ∧ n ≤ 1000 ∧ n' ≤ 1000 ∧ ∀ p m, H p = none → Q (.ref p) (upd H p (setO W p (fun k => S k && S' k) m))
theorem op_andS {W : Wd} (hP : W.P = X.prog) (hw : W.w = X.w) : OpR X (binaryOp .BitAnd) (rAndS W) := by
  intro pins s σ H x y v u Q I rx ry h
  obtain ⟨a, b, S, S', n, n', rfl, rfl, hA, hB, ne, h1, h2, q⟩ := h
  cases rx
  cases ry
  refine and_sets (knd := strKind X.prog X.w) (so_of hP hw I hA) (so_of hP hw I hB) ne (by unfold scanBound; omega) fun h' m hS hk => ?_
  exact ⟨.ref s.heap.objs.size, _, I.laid (t' := s.toks) hk (Nat.le_refl _) (so_new hP hw hS), rfl, q _ _ (I.hok.fresh (Nat.le_refl _))⟩
def rLenSet (W : Wd) : List V → Hp → VK → Prop := fun vs H Q => ∃ a S n, vs = [.ref a] ∧ H a = some (setO W a S n) ∧ ∀ m : Nat, (m = 0 ↔ ∀ k, S k = false) → Q (.int (m : Nat)) H
theorem call_lenSet {W : Wd} (hP : W.P = X.prog) (hw : W.w = X.w) : CallR X (.builtin "len") (rLenSet W) := by
  intro pins s σ H vs us Q I r h
  obtain ⟨a, S, n, rfl, hA, q⟩ := h
  obtain ⟨u, rfl, ru⟩ := vals1 r
  cases ru
  obtain ⟨o, es, ep, t, ho, hex, hd, hel, hm, hb, hf, hn⟩ := so_of hP hw I hA
  have hfit : ((es.size : Nat) : Int) < 2 ^ 63 := by unfold scanBound at hb; omega
  refine call_len_set ho hex hd hf hfit ⟨.int (es.size : Nat), H, (I.tok _).tok _, ⟨_, rfl⟩, q es.size ⟨fun e k => ?_, fun e => ?_⟩⟩
  · cases hk : S k with
    | false => rfl
    | true =>
      obtain ⟨x, hx, _⟩ := (hm k).mp hk
      have : es.toList = [] := List.length_eq_zero_iff.mp (by rw [Array.length_toList]; exact e)
      rw [this] at hx
      cases hx
  · cases hl : es.toList with
    | nil => rw [← Array.length_toList, hl]; rfl
    | cons x l =>
      obtain ⟨⟨k, hk, _⟩, _⟩ := hel x (by rw [hl]; exact List.mem_cons_self)
      have := (hm k).mpr ⟨x, by rw [hl]; exact List.mem_cons_self, hk⟩
      rw [e k] at this
      cases this
end
section
variable {Z : Zn} {ρ : Ro} {M : Mu} {ta tb : TE} {Q2 : DQ}
theorem we_lenSI {P : Program} {w : World} {K : PySem.W.Frag} (hW : Z.W = ⟨P, w, K⟩) (h : WE Z ta ρ M fun d M1 => ∃ xs : List Str, LstOf M1 d (xs.map DV.s) ∧ xs.length ≤ 1000 ∧ ∀ F, WE (Z.fr F) tb ρ M1 fun e M2 => ∃ ys : List Str, LstOf M2 e (ys.map DV.s) ∧ ys.length ≤ 1000 ∧ ∀ n : Nat, (n = 0 ↔ ∀ z ∈ xs, z ∉ ys) → Q2 (.i (n : Nat)) M2) :
    WE Z (tCB (rLenSet ⟨P, w, K⟩) (tCons (tOp (rAndS ⟨P, w, K⟩) (tCB (rSetS ⟨P, w, K⟩) (tCons ta tNil)) (tCB (rSetS ⟨P, w, K⟩) (tCons tb tNil))) tNil)) ρ M Q2 := fun G σ H Q s R E r => by
  rw [← hW]
  refine h G σ H _ s R E fun d v G1 M1 H1 s1 R1 x ⟨xs, l, hl, q⟩ => ?_
  obtain ⟨a, us, rfl, e2, e3⟩ := lst_at R1 x l
  rw [datL_str e3] at e2
  refine ⟨a, xs, rfl, SqL.of e2, hl, fun p n hn hp => ?_⟩
  refine q (upd Z.F p (setO Z.W p (fun k => decide (k ∈ xs)) n)) G1 σ _ _ (s.trans s1) (R1.toFr hp) (E.mono s1) fun e v' G2 M2 H2 s2 R2 x2 ⟨ys, l2, hl2, q2⟩ => ?_
  obtain ⟨b, us', rfl, e4, e5⟩ := lst_at R2 x2 l2
  rw [datL_str e5] at e4
  have hpA := R2.fr p _ upd_same
  refine ⟨b, ys, rfl, SqL.of e4, hl2, fun p2 n2 hn2 hp2 => ?_⟩
  have ne : p2 ≠ p := fun e => by rw [e, hpA] at hp2; cases hp2
  refine ⟨p, p2, _, _, n, n2, rfl, rfl, by rw [upd_ne (Ne.symm ne)]; exact hpA, upd_same, ne, hn, hn2, fun p3 m hp3 => ?_⟩
  refine ⟨p3, _, m, rfl, upd_same, fun k hk => ?_⟩
  have hF : ∀ c o, Z.F c = some o → upd Z.F p (setO Z.W p (fun k => decide (k ∈ xs)) n) c = some o := fun c o hc => by rw [upd_ne (ne_of_none hc (R1.fnone hp))]; exact hc
  have R3 : Rep Z.W G2 M2 Z.F H2 := ⟨R2.ex, fun c o hc => R2.fr c o (hF c o hc), fun c o hc => R2.fd c o (hF c o hc), R2.mu⟩
  refine r _ _ G2 M2 _ (s1.trans s2) ((R3.skip hp2).skip hp3) dat_v' (q2 k ?_)
  rw [hk]
  constructor
  · intro e z hz hy
    have := e z
    rw [decide_eq_true hz, decide_eq_true hy] at this
    cases this
  · intro e z
    by_cases hz : z ∈ xs
    · rw [decide_eq_false (e z hz), Bool.and_false]
    · rw [decide_eq_false hz, Bool.false_and]
end
end DL
set_option Elab.async false
set_option linter.all false
set_option maxRecDepth 100000
set_option maxHeartbeats 2000000
/-! DL52: the pairs of a tree in its order make the same tree; trees side by side. -/
namespace DL
open PySem PySem.Spec PyProof.Rows L2
theorem namesOf_app (xs ys : Prs) : namesOf (xs ++ ys) = namesOf xs ++ namesOf ys := by unfold namesOf; rw [List.map_append]
theorem TrF.app : ∀ {xs ys : Prs} {told : List Str}, TrF told xs → TrF (told ++ namesOf xs) ys → TrF told (xs ++ ys)
  | [], ys, told, _, h => by
    rw [show namesOf [] = [] from rfl, List.append_nil] at h
    exact h
  | x :: xs, ys, told, h, k => by
    refine ⟨h.1, TrF.app h.2 ?_⟩
    rw [show namesOf (x :: xs) = [x.1] ++ namesOf xs from rfl, ← List.append_assoc] at k
    exact k
/-- a tree's pairs, in its order -/
def oprs (ps : Prs) (l : List Str) : Prs := l.map fun c => (c, overOf ps c)
theorem names_oprs (ps : Prs) (l : List Str) : namesOf (oprs ps l) = l := by
  unfold namesOf oprs
  rw [List.map_map]
  exact List.map_id l
theorem oprs_app (ps : Prs) (l m : List Str) : oprs ps (l ++ m) = oprs ps l ++ oprs ps m := by unfold oprs; rw [List.map_append]
section
variable {ps : Prs}
theorem trF_ord (t : Tr ps) : ∀ (n : Nat) (o : Option Str) (told : List Str), (∀ c, o = some c → c ∈ told) → (told ++ ordF ps n o).Nodup → TrF told (oprs ps (ordF ps n o))
  | 0, o, told, _, _ => trivial
  | n + 1, o, told, ho, hn => by
    have key : ∀ (ks : List Str) (told : List Str), (∀ c ∈ ks, c ∈ kidsOf ps o) → (∀ c, o = some c → c ∈ told) → (told ++ ks.flatMap fun c => c :: ordF ps n (some c)).Nodup → TrF told (oprs ps (ks.flatMap fun c => c :: ordF ps n (some c))) := by
      intro ks
      induction ks with
      | nil => intro told _ _ _; exact trivial
      | cons c ks ih =>
        intro told hk ho hn
        have hc := hk c List.mem_cons_self
        rw [List.flatMap_cons] at hn ⊢
        rw [oprs_app]
        have hn1 : ((told ++ [c]) ++ ordF ps n (some c)).Nodup := by
          have : ((told ++ [c]) ++ ordF ps n (some c)).Sublist (told ++ (c :: ordF ps n (some c) ++ ks.flatMap fun c => c :: ordF ps n (some c))) := by
            rw [List.append_assoc]
            exact List.Sublist.append_left (List.sublist_append_left _ _) _
          exact hn.sublist this
        have hcn : c ∉ told := fun h => by
          have := (List.nodup_append.mp hn).2.2 c h c (by simp)
          exact this rfl
        refine TrF.app ⟨⟨t.name (kids_names hc), hcn, fun d e => ho d (by rw [← e]; exact (kid_over t hc).symm)⟩, trF_ord t n (some c) _ (fun d e => by cases e; simp) hn1⟩ ?_
        refine ih _ (fun d hd => hk d (List.mem_cons_of_mem _ hd)) (fun d e => List.mem_append.mpr (.inl (ho d e))) ?_
        rw [names_oprs]
        rw [List.append_assoc]
        exact hn
    exact key _ told (fun c h => h) ho hn
def opr (ps : Prs) : Prs := oprs ps (ord ps none)
theorem names_opr : namesOf (opr ps) = ord ps none := names_oprs _ _
theorem len_ord (t : Tr ps) : (ord ps none).length = ps.length := by
  have := (ord_perm t).length_eq
  rw [names_len] at this
  exact this
theorem Tr.opr (t : Tr ps) : Tr (DL.opr ps) := ⟨by rw [DL.opr, oprs, List.length_map, len_ord t]; exact t.len, trF_ord t _ none [] (fun c e => by cases e) (by rw [List.nil_append]; exact ord_nodup t none)⟩
theorem rk_ord (t : Tr ps) : ∀ {n : Nat} {o : Option Str} {x : Str}, x ∈ ordF ps n o → rk ps (some x) < rk ps o
  | n + 1, o, x, h => by
    obtain ⟨c, hc, h⟩ := List.mem_flatMap.mp h
    have h1 := rk_kid t hc
    rcases List.mem_cons.mp h with rfl | h
    · exact h1
    · exact Nat.lt_trans (rk_ord t h) h1
theorem filter_flat {α β : Type} (p : β → Bool) (f : α → List β) : ∀ l : List α, (l.flatMap f).filter p = l.flatMap fun x => (f x).filter p
  | [] => rfl
  | x :: l => by rw [List.flatMap_cons, List.filter_append, filter_flat p f l, List.flatMap_cons]
theorem flat_one {α β : Type} {f : α → List β} : ∀ {l : List α} {c : α}, l.Nodup → c ∈ l → (∀ x ∈ l, x ≠ c → f x = []) → l.flatMap f = f c
  | x :: l, c, hn, hc, h => by
    rw [List.flatMap_cons]
    rw [List.nodup_cons] at hn
    by_cases e : x = c
    · subst e
      have : l.flatMap f = [] := List.flatMap_eq_nil_iff.mpr fun y hy => h y (List.mem_cons_of_mem _ hy) fun e => hn.1 (e ▸ hy)
      rw [this, List.append_nil]
    · rw [h x List.mem_cons_self e, List.nil_append]
      exact flat_one hn.2 ((List.mem_cons.mp hc).resolve_left (Ne.symm e)) fun y hy => h y (List.mem_cons_of_mem _ hy)
theorem flat_self {α : Type} {f : α → List α} : ∀ {l : List α}, (∀ x ∈ l, f x = [x]) → l.flatMap f = l
  | [], _ => rfl
  | x :: l, h => by
    rw [List.flatMap_cons, h x List.mem_cons_self, flat_self fun y hy => h y (List.mem_cons_of_mem _ hy)]
    rfl
/-- the columns of a part with one over, in order -/
theorem filter_step (t : Tr ps) (o o' : Option Str) (IH : ∀ c ∈ kidsOf ps o', (ord ps (some c)).filter (fun c => decide (overOf ps c = o)) = if o = some c ∨ (∃ d ∈ ord ps (some c), o = some d) then kidsOf ps o else []) :
    (ord ps o').filter (fun c => decide (overOf ps c = o)) = if o = o' ∨ (∃ d ∈ ord ps o', o = some d) then kidsOf ps o else [] := by
    rw [ord_eq t, filter_flat]
    have hone : ∀ c ∈ kidsOf ps o', (c :: ord ps (some c)).filter (fun c => decide (overOf ps c = o)) = (if o = o' then [c] else []) ++ (if o = some c ∨ (∃ d ∈ ord ps (some c), o = some d) then kidsOf ps o else []) := fun c hc => by
      rw [List.filter_cons, kid_over t hc, IH c hc]
      by_cases e : o' = o
      · subst e; simp
      · rw [decide_eq_false e, if_neg (Ne.symm e)]; simp
    have hcg : (kidsOf ps o').flatMap (fun x => (x :: ord ps (some x)).filter fun c => decide (overOf ps c = o)) = (kidsOf ps o').flatMap fun c => (if o = o' then [c] else []) ++ (if o = some c ∨ (∃ d ∈ ord ps (some c), o = some d) then kidsOf ps o else []) := flatMap_congr' hone
    rw [hcg]
    by_cases e : o = o'
    · subst e
      rw [if_pos (.inl rfl)]
      refine flat_self fun c hc => ?_
      rw [if_pos rfl, if_neg, List.append_nil]
      rintro (rfl | ⟨d, hd, rfl⟩)
      · have := rk_kid t hc; omega
      · have h1 := rk_ord t hd
        have h2 := rk_kid t hc
        omega
    · by_cases hd : ∃ d ∈ (kidsOf ps o').flatMap (fun c => c :: ord ps (some c)), o = some d
      · rw [if_pos (.inr hd)]
        obtain ⟨d, hd, rfl⟩ := hd
        obtain ⟨c, hc, hdc⟩ := List.mem_flatMap.mp hd
        rw [flat_one (kids_nodup t o') hc fun x hx hne => ?_]
        · rw [if_neg e, if_pos, List.nil_append]
          rcases List.mem_cons.mp hdc with rfl | h
          · exact .inl rfl
          · exact .inr ⟨d, h, rfl⟩
        · rw [if_neg e, if_neg, List.nil_append]
          have up : ∀ {y : Str}, d ∈ y :: ord ps (some y) → ∃ k, upN ps k (some d) = some y := fun {y} h => by
            rcases List.mem_cons.mp h with rfl | h
            · exact ⟨0, rfl⟩
            · obtain ⟨k, c', hc', hk⟩ := ord_up t h
              exact ⟨k + 1, by rw [upN_succ, hk]; exact kid_over t hc'⟩
          obtain ⟨i, hi⟩ := up hdc
          have hx' : ¬ d ∈ x :: ord ps (some x) := fun h => by
            obtain ⟨j, hj⟩ := up h
            exact hne (same_kid t hx hc hj hi)
          rintro (h | ⟨d', h, e'⟩)
          · injection h with h
            exact hx' (by rw [h]; exact List.mem_cons_self)
          · injection e' with e'
            exact hx' (by rw [e']; exact List.mem_cons_of_mem _ h)
      · rw [if_neg (fun h => h.elim e hd)]
        refine List.flatMap_eq_nil_iff.mpr fun c hc => ?_
        rw [if_neg e, if_neg, List.nil_append]
        rintro (rfl | ⟨d, h, rfl⟩)
        · exact hd ⟨c, List.mem_flatMap.mpr ⟨c, hc, List.mem_cons_self⟩, rfl⟩
        · exact hd ⟨d, List.mem_flatMap.mpr ⟨c, hc, List.mem_cons_of_mem _ h⟩, rfl⟩
theorem filter_ord (t : Tr ps) (o : Option Str) : ∀ (n : Nat) (o' : Option Str), rk ps o' ≤ n →
    (ord ps o').filter (fun c => decide (overOf ps c = o)) = if o = o' ∨ (∃ d ∈ ord ps o', o = some d) then kidsOf ps o else []
  | 0, o', hn => filter_step t o o' fun c hc => by have := rk_kid t hc; omega
  | n + 1, o', hn => filter_step t o o' fun c hc => filter_ord t o n (some c) (by have := rk_kid t hc; omega)
theorem overOf_oprs : ∀ {l : List Str} {c : Str}, c ∈ l → overOf (oprs ps l) c = overOf ps c
  | x :: l, c, h => by
    by_cases e : x = c
    · subst e
      exact overOf_cons_pos (p := (x, overOf ps x)) rfl
    · rw [oprs, List.map_cons, overOf_cons_neg (p := (x, overOf ps x)) e]
      exact overOf_oprs ((List.mem_cons.mp h).resolve_left (Ne.symm e))
theorem kids_oprs (o : Option Str) (l : List Str) : kidsOf (oprs ps l) o = l.filter fun c => decide (overOf ps c = o) := by
  unfold kidsOf oprs
  rw [List.filter_map, List.map_map]
  exact List.map_id _
theorem kids_out (t : Tr ps) {d : Str} (h : d ∉ namesOf ps) : kidsOf ps (some d) = [] := by
  rw [List.eq_nil_iff_forall_not_mem]
  intro c hc
  have := kid_over t hc
  exact h (inT_over t c d this)
theorem kids_opr (t : Tr ps) (o : Option Str) : kidsOf (opr ps) o = kidsOf ps o := by
  rw [opr, kids_oprs, filter_ord t o ps.length none (rk_le _)]
  by_cases h : o = none ∨ ∃ d ∈ ord ps none, o = some d
  · rw [if_pos h]
  · rw [if_neg h]
    cases o with
    | none => exact absurd (.inl rfl) h
    | some d => exact (kids_out t fun hd => h (.inr ⟨d, (ord_mem t).mpr hd, rfl⟩)).symm
theorem ordF_congr {qs : Prs} (h : ∀ o, kidsOf qs o = kidsOf ps o) : ∀ (n : Nat) (o : Option Str), ordF qs n o = ordF ps n o
  | 0, _ => rfl
  | n + 1, o => by
    show (kidsOf qs o).flatMap _ = (kidsOf ps o).flatMap _
    rw [h o]
    exact flatMap_congr' fun c _ => by rw [ordF_congr h n]
theorem ord_opr (t : Tr ps) (o : Option Str) : ord (opr ps) o = ord ps o := by
  unfold ord
  rw [show (opr ps).length = ps.length by rw [opr, oprs, List.length_map, len_ord t]]
  exact ordF_congr (kids_opr t) _ _
theorem over_opr (t : Tr ps) {c : Str} (h : c ∈ namesOf ps) : overOf (opr ps) c = overOf ps c := overOf_oprs ((ord_mem t).mpr h)
end
/-! ### side by side -/
section
variable {ps qs : Prs}
theorem kids_app (o : Option Str) : kidsOf (ps ++ qs) o = kidsOf ps o ++ kidsOf qs o := by unfold kidsOf; rw [List.filter_append, List.map_append]
theorem trF_told : ∀ {ps : Prs} {told more : List Str}, TrF told ps → (∀ c ∈ namesOf ps, c ∉ more) → TrF (more ++ told) ps
  | [], _, _, _, _ => trivial
  | p :: ps, told, more, h, hd => by
    refine ⟨⟨h.1.nm, fun k => ?_, fun c e => List.mem_append.mpr (.inr (h.1.ov c e))⟩, ?_⟩
    · rcases List.mem_append.mp k with k | k
      · exact hd p.1 List.mem_cons_self k
      · exact h.1.new k
    · rw [List.append_assoc]
      exact trF_told h.2 fun c hc => hd c (List.mem_cons_of_mem _ hc)
theorem Tr.beside (t : Tr ps) (u : Tr qs) (hd : ∀ c ∈ namesOf qs, c ∉ namesOf ps) (hl : ps.length + qs.length ≤ 8) : Tr (ps ++ qs) := ⟨by rw [List.length_append]; exact hl, TrF.app t.ok (by
  have := trF_told (more := namesOf ps) u.ok hd
  rw [List.append_nil] at this
  exact this)⟩
theorem ordF_left (t : Tr ps) (u : Tr qs) (hd : ∀ c ∈ namesOf qs, c ∉ namesOf ps) : ∀ (n : Nat) (c : Str), c ∈ namesOf ps → ordF (ps ++ qs) n (some c) = ordF ps n (some c)
  | 0, _, _ => rfl
  | n + 1, c, hc => by
    show (kidsOf (ps ++ qs) (some c)).flatMap _ = (kidsOf ps (some c)).flatMap _
    rw [kids_app, kids_out u (fun h => hd c h hc), List.append_nil]
    exact flatMap_congr' fun x hx => by rw [ordF_left t u hd n x (kids_names hx)]
theorem ordF_right (t : Tr ps) (u : Tr qs) (hd : ∀ c ∈ namesOf qs, c ∉ namesOf ps) : ∀ (n : Nat) (c : Str), c ∈ namesOf qs → ordF (ps ++ qs) n (some c) = ordF qs n (some c)
  | 0, _, _ => rfl
  | n + 1, c, hc => by
    show (kidsOf (ps ++ qs) (some c)).flatMap _ = (kidsOf qs (some c)).flatMap _
    rw [kids_app, kids_out t (hd c hc), List.nil_append]
    exact flatMap_congr' fun x hx => by rw [ordF_right t u hd n x (kids_names hx)]
theorem ord_beside (t : Tr ps) (u : Tr qs) (hd : ∀ c ∈ namesOf qs, c ∉ namesOf ps) (hl : ps.length + qs.length ≤ 8) : ord (ps ++ qs) none = ord ps none ++ ord qs none := by
  have tu := t.beside u hd hl
  rw [ord_eq tu, ord_eq t, ord_eq u, kids_app, List.flatMap_append]
  congr 1
  · refine flatMap_congr' fun c hc => ?_
    have hcn := kids_names hc
    unfold ord
    rw [ordF_left t u hd _ c hcn, ordF_more t (n := ps.length) (rk_le _) (by rw [List.length_append]; omega)]
  · refine flatMap_congr' fun c hc => ?_
    have hcn := kids_names hc
    unfold ord
    rw [ordF_right t u hd _ c hcn, ordF_more u (n := qs.length) (rk_le _) (by rw [List.length_append]; omega)]
theorem over_left {c : Str} (h : c ∈ namesOf ps) : overOf (ps ++ qs) c = overOf ps c := by
  unfold overOf
  rw [List.find?_append]
  cases e : ps.find? fun p => decide (p.1 = c) with
  | some p => rfl
  | none =>
    obtain ⟨p, hp, rfl⟩ := List.mem_map.mp h
    have := List.find?_eq_none.mp e p hp
    simp at this
theorem over_right {c : Str} (h : c ∉ namesOf ps) : overOf (ps ++ qs) c = overOf qs c := by
  unfold overOf
  rw [List.find?_append]
  have : (ps.find? fun p => decide (p.1 = c)) = none := List.find?_eq_none.mpr fun p hp e => h (List.mem_map.mpr ⟨p, hp, by simpa using e⟩)
  rw [this]
  rfl
theorem opr_beside (t : Tr ps) (u : Tr qs) (hd : ∀ c ∈ namesOf qs, c ∉ namesOf ps) (hl : ps.length + qs.length ≤ 8) : opr (opr ps ++ opr qs) = opr ps ++ opr qs := by
  have hd' : ∀ c ∈ namesOf (opr qs), c ∉ namesOf (opr ps) := fun c hc => by
    rw [names_opr] at hc ⊢
    exact fun h => hd c ((ord_mem u).mp hc) ((ord_mem t).mp h)
  have hl' : (opr ps).length + (opr qs).length ≤ 8 := by
    rw [opr, opr, oprs, oprs, List.length_map, List.length_map, len_ord t, len_ord u]; exact hl
  have e := ord_beside t.opr u.opr hd' hl'
  rw [ord_opr t, ord_opr u] at e
  show oprs (opr ps ++ opr qs) (ord (opr ps ++ opr qs) none) = opr ps ++ opr qs
  rw [e, oprs_app]
  congr 1
  · show (ord ps none).map (fun c => (c, overOf (opr ps ++ opr qs) c)) = (ord ps none).map fun c => (c, overOf ps c)
    refine List.map_congr_left fun c hc => ?_
    rw [over_left (by rw [names_opr]; exact hc), over_opr t ((ord_mem t).mp hc)]
  · show (ord qs none).map (fun c => (c, overOf (opr ps ++ opr qs) c)) = (ord qs none).map fun c => (c, overOf qs c)
    refine List.map_congr_left fun c hc => ?_
    rw [over_right (hd' c (by rw [names_opr]; exact hc)), over_opr u ((ord_mem u).mp hc)]
end
theorem Teq.opr {ps : Prs} (t : Tr ps) : Teq (DL.opr ps) ps := ⟨ord_opr t none, fun c hc => over_opr t ((ord_mem t).mp (by rw [names_opr] at hc; exact hc))⟩
theorem wc_max {Z : Zn} {M : Mu} {Q2 : DQ} {i j : Int} (h : Q2 (.i (if j > i then j else i)) M) : WC Z (fun xs H Q => ∃ i j, xs = [.int i, .int j] ∧ Q (.int (if j > i then j else i)) H) [.i i, .i j] M Q2 := fun G H vs Q s R xs r => by
  obtain ⟨y, z, rfl, h1, h2⟩ := two_of xs
  rw [dat_v.mp h1, dat_v.mp h2]
  exact ⟨i, j, rfl, r _ _ G M H (Same.refl G) R dat_v' h⟩
theorem bt_max : bootBuiltins "max" = some (.builtin "max") := by decide +kernel
end DL
set_option Elab.async false
set_option linter.all false
set_option maxRecDepth 100000
set_option maxHeartbeats 2000000
/-! DL53: ways down a tree in its order; blocks; sorted names. -/
namespace DL
open PySem PySem.Spec PyProof.Rows L2
section
variable {ps : Prs}
/-- what lies beneath a column is one block of the order -/
theorem block_of (t : Tr ps) {c : Str} : ∀ (n : Nat) (o : Option Str), rk ps o ≤ n → c ∈ ord ps o → ∃ l r, ord ps o = l ++ (c :: ord ps (some c)) ++ r
  | n, o, hn, h => by
    rw [ord_eq t] at h
    obtain ⟨k, hk, hc⟩ := List.mem_flatMap.mp h
    obtain ⟨k1, k2, e⟩ := List.append_of_mem hk
    have e1 : ord ps o = (k1.flatMap fun c => c :: ord ps (some c)) ++ (k :: ord ps (some k)) ++ (k2.flatMap fun c => c :: ord ps (some c)) := by
      rw [ord_eq t, e, List.flatMap_append, List.flatMap_cons, List.append_assoc]
    rcases List.mem_cons.mp hc with rfl | hc
    · exact ⟨_, _, e1⟩
    · match n, hn with
      | 0, hn => have := rk_kid t hk; omega
      | n + 1, hn =>
        obtain ⟨l, r, e2⟩ := block_of t n (some k) (by have := rk_kid t hk; omega) hc
        refine ⟨(k1.flatMap fun c => c :: ord ps (some c)) ++ k :: l, r ++ (k2.flatMap fun c => c :: ord ps (some c)), ?_⟩
        rw [e1, e2]
        simp
/-- the columns of a part that a column is beneath, itself too, from the top down -/
theorem way_step (t : Tr ps) {c : Str} (o : Option Str) (h : c ∈ ord ps o) (IH : ∀ k ∈ kidsOf ps o, c ∈ ord ps (some k) → upto ps (some k) ++ (ord ps (some k)).filter (fun x => decide (c ∈ x :: ord ps (some x))) = abv ps c ++ [c]) :
    upto ps o ++ (ord ps o).filter (fun x => decide (c ∈ x :: ord ps (some x))) = abv ps c ++ [c] := by
  have up : ∀ {y d : Str}, d ∈ y :: ord ps (some y) → ∃ k, upN ps k (some d) = some y := fun {y d} h => by
    rcases List.mem_cons.mp h with rfl | h
    · exact ⟨0, rfl⟩
    · obtain ⟨k, c', hc', hk⟩ := ord_up t h
      exact ⟨k + 1, by rw [upN_succ, hk]; exact kid_over t hc'⟩
  have h' := h
  rw [ord_eq t] at h'
  obtain ⟨k, hk, hc⟩ := List.mem_flatMap.mp h'
  have hko := kid_over t hk
  have hkn := kids_names hk
  have eup : upto ps (some k) = upto ps o ++ [k] := by rw [upto_some t hkn, abv_upto, hko]
  rw [ord_eq t, filter_flat]
  rw [flat_one (f := fun x => (x :: ord ps (some x)).filter fun x => decide (c ∈ x :: ord ps (some x))) (kids_nodup t o) hk fun x hx hne => ?_]
  · rw [List.filter_cons_of_pos (by simpa using hc)]
    rcases List.mem_cons.mp hc with rfl | hc'
    · have : (ord ps (some c)).filter (fun x => decide (c ∈ x :: ord ps (some x))) = [] := by
        rw [List.filter_eq_nil_iff]
        intro x hx hcx
        have h1 := rk_ord t hx
        rcases List.mem_cons.mp (of_decide_eq_true hcx) with e | e
        · rw [e] at h1; omega
        · have h2 := rk_ord t e; omega
      rw [this, abv_upto, hko]
    · have := IH k hk hc'
      rw [eup, List.append_assoc] at this
      exact this
  · rw [List.filter_eq_nil_iff]
    intro y hy hcy
    obtain ⟨i, hi⟩ := up hc
    obtain ⟨j, hj⟩ := up (of_decide_eq_true hcy)
    obtain ⟨j', hj'⟩ := up hy
    have hjx : upN ps (j + j') (some c) = some x := by rw [upN_add, hj]; exact hj'
    exact hne (same_kid t hx hk hjx hi)
theorem way_of (t : Tr ps) {c : Str} : ∀ (n : Nat) (o : Option Str), rk ps o ≤ n → c ∈ ord ps o → upto ps o ++ (ord ps o).filter (fun x => decide (c ∈ x :: ord ps (some x))) = abv ps c ++ [c]
  | 0, o, hn, h => way_step t o h fun k hk _ => by have := rk_kid t hk; omega
  | n + 1, o, hn, h => way_step t o h fun k hk hc => way_of t n (some k) (by have := rk_kid t hk; omega) hc
theorem way_all (t : Tr ps) {c : Str} (hc : c ∈ namesOf ps) : (ord ps none).filter (fun x => decide (c ∈ x :: ord ps (some x))) = abv ps c ++ [c] := by
  have := way_of t ps.length none (rk_le _) ((ord_mem t).mpr hc)
  rw [upto_none, List.nil_append] at this
  exact this
theorem block_at (t : Tr ps) {c : Str} (hc : c ∈ namesOf ps) : ((ord ps none).take (posS c (ord ps none) + (c :: ord ps (some c)).length)).drop (posS c (ord ps none)) = c :: ord ps (some c) := by
  obtain ⟨l, r, e⟩ := block_of t ps.length none (rk_le _) ((ord_mem t).mpr hc)
  have hp : posS c (ord ps none) = l.length := posS_eq (ord_nodup t none) (by rw [e, List.append_assoc, List.getElem?_append_right (Nat.le_refl _), Nat.sub_self]; rfl)
  rw [hp, e, List.append_assoc, List.take_append, List.drop_append]
  simp
end
/-! ### the tops' parts -/
section
variable {ps : Prs}
theorem part_filter (t : Tr ps) {c : Str} (hc : c ∈ namesOf ps) : (ord ps none).filter (fun x => decide (x ∈ c :: ord ps (some c))) = c :: ord ps (some c) := by
  obtain ⟨l, r, e⟩ := block_of t ps.length none (rk_le _) ((ord_mem t).mpr hc)
  have hn := ord_nodup t none
  rw [e] at hn ⊢
  rw [List.filter_append, List.filter_append]
  obtain ⟨h1, _, h3⟩ := List.nodup_append.mp hn
  obtain ⟨_, _, h5⟩ := List.nodup_append.mp h1
  have e1 : l.filter (fun x => decide (x ∈ c :: ord ps (some c))) = [] := List.filter_eq_nil_iff.mpr fun x hx k => h5 x hx x (of_decide_eq_true k) rfl
  have e2 : r.filter (fun x => decide (x ∈ c :: ord ps (some c))) = [] := List.filter_eq_nil_iff.mpr fun x hx k => h3 x (List.mem_append.mpr (.inr (of_decide_eq_true k))) x hx rfl
  have e3 : (c :: ord ps (some c)).filter (fun x => decide (x ∈ c :: ord ps (some c))) = c :: ord ps (some c) := List.filter_eq_self.mpr fun x hx => decide_eq_true hx
  rw [e1, e2, e3, List.nil_append, List.append_nil]
end
end DL
set_option Elab.async false
set_option linter.all false
set_option maxRecDepth 100000
set_option maxHeartbeats 2000000
/-! DL54: sorted names; the parts of the tops. -/
namespace DL
open PySem PySem.Spec PyProof.Rows L2
theorem sort_uniq {α : Type} {le : α → α → Prop} (anti : ∀ x y, le x y → le y x → x = y) : ∀ {l m : List α}, l.Perm m → l.Pairwise le → m.Pairwise le → l = m
  | [], m, h, _, _ => (List.nil_perm.mp h).symm ▸ rfl
  | x :: l, m, h, hl, hm => by
    cases m with
    | nil => exact absurd h (by simp)
    | cons y m =>
      rw [List.pairwise_cons] at hl hm
      have e : x = y := by
        rcases List.mem_cons.mp (h.mem_iff.mp List.mem_cons_self) with e | hx
        · exact e
        · rcases List.mem_cons.mp (h.mem_iff.mpr (List.mem_cons_self (a := y) (l := m))) with e | hy
          · exact e.symm
          · exact anti x y (hl.1 y hy) (hm.1 x hx)
      subst e
      rw [sort_uniq anti (List.Perm.cons_inv h) hl.2 hm.2]
def leS (x y : Str) : Prop := x.cps.toList ≤ y.cps.toList
theorem leS_anti (x y : Str) (h : leS x y) (k : leS y x) : x = y := by
  have e := List.le_antisymm h k
  obtain ⟨⟨a⟩⟩ := x
  obtain ⟨⟨b⟩⟩ := y
  simp only at e
  rw [e]
theorem rising_pair : ∀ {l : List Str} {p : Str}, risingS p l = true → (p :: l).Pairwise leS
  | [], p, _ => by simp
  | x :: l, p, h => by
    have h : (!ltCps x.cps.toList p.cps.toList && risingS x l) = true := h
    rw [Bool.and_eq_true, Bool.not_eq_true', ltCps_eq, decide_eq_false_iff_not, List.not_lt] at h
    have ih := rising_pair h.2
    rw [List.pairwise_cons]
    refine ⟨fun y hy => ?_, ih⟩
    rcases List.mem_cons.mp hy with rfl | hy
    · exact h.1
    · exact List.le_trans h.1 ((List.pairwise_cons.mp ih).1 y hy)
theorem sorted_pair : ∀ {l : List Str}, sortedS l = true → l.Pairwise leS
  | [], _ => List.Pairwise.nil
  | x :: l, h => rising_pair h
theorem k_sortS {X : Cx} {K : PySem.W.Frag} (e : X.K = K) : CallR X (.builtin "sorted") (rSortedS K) := e ▸ cr_sortedS
theorem wc_sortS {Z : Zn} {M : Mu} {Q2 : DQ} {d : DV} {xs : List Str} (l : LstOf M d (xs.map DV.s)) (hl : xs.length < 64) (h : ∀ ys : List Str, ys.Perm xs → ys.Pairwise leS → Q2 (.lst (ys.map DV.s)) M) : WC Z (rSortedS Z.W.K) [d] M Q2 := fun G H vs Q s R xd r => by
  obtain ⟨y, rfl, x⟩ := one_of xd
  obtain ⟨a, us, rfl, e2, e3⟩ := lst_at R x l
  rw [datL_str e3] at e2
  refine ⟨a, xs, rfl, SqL.of e2, hl, fun ys p hp hs hn => ?_⟩
  refine r _ _ (upd G p (.lst (ys.map V.str))) M _ (same_new (R.gnone hn)) (R.new hn) (dat_lst.mpr ⟨p, _, rfl, by unfold upd; rw [if_pos rfl], ?_⟩) (h ys hp (sorted_pair hs))
  have e4 : ys.map DV.s = (ys.map V.str).map DV.v := by rw [List.map_map]; rfl
  rw [e4]
  exact datL_v _
section
variable {ps : Prs}
/-- a top and all beneath it -/
def blk (ps : Prs) (c : Str) : List Str := c :: ord ps (some c)
def sub (ps : Prs) (c : Str) : Prs := oprs ps (blk ps c)
theorem names_sub (c : Str) : namesOf (sub ps c) = blk ps c := names_oprs _ _
theorem tr_sub (t : Tr ps) {c : Str} (hc : c ∈ kidsOf ps none) : Tr (sub ps c) := by
  have hcn := kids_names hc
  refine ⟨?_, ⟨⟨t.name hcn, by simp, fun d e => ?_⟩, ?_⟩⟩
  · rw [sub, oprs, List.length_map]
    exact Nat.le_trans (beneath_len t hcn) t.len
  · have e : overOf ps c = some d := e
    rw [kid_over t hc] at e
    cases e
  · exact trF_ord t ps.length (some c) _ (fun d e => by cases e; simp) (beneath_nodup t c)
theorem kids_sub (t : Tr ps) {c : Str} (hc : c ∈ kidsOf ps none) (o : Option Str) : kidsOf (sub ps c) o = (if o = none then [c] else []) ++ (if o = some c ∨ (∃ d ∈ ord ps (some c), o = some d) then kidsOf ps o else []) := by
  rw [sub, kids_oprs, blk, List.filter_cons, kid_over t hc, filter_ord t o ps.length (some c) (rk_le _)]
  by_cases e : o = none
  · subst e; simp
  · rw [decide_eq_false (Ne.symm e), if_neg e]; simp
theorem ordF_sub (t : Tr ps) {c : Str} (hc : c ∈ kidsOf ps none) : ∀ (n : Nat) (d : Str), d ∈ blk ps c → ordF (sub ps c) n (some d) = ordF ps n (some d)
  | 0, _, _ => rfl
  | n + 1, d, hd => by
    show (kidsOf (sub ps c) (some d)).flatMap _ = (kidsOf ps (some d)).flatMap _
    have hk : kidsOf (sub ps c) (some d) = kidsOf ps (some d) := by
      rw [kids_sub t hc, if_neg (by simp), if_pos, List.nil_append]
      rcases List.mem_cons.mp hd with rfl | h
      · exact .inl rfl
      · exact .inr ⟨d, h, rfl⟩
    rw [hk]
    refine flatMap_congr' fun x hx => ?_
    rw [ordF_sub t hc n x]
    refine List.mem_cons_of_mem _ ?_
    rcases List.mem_cons.mp hd with rfl | h
    · exact ord_kid t hx
    · exact ord_step t h hx
theorem ord_sub (t : Tr ps) {c : Str} (hc : c ∈ kidsOf ps none) : ord (sub ps c) none = blk ps c := by
  have ts := tr_sub t hc
  have hle : (sub ps c).length ≤ ps.length := by rw [sub, oprs, List.length_map]; exact beneath_len t (kids_names hc)
  rw [ord_eq ts, kids_sub t hc, if_pos rfl, if_neg (by rintro (h | ⟨d, _, h⟩) <;> cases h), List.append_nil]
  show (c :: ord (sub ps c) (some c)) ++ [] = _
  rw [List.append_nil]
  unfold blk
  congr 1
  unfold ord
  rw [← ordF_more ts (n := (sub ps c).length) (m := ps.length) (rk_le _) hle]
  exact ordF_sub t hc _ c List.mem_cons_self
theorem opr_sub (t : Tr ps) {c : Str} (hc : c ∈ kidsOf ps none) : opr (sub ps c) = sub ps c := by
  unfold opr
  rw [ord_sub t hc]
  show (blk ps c).map (fun x => (x, overOf (sub ps c) x)) = (blk ps c).map fun x => (x, overOf ps x)
  exact List.map_congr_left fun x hx => by rw [sub, overOf_oprs hx]
theorem teq_of {qs : Prs} (t : Tr ps) (u : Tr qs) (h : opr qs = opr ps) : Teq qs ps := by
  refine ⟨by rw [← names_opr, h, names_opr], fun c hc => ?_⟩
  have hc' : c ∈ namesOf ps := (ord_mem t).mp (by rw [← names_opr, ← h, names_opr]; exact (ord_mem u).mpr hc)
  rw [← over_opr u hc, h, over_opr t hc']
end
end DL
set_option Elab.async false
set_option linter.all false
set_option maxRecDepth 100000
set_option maxHeartbeats 2000000
/-! DL55: str(o) by an own __str__; f-strings. -/
namespace DL
open PySem PySem.Spec PyProof.Rows L2
section
variable {X : Cx} {CX : CXT} {k : Nat} {f C : Addr} {fd : FuncData} {ps : List Str} {sp : Sp} {E : XK}
theorem call_strO {fl : Addr} (hl : PySem.W.findIn X.K (.ref C) "__str__" = some (some (.ref fl))) (hf : PySem.W.isFn X.K (.ref fl) = true) (F : FnOk X.prog X.w X.K X.mg X.base CX k fl fd ps sp) (hr : Room (k + 2) X.A) (hb : Binds X.K fd ps []) (hx : Passes CX X E) :
    CallR X (.type "str") (fun xs H Q => ∃ (a dx : Addr) (fs : List (Str × V)), xs = [.ref a] ∧ H a = some (.ins C dx fs) ∧ sp [.ref a] H (fun v H' => ∃ z : Str, v = .str z ∧ Q (.str z) H') E) := by
  intro pins s σ H xs us Q I r h
  obtain ⟨a, dx, fs, rfl, ha, h⟩ := h
  obtain ⟨u, rfl, ru⟩ := vals1 r
  cases ru
  obtain ⟨mA, J, _⟩ := ins_get I.hok ha
  obtain ⟨od, J, _⟩ := J.look
  refine PySem.W.kso_call (huF (hr.in1 (k := k + 1)).in1) I.kIn J hl hf ?_
  refine thn (run_own F rfl (hr.in1 (k := k + 1)).in1 hb hx I (show Vals [V.ref a] [Value.ref a] from .cons rfl .nil) h) fun z s' hz => ?_
  obtain ⟨zv, H', I', rz, y, rfl, q⟩ := hz
  obtain ⟨t, rfl⟩ := rz
  exact ⟨.str y, H', I', ⟨_, rfl⟩, q⟩
end
section
variable {W : Wd} {Z : Zn} {G F H : Hp} {ρ : Ro} {M : Mu} {Q2 : DQ} {te : TE} {tx : TA} {x : DV} {ds : List DV} {sp2 : Sp2} {E : XK} {E2 : XK2} {ns : List Str}
theorem wc_strO {C : Addr} (hx : XcOk Z E2 E) (o : ObjOf M x C ns ds) (h : sp2 [x] M (fun v M' => ∃ z : Str, v = .s z ∧ Q2 (.s z) M') E2) :
    WC Z (fun xs H Q => ∃ (a dx : Addr) (fs : List (Str × V)), xs = [.ref a] ∧ H a = some (.ins C dx fs) ∧ lift Z.W sp2 [.ref a] H (fun v H' => ∃ z : Str, v = .str z ∧ Q (.str z) H') E) [x] M Q2 := fun G H vs Q s R xd r => by
  obtain ⟨y, rfl, dx⟩ := one_of xd
  obtain ⟨a, ddx, us, rfl, e2, e3, e4⟩ := obj_at R dx o
  refine ⟨a, ddx, _, rfl, e2, G, Z.F, [x], M, _, E2, R, datL_cons' dx datL_nil', h, ?_, hx.mono s⟩
  intro d v G' M' H' s' R' hv q
  obtain ⟨z, rfl, q⟩ := q
  exact ⟨z, dat_v.mp hv, r _ _ G' M' H' s' R' dat_v' q⟩
theorem wc_strS {z : Str} (h : Q2 (.s z) M) : WC Z (fun xs H Q => ∃ a, xs = [.str a] ∧ Q (.str a) H) [.s z] M Q2 := fun G H vs Q s R xd r => by
  obtain ⟨y, rfl, dx⟩ := one_of xd
  rw [dat_v.mp dx]
  exact ⟨z, rfl, r _ _ G M H (Same.refl G) R dat_v' h⟩
def tJoined (ts : List TE) : TE := fun σ H Q => tJs ts Str.empty σ H fun out H1 => Q (.str out) H1
theorem pe_joinedD {X : Cx} {v1 v2 : Expr} {rest : List Expr} {ts : List TE} {pos : Pos} (h : PJ X (v1 :: v2 :: rest) ts) : PE X (.JoinedStr (v1 :: v2 :: rest) pos) (tJoined ts) := pe_joined h
def WJs (Z : Zn) (ρ : Ro) (P : Str → Mu → Prop) : List TE → Str → Mu → Prop
  | [], acc, M => P acc M
  | t :: ts, acc, M => WE Z t ρ M fun d M1 => ∃ y, d = .s y ∧ (acc ++ y).length ≤ sizeLine ∧ WJs Z ρ P ts (acc ++ y) M1
theorem wjs_run {P : Str → Mu → Prop} {σ : L2.St} : ∀ {ts : List TE} {acc : Str} {G : Hp} {M : Mu} {H : Hp} {Q : Str → Hp → Prop}, Same Z.G G → Rep Z.W G M Z.F H → EnvOk Z.W G ρ σ → WJs Z ρ P ts acc M → (∀ out G' M' H', Same G G' → Rep Z.W G' M' Z.F H' → P out M' → Q out H') → tJs ts acc σ H Q
  | [], acc, G, M, H, Q, s, R, E, h, k => k acc G M H (Same.refl G) R h
  | t :: ts, acc, G, M, H, Q, s, R, E, h, k => h G σ H _ s R E fun d v G1 M1 H1 s1 R1 dx ⟨y, e, hz, q⟩ => by
    subst e
    exact ⟨y, dat_v.mp dx, hz, wjs_run (s.trans s1) R1 (E.mono s1) q fun out G' M' H' s' R' p => k out G' M' H' (s1.trans s') R' p⟩
theorem we_joined {ts : List TE} (h : WJs Z ρ (fun out M1 => Q2 (.s out) M1) ts Str.empty M) : WE Z (tJoined ts) ρ M Q2 := fun G σ H Q s R E r =>
  wjs_run s R E h fun out G' M' H' s' R' q => r _ _ G' M' H' s' R' dat_v' q
theorem we_fmt (h : WE Z te ρ M fun d M1 => ∃ y : Str, d = .s y ∧ y.length ≤ sizeLine ∧ Q2 (.s y) M1) : WE Z (tFmt te) ρ M Q2 := fun G σ H Q s R E r =>
  h G σ H _ s R E fun d v G1 M1 H1 s1 R1 dx ⟨y, e, hz, q⟩ => by
    subst e
    exact .inl ⟨y, dat_v.mp dx, hz, r _ _ G1 M1 H1 s1 R1 dat_v' q⟩
end
end DL
set_option Elab.async false
set_option linter.all false
set_option maxRecDepth 100000
set_option maxHeartbeats 2000000
/-! DL56: the text of a tree, plainly. -/
namespace DL
open PySem PySem.Spec PyProof.Rows L2
theorem len_app (x y : Str) : (x ++ y).length = x.length + y.length := by
  show (x.cps ++ y.cps).size = _
  rw [Array.size_append]
  rfl
theorem joinL_len (sep : List Nat) : ∀ l : List (List Nat), (TL.joinL sep l).length ≤ (l.map List.length).sum + l.length * sep.length
  | [] => by simp [TL.joinL]
  | [x] => by simp [TL.joinL]
  | x :: y :: l => by
    have ih := joinL_len sep (y :: l)
    rw [show TL.joinL sep (x :: y :: l) = x ++ (sep ++ TL.joinL sep (y :: l)) from rfl]
    rw [List.length_append, List.length_append, List.map_cons, List.sum_cons, List.length_cons (a := x), Nat.add_mul]
    omega
theorem tl_len (x : Str) : (TL.tl x).length = x.length := rfl
theorem join_len (sep : Str) (l : List Str) : (Txt.join sep l).length ≤ (l.map (·.length)).sum + l.length * sep.length := by
  rw [← tl_len, TL.join_eq, TL.tl_join]
  have := joinL_len (TL.tl sep) (l.map TL.tl)
  rw [List.map_map, List.length_map] at this
  exact this
/-- a column's word: its name, and what is beneath it in brackets -/
def word (c inner : Str) : Str := c ++ (if inner = ("" : Str) then ("" : Str) else ("(" : Str) ++ inner ++ (")" : Str))
def txtF (ps : Prs) : Nat → Option Str → Str
  | 0, _ => ""
  | n + 1, o => Txt.join "," ((kidsOf ps o).map fun c => word c (txtF ps n (some c)))
def txt (ps : Prs) (o : Option Str) : Str := txtF ps ps.length o
section
variable {ps : Prs}
theorem txtF_none (n : Nat) {o : Option Str} (h : kidsOf ps o = []) : txtF ps n o = "" := by
  cases n with
  | zero => rfl
  | succ n =>
    show Txt.join "," _ = _
    rw [h]
    rfl
theorem txtF_stab (t : Tr ps) : ∀ (n : Nat) (o : Option Str), rk ps o ≤ n → txtF ps n o = txtF ps (n + 1) o
  | 0, o, h => by
    have : kidsOf ps o = [] := by
      rw [List.eq_nil_iff_forall_not_mem]
      intro c hc
      have := rk_kid t hc
      omega
    rw [txtF_none 0 this, txtF_none 1 this]
  | n + 1, o, h => by
    show Txt.join "," _ = Txt.join "," _
    congr 1
    refine List.map_congr_left fun c hc => ?_
    rw [txtF_stab t n (some c) (by have := rk_kid t hc; omega)]
theorem txtF_more (t : Tr ps) {n m : Nat} {o : Option Str} (h : rk ps o ≤ n) (hm : n ≤ m) : txtF ps m o = txtF ps n o := by
  induction m with
  | zero => rw [Nat.le_zero.mp hm]
  | succ m ih =>
    by_cases e : n = m + 1
    · rw [e]
    · rw [← txtF_stab t m o (by omega)]
      exact ih (by omega)
theorem txt_eq (t : Tr ps) (o : Option Str) : txt ps o = Txt.join "," ((kidsOf ps o).map fun c => word c (txt ps (some c))) := by
  unfold txt
  rw [txtF_stab t ps.length o (rk_le _)]
  rfl
theorem word_len (c inner : Str) : (word c inner).length ≤ c.length + 2 + inner.length := by
  unfold word
  rw [len_app]
  split
  · show c.length + 0 ≤ _
    omega
  · rw [len_app, len_app]
    show c.length + (1 + inner.length + 1) ≤ _
    omega
theorem txtF_len (t : Tr ps) : ∀ (n : Nat) (o : Option Str), (txtF ps n o).length ≤ 12 * (ordF ps n o).length
  | 0, _ => Nat.zero_le _
  | n + 1, o => by
    show (Txt.join "," _).length ≤ 12 * ((kidsOf ps o).flatMap _).length
    refine Nat.le_trans (join_len _ _) ?_
    have key : ∀ l : List Str, (∀ c ∈ l, c ∈ kidsOf ps o) → (((l.map fun c => word c (txtF ps n (some c))).map (·.length)).sum + (l.map fun c => word c (txtF ps n (some c))).length * (Str.ofString ",").length) ≤ 12 * (l.flatMap fun c => c :: ordF ps n (some c)).length := by
      intro l hl
      induction l with
      | nil => exact Nat.zero_le _
      | cons c l ih =>
        have h1 := ih fun d hd => hl d (List.mem_cons_of_mem _ hd)
        have h2 := word_len c (txtF ps n (some c))
        have h3 := txtF_len t n (some c)
        have h4 := name_len (t.name (kids_names (hl c List.mem_cons_self)))
        have h5 : (Str.ofString ",").length = 1 := rfl
        rw [h5] at h1 ⊢
        simp only [List.map_cons, List.sum_cons, List.length_cons, List.flatMap_cons, List.length_append] at h1 ⊢
        omega
    exact key _ fun c h => h
theorem txt_len (t : Tr ps) (o : Option Str) : (txt ps o).length ≤ 96 := by
  have h1 := txtF_len t ps.length o
  have h2 := ord_len t o
  have h3 := t.len
  unfold ord at h2
  unfold txt
  omega
end
end DL
set_option Elab.async false
set_option linter.all false
set_option maxRecDepth 100000
set_option maxHeartbeats 2000000
/-! DL57: sorted(xs), xs a list of tuples of ints. -/
namespace DL
open PySem PySem.Spec PyProof.Rows L2
def rSortT (K : PySem.W.Frag) : List V → Hp → VK → Prop := fun vs H Q => ∃ (a : Addr) (L : List (Addr × List Int)), vs = [V.ref a] ∧ SqL K H a (L.map fun p => V.ref p.1) ∧ (∀ p ∈ L, SqT K H p.1 (p.2.map V.int) ∧ p.2 ≠ []) ∧
  ∀ (L' : List (Addr × List Int)) (p : Addr), L'.Perm L → L'.Pairwise (fun q r => HT.lexLt r.2 q.2 = false) → H p = none → Q (.ref p) (upd H p (.lst (L'.map fun q => V.ref q.1)))
theorem k_sortT {X : Cx} {K : PySem.W.Frag} (eK : X.K = K) : CallR X (.builtin "sorted") (rSortT K) := by
  subst eK
  intro pins s σ H vs us Q I r h
  obtain ⟨a, L, rfl, hs, hk, q⟩ := h
  obtain ⟨its, rv, hl, hz⟩ := I.list hs
  rw [Vals.ref1 r]
  have eits : its = L.map fun p => Value.ref p.1 := by
    clear hs hk q hl hz r
    induction L generalizing its with
    | nil => cases rv; rfl
    | cons p L ih =>
      cases rv with
      | cons r1 r2 =>
        cases (show _ = Value.ref p.1 from r1)
        rw [List.map_cons, ih _ r2]
  have tk : ∀ p ∈ L, TS.TupInts s.heap (.ref p.1) p.2 := fun p hp => by
    obtain ⟨us', r', ht, _⟩ := I.tuple (hk p hp).1
    exact ⟨p.1, us'.toArray, rfl, ht, intsAre_of r'⟩
  have hmem : ∀ v ∈ its, ∃ p ∈ L, v = Value.ref p.1 := fun v hv => by
    rw [eits] at hv
    obtain ⟨p, hp, e⟩ := List.mem_map.mp hv
    exact ⟨p, hp, e.symm⟩
  refine SrtO.sorted_ord (ltv := ltT s.heap) (swo_ltT s.heap) hl.isList (by rw [← rv.length]; exact hz) (fun h2 h₁ a' ha' keep => ?_) fun out hsr hb => ?_
  · have tk1 : ∀ p ∈ L, TS.TupInts h₁ (.ref p.1) p.2 := fun p hp => (tk p hp).keeps fun b o e _ => (keep b o e).2
    refine tups_sortable (s := { s with heap := h₁ }) (by omega) (fun v hv => ?_) (fun o e => ?_) s.heap fun v hv ns x => ?_
    · obtain ⟨p, hp, rfl⟩ := hmem v hv
      have x := tk1 p hp
      cases e : p.2 with
      | cons n ns => rw [e] at x; exact ⟨n, ns, x⟩
      | nil => exact absurd e (hk p hp).2
    · have e' : some o = some (seqObj "list" its.toArray 0) := e.symm.trans ha'
      cases e'
      intro c
      exact absurd (Value.type.inj c) (by decide)
    · obtain ⟨p, hp, rfl⟩ := hmem v hv
      have h1 := (tk p hp).ints
      have h2' := (tk1 p hp).ints
      have h3 := x.ints
      rw [h1, ← h2']
      exact h3
  · obtain ⟨L', pL, eL⟩ := perm_map_inv (f := fun p : Addr × List Int => Value.ref p.1) (hb.perm.trans (by rw [eits])) rfl
    obtain ⟨ep, he'⟩ := PyProof.Rows.sortedAll_at s.heap its out.toArray
    have hlen : (L'.map fun q => V.ref q.1).length ≤ sizeLine := by
      rw [List.length_map, pL.length_eq]
      rw [List.length_map] at hz
      exact hz
    have pw : L'.Pairwise (fun q r => HT.lexLt r.2 q.2 = false) := by
      have h1' : (L'.map fun q => Value.ref q.1).Pairwise (fun x y => ltT s.heap y x = false) := by rw [eL]; exact hsr
      refine (List.pairwise_map.mp h1').imp_of_mem fun {q r} hq hr z => ?_
      have f1 : TS.intsOf s.heap (.ref q.1) = q.2 := (tk q (pL.mem_iff.mp hq)).ints
      have f2 : TS.intsOf s.heap (.ref r.1) = r.2 := (tk r (pL.mem_iff.mp hr)).ints
      have z1 : HT.lexLt (TS.intsOf s.heap (.ref r.1)) (TS.intsOf s.heap (.ref q.1)) = false := z
      rw [f1, f2] at z1
      exact z1
    refine ⟨.ref _, upd H (s.heap.objs.size + 1) (.lst (L'.map fun q => V.ref q.1)), I.laid (t' := s.toks) (fun _ _ => PyProof.Rows.sortedAll_old) (Nat.le_succ _) ⟨hlen, out, ep, ?_, he'⟩, rfl, q L' _ pL pw (I.hok.fresh (Nat.le_succ _))⟩
    rw [← eL]
    exact vals_of_refs L'
section
variable {Z : Zn} {M : Mu} {Q2 : DQ} {d : DV}
theorem wc_sortT {rows : List (List Int)} (l : LstOf M d (rows.map rowD)) (hne : ∀ r ∈ rows, r ≠ []) (h : ∀ rs : List (List Int), rs.Perm rows → rs.Pairwise (fun x y => HT.lexLt y x = false) → Q2 (.lst (rs.map rowD)) M) : WC Z (rSortT Z.W.K) [d] M Q2 := fun G H vs Q s R xd r => by
  obtain ⟨y, rfl, x⟩ := one_of xd
  obtain ⟨a, us, rfl, e2, e3⟩ := lst_at R x l
  obtain ⟨ks, rfl, e5, e6⟩ := rows_keys e3
  refine ⟨a, ks, rfl, SqL.of e2, fun p hp => ⟨sqt_mono R.ex (e6 p hp), hne p.2 (by rw [← e5]; exact List.mem_map.mpr ⟨p, hp, rfl⟩)⟩, fun L' p hL hpw hn => ?_⟩
  have hd : DatL Z.W G ((L'.map (·.2)).map rowD) (L'.map fun p => V.ref p.1) := keys_rows fun p hp => e6 p (hL.mem_iff.mp hp)
  refine r _ _ (upd G p (.lst (L'.map fun q => V.ref q.1))) M _ (same_new (R.gnone hn)) (R.new hn) (dat_lst.mpr ⟨p, _, rfl, by unfold upd; rw [if_pos rfl], hd.mono (same_new (R.gnone hn))⟩) (h (L'.map (·.2)) ?_ (List.pairwise_map.mpr hpw))
  rw [← e5]
  exact hL.map _
end
end DL
set_option Elab.async false
set_option linter.all false
set_option maxRecDepth 100000
set_option maxHeartbeats 2000000
/-! DL58: a tree's pairs floor by floor. -/
namespace DL
open PySem PySem.Spec PyProof.Rows L2
section
variable {ps qs : Prs}
def dep1 (ps : Prs) (p : Str × Option Str) : Nat := (abv ps p.1).length
def idx1 (ps : Prs) (p : Str × Option Str) : Nat := posS p.1 (namesOf ps)
def leP (ps : Prs) (p q : Str × Option Str) : Prop := idx1 ps p ≤ idx1 ps q ∧ p ∈ ps ∧ q ∈ ps
theorem pair_eq (t : Tr ps) {p q : Str × Option Str} (hp : p ∈ ps) (hq : q ∈ ps) (h : p.1 = q.1) : p = q := by
  have h1 := overOf_mem t.nodup (show (p.1, p.2) ∈ ps from hp)
  have h2 := overOf_mem t.nodup (show (q.1, q.2) ∈ ps from hq)
  rw [h, h2] at h1
  exact Prod.ext h h1.symm
theorem leP_anti (t : Tr ps) (x y : Str × Option Str) (h : leP ps x y) (k : leP ps y x) : x = y := by
  have e : idx1 ps x = idx1 ps y := Nat.le_antisymm h.1 k.1
  have mx : x.1 ∈ namesOf ps := List.mem_map.mpr ⟨x, h.2.1, rfl⟩
  have my : y.1 ∈ namesOf ps := List.mem_map.mpr ⟨y, h.2.2, rfl⟩
  have hx := posS_get mx
  have hy := posS_get my
  unfold idx1 at e
  rw [e, hy] at hx
  exact pair_eq t h.2.1 h.2.2 (by injection hx with hx; exact hx.symm)
theorem sorted_self (t : Tr ps) : ps.Pairwise (leP ps) := by
  rw [List.pairwise_iff_getElem]
  intro i j hi hj hij
  refine ⟨?_, List.getElem_mem hi, List.getElem_mem hj⟩
  have h1 : posS ps[i].1 (namesOf ps) = i := posS_eq t.nodup (names_get (List.getElem?_eq_getElem hi))
  have h2 : posS ps[j].1 (namesOf ps) = j := posS_eq t.nodup (names_get (List.getElem?_eq_getElem hj))
  unfold idx1
  omega
theorem dep_over (t : Tr ps) {p : Str × Option Str} (hp : p ∈ ps) : dep1 ps p = match p.2 with
    | none => 0
    | some o => (abv ps o).length + 1 := by
  have e := overOf_mem t.nodup (show (p.1, p.2) ∈ ps from hp)
  unfold dep1
  rw [abv_eq t, e]
  cases p.2 <;> simp
theorem floors_kids (t : Tr ps) (hp : qs.Perm ps) (hw : qs.Pairwise fun p q => dep1 ps p < dep1 ps q ∨ (dep1 ps p = dep1 ps q ∧ idx1 ps p ≤ idx1 ps q)) (o : Option Str) : kidsOf qs o = kidsOf ps o := by
  unfold kidsOf
  congr 1
  refine sort_uniq (leP_anti t) (hp.filter _) ?_ ((sorted_self t).filter _)
  have h1 := hw.filter fun p => decide (p.2 = o)
  refine h1.imp_of_mem fun {x y} hx hy h => ?_
  rw [List.mem_filter, decide_eq_true_eq] at hx hy
  have hx' := hp.mem_iff.mp hx.1
  have hy' := hp.mem_iff.mp hy.1
  have e : dep1 ps x = dep1 ps y := by rw [dep_over t hx', dep_over t hy', hx.2, hy.2]
  exact ⟨by omega, hx', hy'⟩
theorem floors_tr (t : Tr ps) (hp : qs.Perm ps) (hw : qs.Pairwise fun p q => dep1 ps p < dep1 ps q ∨ (dep1 ps p = dep1 ps q ∧ idx1 ps p ≤ idx1 ps q)) : Tr qs := by
  refine ⟨by rw [hp.length_eq]; exact t.len, TrF.of fun i p hi => ?_⟩
  rw [List.nil_append]
  have hpm : p ∈ ps := hp.mem_iff.mp (List.mem_of_getElem? hi)
  have hlt := (List.getElem?_eq_some_iff.mp hi).1
  have hnd : (namesOf qs).Nodup := (hp.map _).nodup_iff.mpr t.nodup
  refine ⟨t.name (List.mem_map.mpr ⟨p, hpm, rfl⟩), fun h => ?_, fun c e => ?_⟩
  · obtain ⟨q, hq, e⟩ := List.mem_map.mp h
    rw [List.mem_take_iff_getElem] at hq
    obtain ⟨j, hj, rfl⟩ := hq
    have h1 := names_get (ps := qs) hi
    have h2 := names_get (ps := qs) (i := j) (List.getElem?_eq_getElem (by omega))
    rw [e, ← h1] at h2
    have h3 : j < (namesOf qs).length := by rw [names_len]; omega
    have h4 : i < (namesOf qs).length := by rw [names_len]; exact hlt
    rw [List.getElem?_eq_getElem h3, List.getElem?_eq_getElem h4] at h2
    have := (List.getElem_inj hnd).mp (Option.some.inj h2)
    omega
  · have hov := overOf_mem t.nodup (show (p.1, p.2) ∈ ps from hpm)
    rw [e] at hov
    have hcn := inT_over t p.1 c hov
    obtain ⟨q, hq, rfl⟩ := List.mem_map.mp hcn
    obtain ⟨j, hj, ej⟩ := List.getElem_of_mem (hp.mem_iff.mpr hq)
    have hd1 : dep1 ps p = dep1 ps q + 1 := by rw [dep_over t hpm, e]; rfl
    have hji : j < i := by
      refine Nat.lt_of_not_le fun h => ?_
      rcases Nat.eq_or_lt_of_le h with h | h
      · subst h
        have : q = p := by rw [← ej]; exact (List.getElem?_eq_some_iff.mp hi).2
        rw [this] at hd1
        omega
      · have := (List.pairwise_iff_getElem.mp hw) i j hlt hj h
        rw [ej, (List.getElem?_eq_some_iff.mp hi).2] at this
        omega
    refine List.mem_map.mpr ⟨q, ?_, rfl⟩
    rw [List.mem_take_iff_getElem]
    exact ⟨j, by omega, ej⟩
theorem floors_ord (t : Tr ps) (hp : qs.Perm ps) (hw : qs.Pairwise fun p q => dep1 ps p < dep1 ps q ∨ (dep1 ps p = dep1 ps q ∧ idx1 ps p ≤ idx1 ps q)) (o : Option Str) : ord qs o = ord ps o := by
  unfold ord
  rw [hp.length_eq]
  exact ordF_congr (floors_kids t hp hw) _ _
theorem floors_over (t : Tr ps) (hp : qs.Perm ps) {c : Str} (hc : c ∈ namesOf ps) : overOf qs c = overOf ps c :=
  overOf_mem ((hp.map _).nodup_iff.mpr t.nodup) (hp.mem_iff.mpr (overOf_in hc))
end
end DL
set_option Elab.async false
set_option linter.all false
set_option maxRecDepth 100000
set_option maxHeartbeats 2000000
/-! DL59: lists of lists that may change, compared with kept ones. -/
namespace DL
open PySem PySem.Spec PyProof.Rows L2
section
variable {W : Wd} {Z : Zn} {G F H : Hp} {M : Mu} {Q2 : DQ}
theorem holdL_dp (R : Rep W G M F H) : ∀ {xs ds : List DV} {vs : List V} {ps : List PyData}, Paired (Hold M) xs ds → DatL W G xs vs → pyL ds = some ps → DpAll W.K H vs ps
  | [], [], vs, ps, _, h, e => by
    rw [datL_nil.mp h]
    simp [pyL] at e
    subst e
    exact .nil
  | x :: xs, d :: ds, vs, ps, .cons h1 h2, h, e => by
    obtain ⟨y, r, e1, k1, k2⟩ := datL_cons.mp h
    obtain ⟨p, qs, f1, f2, f3⟩ := pyL_cons e
    rw [e1, f3]
    exact .cons ((h1.py f1).dp R k1) (holdL_dp R h2 k2 f2)
theorem wr_neHL {xs ds : List DV} (hp : Paired (Hold M) xs ds) (hg : goodL ds = true) (hd : depL ds ≤ 63) (h : Q2 (.b false) M) : WR Z (rNeA Z.W.K) (.lst xs) (.lst ds) M Q2 := by
  obtain ⟨ps, h1, h2, h3⟩ := goodL_py ds hg
  refine wr_r fun G H vx vy Q s R dx dy r => ?_
  obtain ⟨a, vs, rfl, k1, k2⟩ := dat_lst.mp dx
  have hs : SeqAt.shaped (.list ps) = true := shaped_of (by simpa [PyData.canLay0] using h2) (by simp only [PyData.depth]; omega)
  have e1 : (DV.lst ds).py = some (.list ps) := by simp [DV.py, h1]
  refine ⟨.list ps, .list ps, .lst (SqL.of (R.ex _ _ k1)) (holdL_dp R hp k2 h1), dy.dp R.ex e1, hs, hs, ?_⟩
  have c : (PyData.list ps).canLay0 = true := by simpa [PyData.canLay0] using h2
  rw [SeqAt.eqv_refl _ c]
  exact r _ _ G M H (Same.refl G) R dat_v' h
/-- two trees that tell the same -/
structure Like (qs ps : Prs) : Prop where
  len : qs.length = ps.length
  kids : ∀ o, kidsOf qs o = kidsOf ps o
  over : ∀ c, overOf qs c = overOf ps c
  nam : ∀ c, c ∈ namesOf qs ↔ c ∈ namesOf ps
end
section
variable {ps qs : Prs}
theorem Like.rfl : Like ps ps := ⟨Eq.refl _, fun _ => Eq.refl _, fun _ => Eq.refl _, fun _ => Iff.rfl⟩
theorem Like.ord (l : Like qs ps) (o : Option Str) : DL.ord qs o = DL.ord ps o := by
  unfold DL.ord
  rw [l.len]
  exact ordF_congr l.kids _ _
theorem Like.ups (l : Like qs ps) : ∀ (n : Nat) (o : Option Str), DL.ups qs n o = DL.ups ps n o
  | 0, _ => Eq.refl _
  | n + 1, none => Eq.refl _
  | n + 1, some c => by
    show c :: DL.ups qs n (overOf qs c) = c :: DL.ups ps n (overOf ps c)
    rw [l.over, Like.ups l n]
theorem Like.abv (l : Like qs ps) (c : Str) : DL.abv qs c = DL.abv ps c := by
  unfold DL.abv
  rw [l.len, l.over, l.ups]
theorem Like.txtF (l : Like qs ps) : ∀ (n : Nat) (o : Option Str), DL.txtF qs n o = DL.txtF ps n o
  | 0, _ => Eq.refl _
  | n + 1, o => by
    show Txt.join "," _ = Txt.join "," _
    rw [l.kids o]
    congr 1
    exact List.map_congr_left fun c _ => by rw [Like.txtF l n]
theorem Like.txt (l : Like qs ps) (o : Option Str) : DL.txt qs o = DL.txt ps o := by
  unfold DL.txt
  rw [l.len, l.txtF]
theorem Like.opr (l : Like qs ps) : DL.opr qs = DL.opr ps := by
  unfold DL.opr oprs
  rw [l.ord]
  exact List.map_congr_left fun c _ => by rw [l.over]
theorem Like.teq (l : Like qs ps) : Teq qs ps := ⟨l.ord none, fun c _ => l.over c⟩
theorem like_opr (t : Tr ps) : Like (DL.opr ps) ps := ⟨by rw [DL.opr, oprs, List.length_map, len_ord t], kids_opr t, fun c => by
  by_cases h : c ∈ namesOf ps
  · exact over_opr t h
  · rw [overOf_no h, overOf_no]
    rw [names_opr]
    exact fun k => h ((ord_mem t).mp k), fun c => by rw [names_opr]; exact ord_mem t⟩
theorem like_floors (t : Tr ps) (hp : qs.Perm ps) (hw : qs.Pairwise fun p q => dep1 ps p < dep1 ps q ∨ (dep1 ps p = dep1 ps q ∧ idx1 ps p ≤ idx1 ps q)) : Like qs ps := by
  have hm : ∀ c, c ∈ namesOf qs ↔ c ∈ namesOf ps := fun c => (hp.map _).mem_iff
  refine ⟨hp.length_eq, floors_kids t hp hw, fun c => ?_, hm⟩
  by_cases h : c ∈ namesOf ps
  · exact floors_over t hp h
  · rw [overOf_no h, overOf_no (fun k => h ((hm c).mp k))]
end
theorem good_pairs : ∀ {xs : Prs}, (∀ p ∈ xs, PyData.strOk p.1 = true ∧ ∀ d, p.2 = some d → PyData.strOk d = true) → goodL (pairsD xs) = true ∧ depL (pairsD xs) ≤ 1
  | [], _ => ⟨rfl, Nat.zero_le _⟩
  | p :: xs, h => by
    obtain ⟨h1, h2⟩ := h p List.mem_cons_self
    obtain ⟨h3, h4⟩ := good_pairs fun q hq => h q (List.mem_cons_of_mem _ hq)
    have e1 : (DV.tup [.s p.1, optD p.2]).good = true ∧ (DV.tup [.s p.1, optD p.2]).dep ≤ 1 := by
      cases e : p.2 with
      | none => exact ⟨by simp [DV.good, goodL, h1, optD], Nat.le_of_ble_eq_true rfl⟩
      | some d => exact ⟨by simp [DV.good, goodL, h1, h2 d e, optD], Nat.le_of_ble_eq_true rfl⟩
    constructor
    · show ((DV.tup [.s p.1, optD p.2]).good && goodL (pairsD xs)) = true
      rw [e1.1, h3]
      rfl
    · show max (DV.tup [.s p.1, optD p.2]).dep (depL (pairsD xs)) ≤ 1
      have := e1.2
      omega
theorem good_opr {xs : Prs} (hk : ∀ c ∈ namesOf xs, PyData.strOk c = true) (tx : Tr xs) : goodL (pairsD (DL.opr xs)) = true ∧ depL (pairsD (DL.opr xs)) ≤ 1 := good_pairs fun p hp => by
  obtain ⟨c, hc, rfl⟩ := List.mem_map.mp hp
  exact ⟨hk c (ord_names hc), fun d e => hk d (inT_over tx c d e)⟩
end DL
set_option Elab.async false
set_option linter.all false
/-! DL60: a loop that puts a thing at the end of many cells. -/
namespace DL
open PySem PySem.Spec PyProof.Rows L2
section
variable {Z : Zn} {D2 : Ends2}
theorem wipe1_set {ρ : Ro} {i : Nat} {x : Option DV} : wipe2 (ρ.set i x) [i] = wipe2 ρ [i] := by
  show (ρ.set i x).set i none = ρ.set i none
  rw [List.set_set]
theorem wipe2_out {ρ : Ro} {i : Nat} {x : Option DV} : ∀ {is : List Nat}, i ∉ is → wipe2 (ρ.set i x) is = (wipe2 ρ is).set i x
  | [], _ => rfl
  | j :: is, h => by
    show (wipe2 (ρ.set i x) is).set j none = ((wipe2 ρ is).set j none).set i x
    rw [wipe2_out fun k => h (List.mem_cons_of_mem _ k), List.set_comm _ _ (fun (e : i = j) => h (by rw [e]; exact List.mem_cons_self))]
theorem wipe2_in {ρ : Ro} {i : Nat} {x : Option DV} : ∀ {is : List Nat}, i ∈ is → wipe2 (ρ.set i x) is = wipe2 ρ is
  | j :: is, h => by
    show (wipe2 (ρ.set i x) is).set j none = (wipe2 ρ is).set j none
    by_cases k : i ∈ is
    · rw [wipe2_in k]
    · have e : i = j := (List.mem_cons.mp h).resolve_right k
      subst e
      rw [wipe2_out k, List.set_set]
theorem wipe2_of1 {ρ ρ' : Ro} {i : Nat} {is : List Nat} (hi : i ∈ is) (h : wipe2 ρ' [i] = wipe2 ρ [i]) : wipe2 ρ' is = wipe2 ρ is := by
  have := congrArg (fun r => wipe2 r is) h
  have e : ∀ r : Ro, wipe2 (wipe2 r [i]) is = wipe2 r is := fun r => wipe2_in (ρ := r) (x := none) hi
  simp only [e] at this
  exact this
theorem loop_app {i : Nat} {e : V} : ∀ (qs : List Addr) {ρ : Ro} {M : Mu}, Nat.blt i ρ.length = true → (∀ q ∈ qs, ∃ ds, M q = some (.lst ds) ∧ ds.length + qs.length < 1000000) →
    (∀ ρ' M', wipe2 ρ' [i] = wipe2 ρ [i] → (∀ a, a ∉ qs → M' a = M a) → D2.nx ρ' M') → Loop Z (gName i) (tDrop (tBM Z.W.K "list" rAppend (tVar i) (tCons (tC e) tNil))) D2 (qs.map DV.r) ρ M
  | [], ρ, M, hi, hq, h => h ρ M rfl fun _ _ => rfl
  | q :: qs, ρ, M, hi, hq, h => by
    obtain ⟨ds, hm, hl⟩ := hq q List.mem_cons_self
    rw [List.length_cons] at hl
    refine wg_name (ws_drop (we_bm (we_var (d := .r q) ?_ ⟨tyOk_lst (.inr ⟨q, rfl, hm⟩), wa_cons (we_c (wa_nil (wm_append hm (Nat.lt_of_lt_of_le (by omega) (le_size (Nat.le_refl 1000000))) ?_)))⟩)))
    · rw [List.getElem?_set_self (Nat.blt_eq.mp hi |> fun h => h)]
    · refine loop_app qs (by rw [List.length_set]; exact hi) (fun q' hq' => ?_) fun ρ' M' hw hM => h ρ' M' (hw.trans wipe1_set) fun a ha => ?_
      · obtain ⟨ds', hm', hl'⟩ := hq q' (List.mem_cons_of_mem _ hq')
        rw [List.length_cons] at hl'
        by_cases e' : q' = q
        · subst e'
          rw [hm] at hm'
          cases hm'
          exact ⟨_, updM_same, by simp; omega⟩
        · exact ⟨ds', by rw [updM_ne e']; exact hm', by omega⟩
      · rw [hM a (fun k => ha (List.mem_cons_of_mem _ k)), updM_ne (fun (k : a = q) => ha (by rw [k]; exact List.mem_cons_self))]
end
end DL
set_option Elab.async false
set_option linter.all false
set_option maxRecDepth 100000
/-! DL61: zip of two or of three, each a list or a tuple. -/
namespace DL
open PySem PySem.Spec PyProof.Rows L2
/-- a tuple (true) or a list (false) -/
def SqK (t : Bool) (K : PySem.W.Frag) (H : Hp) (a : Addr) (xs : List V) : Prop := match t with
  | true => SqT K H a xs
  | false => SqL K H a xs
def AtK (t : Bool) (h : Heap) (a : Addr) (its : Array Value) : Prop := match t with
  | true => h.IsTuple a its
  | false => h.IsList a its
def GoK (t : Bool) (h : Heap) (it a : Addr) (i : Nat) : Prop := match t with
  | true => h.IsTupleIter it a i
  | false => h.IsListIter it a i
def begK (t : Bool) (a : Addr) : PySem.Obj := match t with
  | true => { cls := .type "tuple_iterator", data := .fields #[.ref a, .int 0 0] }
  | false => { cls := .type "list_iterator", data := .fields #[.ref a, .int 0 0] }
section
variable {X : Cx} {pins : List (Addr × PySem.Obj)} {σ : L2.St} {H : Hp} {s : Shared} {a it : Addr} {xs : List V} {t : Bool} {h h' : Heap} {i : Nat}
theorem inv_K (I : Inv X pins σ H s) (q : SqK t X.K H a xs) : ∃ its : List Value, Vals xs its ∧ AtK t s.heap a its.toArray ∧ a < s.heap.objs.size := by
  cases t with
  | true =>
    obtain ⟨its, r, p, _⟩ := I.tuple q
    obtain ⟨o, e, _⟩ := id p
    exact ⟨its, r, p, Heap.lt_size e⟩
  | false =>
    obtain ⟨its, r, p, _⟩ := I.list q
    exact ⟨its, r, p.isList, p.lt⟩
theorem GoK.obj (q : GoK t h it a i) : ∃ o, h.get? it = some o ∧ ∀ v, o.data ≠ .cell v := by
  cases t with
  | true => obtain ⟨o, e, _, d⟩ := q; exact ⟨o, e, fun v k => by rw [d] at k; cases k⟩
  | false => obtain ⟨o, e, _, d⟩ := q; exact ⟨o, e, fun v k => by rw [d] at k; cases k⟩
theorem GoK.keep (q : GoK t h it a i) (k : ∀ o, h.get? it = some o → h'.get? it = some o) : GoK t h' it a i := by
  cases t with
  | true => exact Heap.IsTupleIter.at q k
  | false => exact Heap.IsListIter.at q k
theorem GoK.beg (e : h.get? it = some (begK t a)) : GoK t h it a 0 := by
  cases t with
  | true => exact ⟨_, e, rfl, rfl⟩
  | false => exact ⟨_, e, rfl, rfl⟩
theorem drawsK {prog : Program} {w : World} {A : Around} (hh : A.handled = none) (ne : a ≠ it) (items : Array Value) : Draws prog w A it [it, a] items.size (fun i v => items[i]? = some v) (fun i h => GoK t h it a i ∧ AtK t h a items) := by
  cases t with
  | true => exact Draws.tuple hh it a ne items
  | false => exact Draws.list hh it a ne items
theorem beginsK (items : Array Value) : Begins (.ref a) (begK t a) fun h => AtK t h a items := by
  cases t with
  | true => exact begins_tuple a items
  | false => exact begins_list a items
end
/-- the cells of a zip of two, and of what it walks -/
structure Sep2 (z ti to i1 i2 a b : Addr) : Prop where
  nd : [z, ti, to, i1, i2].Nodup
  ha : ∀ c ∈ [z, ti, to, i1, i2], c ≠ a ∧ c ≠ b
def Itz2 (K : PySem.W.Frag) (t1 t2 : Bool) (a b : Addr) (xs ys : List V) : It :=
  ⟨fun i H => SqK t1 K H a xs ∧ SqK t2 K H b ys ∧ i < xs.length ∧ i < ys.length,
   fun i H v H' => ∃ p x y, v = .ref p ∧ H p = none ∧ H' = upd H p (.tup [x, y]) ∧ xs[i]? = some x ∧ ys[i]? = some y,
   fun i H => SqK t1 K H a xs ∧ SqK t2 K H b ys ∧ min xs.length ys.length ≤ i⟩
def Zs2 (t1 t2 : Bool) (z ti to i1 i2 a b : Addr) (n : Nat) (i : Nat) (h : Heap) : Prop := IsZip h z ti to .none ∧ IsTupOf2 h ti (.ref i1) (.ref i2) ∧ (∃ u v, IsTupOf2 h to u v) ∧ GoK t1 h i1 a i ∧ GoK t2 h i2 b i ∧ i ≤ n
theorem turn_z2 {P : Program} {w : World} {K : PySem.W.Frag} {elts : List Expr} {kk : Nat} {tpos : Pos} {t1 t2 : Bool} {z ti to i1 i2 a b : Addr} {xs ys : List V} (D : Sep2 z ti to i1 i2 a b) :
    Turn P w K (.Tuple elts kk tpos) (Itz2 K t1 t2 a b xs ys) [z, ti, to, i1, i2] z (Zs2 t1 t2 z ti to i1 i2 a b (min xs.length ys.length)) := by
  have nd := D.nd
  simp only [List.nodup_cons, List.mem_cons, List.not_mem_nil, or_false, not_or, not_false_eq_true, List.nodup_nil, and_true] at nd
  obtain ⟨⟨n1, n2, n3, n4⟩, ⟨n5, n6, n7⟩, ⟨n8, n9⟩, n10⟩ := nd
  have ha := D.ha
  simp only [List.mem_cons, List.not_mem_nil, or_false, forall_eq_or_imp, forall_eq] at ha
  obtain ⟨⟨a1, b1⟩, ⟨a2, b2⟩, ⟨a3, b3⟩, ⟨a4, b4⟩, ⟨a5, b5⟩⟩ := ha
  have S : ZipSep2 z ti to i1 i2 [i1, a] [i2, b] := ⟨Ne.symm n1, Ne.symm n2, n5, n6, by simp, by simp [n3, a1], by simp [n8, a3], n7, by simp, by simp [n4, b1], by simp [n9, b3], by simp [n10, b4], by simp [Ne.symm n10, a5]⟩
  refine ⟨by simp, fun i h st c hc => ?_, fun i h h' st k => ?_, ?_, ?_, fun A i s Q E st h => wpAny_pyIter_zip st.1 h⟩
  · obtain ⟨hz, hti, ⟨u, v, hto⟩, g1, g2, _⟩ := st
    simp only [List.mem_cons, List.not_mem_nil, or_false] at hc
    rcases hc with e | e | e | e | e
    · rw [e]; exact ⟨_, hz, fun v k => nomatch k⟩
    · rw [e]; exact ⟨_, hti, fun v k => nomatch k⟩
    · rw [e]; exact ⟨_, hto, fun v k => nomatch k⟩
    · rw [e]; exact g1.obj
    · rw [e]; exact g2.obj
  · obtain ⟨hz, hti, ⟨u, v, hto⟩, g1, g2, l⟩ := st
    exact ⟨k z (by simp) _ hz, k ti (by simp) _ hti, ⟨u, v, k to (by simp) _ hto⟩, g1.keep (k i1 (by simp)), g2.keep (k i2 (by simp)), l⟩
  · intro X hP hw hK hc i pins s σ H E I hf st hg
    subst hP hw hK
    obtain ⟨hz, hti, ⟨u0, v0, hto⟩, g1, g2, _⟩ := st
    obtain ⟨q1, q2, l1, l2⟩ := hg
    obtain ⟨its1, r1, p1, _⟩ := inv_K I q1
    obtain ⟨its2, r2, p2, _⟩ := inv_K I q2
    have hzl : z < s.heap.objs.size := Heap.lt_size hz
    have hA : X.A.in1.handled = none := I.ok.hd hc
    have D1 := drawsK (t := t1) (prog := X.prog) (w := X.w) hA (Ne.symm a4) its1.toArray
    have D2 := drawsK (t := t2) (prog := X.prog) (w := X.w) hA (Ne.symm b5) its2.toArray
    refine wpAny_pyNext_zipD2_item S D1 D2 hz hti hto ⟨g1, p1⟩ ⟨g2, p2⟩ (by have := r1.length; simp; omega) (by have := r2.length; simp; omega) fun u1 u2 h' tk hu1 hu2 z' to' ⟨g1', _⟩ ⟨g2', _⟩ hT hsz hk => ?_
    refine ⟨_, rfl, wpAny_letOwnedTupleGo_zip (s := { s with heap := h', toks := tk }) z' fun h'' z'' sb => ?_⟩
    have hu1' : its1[i]? = some u1 := by simpa using hu1
    have hu2' : its2[i]? = some u2 := by simpa using hu2
    obtain ⟨x1, hx1⟩ : ∃ x1, xs[i]? = some x1 := ⟨_, List.getElem?_eq_getElem l1⟩
    obtain ⟨x2, hx2⟩ : ∃ x2, ys[i]? = some x2 := ⟨_, List.getElem?_eq_getElem l2⟩
    have e1 : RelV x1 u1 := by obtain ⟨u, hu, ru⟩ := r1.get hx1; rw [hu] at hu1'; cases hu1'; exact ru
    have e2 : RelV x2 u2 := by obtain ⟨u, hu, ru⟩ := r2.get hx2; rw [hu] at hu2'; cases hu2'; exact ru
    have hT2 : h''.get? s.heap.objs.size = some { cls := .type "tuple", data := .seq #[u1, u2] } := (sb.2 _ (Nat.ne_of_gt hzl)).trans hT
    have new : ObjOk X.prog X.w (upd H s.heap.objs.size (.tup [x1, x2])) h'' s.heap.objs.size (.tup [x1, x2]) :=
      ⟨by show 2 ≤ sizeLine; decide, [u1, u2], .cons e1 (.cons e2 .nil), ⟨_, hT2, rfl, _, rfl⟩⟩
    have I1 : Inv X pins σ (upd H s.heap.objs.size (.tup [x1, x2])) { s with heap := h'', toks := tk } :=
      I.turnedNew (t' := tk) (ch := [z, ti, to, i1, i2]) (fun c o hb k => by
        simp only [List.mem_cons, List.not_mem_nil, or_false, not_or] at hb
        exact (sb.2 c hb.1).trans (hk c o hb.1 hb.2.2.1 hb.2.2.2.1 hb.2.2.2.2 k)) hf (Nat.le_refl _) new
    refine ⟨.ref s.heap.objs.size, _, I1, rfl, ⟨_, x1, x2, rfl, I.hok.fresh (Nat.le_refl _), rfl, hx1, hx2⟩, ⟨z'', ?_, ⟨u1, u2, ?_⟩, ?_, ?_, by omega⟩, fun c hcm => ?_⟩
    · exact (sb.2 _ (Ne.symm n1)).trans (hk _ _ (Ne.symm n1) n5 n6 n7 hti)
    · exact (sb.2 _ (Ne.symm n2)).trans to'
    · exact g1'.keep fun o k => (sb.2 _ (Ne.symm n3)).trans k
    · exact g2'.keep fun o k => (sb.2 _ (Ne.symm n4)).trans k
    · have hlt : c < s.heap.objs.size := by
        simp only [List.mem_cons, List.not_mem_nil, or_false] at hcm
        rcases hcm with e | e | e | e | e
        · rw [e]; exact hzl
        · rw [e]; exact Heap.lt_size hti
        · rw [e]; exact Heap.lt_size hto
        · rw [e]; obtain ⟨_, k, _⟩ := g1.obj; exact Heap.lt_size k
        · rw [e]; obtain ⟨_, k, _⟩ := g2.obj; exact Heap.lt_size k
      rw [upd_ne (Nat.ne_of_lt hlt)]
      exact (hf c hcm).1
  · intro X hP hw hK hc i pins s σ H E I hf st hg
    subst hP hw hK
    obtain ⟨hz, hti, ⟨u0, v0, hto⟩, g1, g2, l⟩ := st
    obtain ⟨q1, q2, l'⟩ := hg
    obtain ⟨its1, r1, p1, _⟩ := inv_K I q1
    obtain ⟨its2, r2, p2, _⟩ := inv_K I q2
    have k1 := r1.length
    have k2 := r2.length
    have hA : X.A.in1.handled = none := I.ok.hd hc
    have D1 := drawsK (t := t1) (prog := X.prog) (w := X.w) hA (Ne.symm a4) its1.toArray
    have D2 := drawsK (t := t2) (prog := X.prog) (w := X.w) hA (Ne.symm b5) its2.toArray
    refine wpAny_pyNext_zipD2_end S D1 D2 hz hti hto ⟨g1, p1⟩ ⟨g2, p2⟩ (by simp; omega) (by simp; omega) (by simp; omega) fun h' tk hk => ⟨rfl, I.turnedL (t' := tk) (ch := [z, ti, to, i1, i2]) (fun c o hb k => ?_) hf⟩
    simp only [List.mem_cons, List.not_mem_nil, or_false, not_or] at hb
    exact hk c o hb.1 hb.2.2.1 hb.2.2.2.1 hb.2.2.2.2 k
theorem five_nd (n : Nat) : [n + 4, n + 2, n + 3, n, n + 1].Nodup := by
  simp only [List.nodup_cons, List.mem_cons, List.not_mem_nil, or_false, not_or, not_false_eq_true, List.nodup_nil, and_true]
  omega
theorem five_ge (n c : Nat) (h : c ∈ [n + 4, n + 2, n + 3, n, n + 1]) : n ≤ c := by
  simp only [List.mem_cons, List.not_mem_nil, or_false] at h
  omega
/-- zip(x, y) -/
def iZip2 (K : PySem.W.Frag) (ta : TA) : TI := fun σ H R => ta σ H fun vs H1 => ∃ a b t1 t2 xs ys, vs = [.ref a, .ref b] ∧ SqK t1 K H1 a xs ∧ SqK t2 K H1 b ys ∧ R (Itz2 K t1 t2 a b xs ys) H1
theorem pi_zip2 {X : Cx} {K : PySem.W.Frag} {e e2 : Expr} {ta : TA} {p pos tpos : Pos} {elts : List Expr} {kk : Nat} (eK : X.K = K) (hg : Gl X "zip") (hm : X.mg "zip" = none) (ha : PA X [e, e2] ta)
    (hs : starEach [e, e2] X.env = (false, eval e X.env) :: starEach [e2] X.env := by rfl) (hpl : (backTo pos (starEach [e2] X.env)).any (·.1) = false := by rfl) :
    PI X (.Tuple elts kk tpos) (.Call (.Name "zip" p) [e, e2] [] pos) (iZip2 K ta) := by
  subst eK
  constructor
  intro pins s σ H R I h
  refine Call_ (ld_blt I hg hm PyProof.Rows.boot_zip (PyProof.Rows.callWith_type1 (thn (ha.run pos pins s σ H _ I h) fun us s1 hq => ?_) hs hpl))
  obtain ⟨vs, H1, I1, r1, a, b, t1, t2, xs, ys, rfl, s1', s2', q⟩ := hq
  cases r1 with | cons r rr => ?_
  cases rr with | cons r' rr => ?_
  cases rr
  cases r
  cases r'
  obtain ⟨its1, _, p1, la⟩ := inv_K I1 s1'
  obtain ⟨its2, _, p2, lb⟩ := inv_K I1 s2'
  refine zip_begins2 (beginsK (t := t1) its1.toArray) (beginsK (t := t2) its2.toArray) p1 p2 fun h' hz hti hto b1 b2 hsz hk => wpAny_pyIter_zip hz ?_
  refine ⟨s1.heap.objs.size + 4, [s1.heap.objs.size + 4, s1.heap.objs.size + 2, s1.heap.objs.size + 3, s1.heap.objs.size, s1.heap.objs.size + 1], _, _, H1, rfl, I1.kept (t' := s1.toks) hk, turn_z2 (a := a) (b := b) ⟨?_, fun c hc => ?_⟩, ⟨hz, hti, ⟨_, _, hto⟩, GoK.beg b1, GoK.beg b2, Nat.zero_le _⟩, fun c hc => ?_, q⟩
  · exact five_nd _
  · have hle := five_ge _ _ hc
    exact ⟨Ne.symm (Nat.ne_of_lt (Nat.lt_of_lt_of_le la hle)), Ne.symm (Nat.ne_of_lt (Nat.lt_of_lt_of_le lb hle))⟩
  · have hle := five_ge _ _ hc
    exact I1.fpOk hle (I1.hok.fresh hle)
end DL
set_option Elab.async false
set_option linter.all false
set_option maxRecDepth 100000
/-! DL62: zip of three; both over data. -/
namespace DL
open PySem PySem.Spec PyProof.Rows L2
/-- the cells of a zip of three, and of what it walks -/
structure Sep3 (z ti to i1 i2 i3 a b c : Addr) : Prop where
  nd : [z, ti, to, i1, i2, i3].Nodup
  ha : ∀ d ∈ [z, ti, to, i1, i2, i3], d ≠ a ∧ d ≠ b ∧ d ≠ c
def Itz3 (K : PySem.W.Frag) (t1 t2 t3 : Bool) (a b c : Addr) (xs ys zs : List V) : It :=
  ⟨fun i H => SqK t1 K H a xs ∧ SqK t2 K H b ys ∧ SqK t3 K H c zs ∧ i < xs.length ∧ i < ys.length ∧ i < zs.length,
   fun i H v H' => ∃ p x y z, v = .ref p ∧ H p = none ∧ H' = upd H p (.tup [x, y, z]) ∧ xs[i]? = some x ∧ ys[i]? = some y ∧ zs[i]? = some z,
   fun i H => SqK t1 K H a xs ∧ SqK t2 K H b ys ∧ SqK t3 K H c zs ∧ min (min xs.length ys.length) zs.length ≤ i⟩
def Zs3 (t1 t2 t3 : Bool) (z ti to i1 i2 i3 a b c : Addr) (n : Nat) (i : Nat) (h : Heap) : Prop := IsZip h z ti to .none ∧ IsTupOf3 h ti (.ref i1) (.ref i2) (.ref i3) ∧ (∃ u v w, IsTupOf3 h to u v w) ∧ GoK t1 h i1 a i ∧ GoK t2 h i2 b i ∧ GoK t3 h i3 c i ∧ i ≤ n
theorem turn_z3 {P : Program} {w : World} {K : PySem.W.Frag} {elts : List Expr} {kk : Nat} {tpos : Pos} {t1 t2 t3 : Bool} {z ti to i1 i2 i3 a b c : Addr} {xs ys zs : List V} (D : Sep3 z ti to i1 i2 i3 a b c) :
    Turn P w K (.Tuple elts kk tpos) (Itz3 K t1 t2 t3 a b c xs ys zs) [z, ti, to, i1, i2, i3] z (Zs3 t1 t2 t3 z ti to i1 i2 i3 a b c (min (min xs.length ys.length) zs.length)) := by
  have nd := D.nd
  simp only [List.nodup_cons, List.mem_cons, List.not_mem_nil, or_false, not_or, not_false_eq_true, List.nodup_nil, and_true] at nd
  obtain ⟨⟨n1, n2, n3, n4, m1⟩, ⟨n5, n6, n7, m2⟩, ⟨n8, n9, m3⟩, ⟨n10, m4⟩, m5⟩ := nd
  have ha := D.ha
  simp only [List.mem_cons, List.not_mem_nil, or_false, forall_eq_or_imp, forall_eq] at ha
  obtain ⟨⟨a1, b1, c1⟩, ⟨a2, b2, c2⟩, ⟨a3, b3, c3⟩, ⟨a4, b4, c4⟩, ⟨a5, b5, c5⟩, ⟨a6, b6, c6⟩⟩ := ha
  have S : ZipSep3 z ti to i1 i2 i3 [i1, a] [i2, b] [i3, c] := ⟨Ne.symm n1, Ne.symm n2, n5, n6, by simp, by simp [n3, a1], by simp [n8, a3], n7, by simp, by simp [n4, b1], by simp [n9, b3], m2, by simp, by simp [m1, c1], by simp [m3, c3],
    by simp [n10, b4], by simp [m4, c4], by simp [Ne.symm n10, a5], by simp [m5, c5], by simp [Ne.symm m4, a6], by simp [Ne.symm m5, b6]⟩
  refine ⟨by simp, fun i h st d hd => ?_, fun i h h' st k => ?_, ?_, ?_, fun A i s Q E st h => wpAny_pyIter_zip st.1 h⟩
  · obtain ⟨hz, hti, ⟨u, v, w, hto⟩, g1, g2, g3, _⟩ := st
    simp only [List.mem_cons, List.not_mem_nil, or_false] at hd
    rcases hd with e | e | e | e | e | e
    · rw [e]; exact ⟨_, hz, fun v k => nomatch k⟩
    · rw [e]; exact ⟨_, hti, fun v k => nomatch k⟩
    · rw [e]; exact ⟨_, hto, fun v k => nomatch k⟩
    · rw [e]; exact g1.obj
    · rw [e]; exact g2.obj
    · rw [e]; exact g3.obj
  · obtain ⟨hz, hti, ⟨u, v, w, hto⟩, g1, g2, g3, l⟩ := st
    exact ⟨k z (by simp) _ hz, k ti (by simp) _ hti, ⟨u, v, w, k to (by simp) _ hto⟩, g1.keep (k i1 (by simp)), g2.keep (k i2 (by simp)), g3.keep (k i3 (by simp)), l⟩
  · intro X hP hw hK hc i pins s σ H E I hf st hg
    subst hP hw hK
    obtain ⟨hz, hti, ⟨u0, v0, w0, hto⟩, g1, g2, g3, _⟩ := st
    obtain ⟨q1, q2, q3, l1, l2, l3⟩ := hg
    obtain ⟨its1, r1, p1, _⟩ := inv_K I q1
    obtain ⟨its2, r2, p2, _⟩ := inv_K I q2
    obtain ⟨its3, r3, p3, _⟩ := inv_K I q3
    have hzl : z < s.heap.objs.size := Heap.lt_size hz
    have hA : X.A.in1.handled = none := I.ok.hd hc
    have D1 := drawsK (t := t1) (prog := X.prog) (w := X.w) hA (Ne.symm a4) its1.toArray
    have D2 := drawsK (t := t2) (prog := X.prog) (w := X.w) hA (Ne.symm b5) its2.toArray
    have D3 := drawsK (t := t3) (prog := X.prog) (w := X.w) hA (Ne.symm c6) its3.toArray
    refine wpAny_pyNext_zipD3_item S D1 D2 D3 hz hti hto ⟨g1, p1⟩ ⟨g2, p2⟩ ⟨g3, p3⟩ (by have := r1.length; simp; omega) (by have := r2.length; simp; omega) (by have := r3.length; simp; omega) fun u1 u2 u3 h' tk hu1 hu2 hu3 z' to' ⟨g1', _⟩ ⟨g2', _⟩ ⟨g3', _⟩ hT hsz hk => ?_
    refine ⟨_, rfl, wpAny_letOwnedTupleGo_zip (s := { s with heap := h', toks := tk }) z' fun h'' z'' sb => ?_⟩
    have hu1' : its1[i]? = some u1 := by simpa using hu1
    have hu2' : its2[i]? = some u2 := by simpa using hu2
    have hu3' : its3[i]? = some u3 := by simpa using hu3
    obtain ⟨x1, hx1⟩ : ∃ x1, xs[i]? = some x1 := ⟨_, List.getElem?_eq_getElem l1⟩
    obtain ⟨x2, hx2⟩ : ∃ x2, ys[i]? = some x2 := ⟨_, List.getElem?_eq_getElem l2⟩
    obtain ⟨x3, hx3⟩ : ∃ x3, zs[i]? = some x3 := ⟨_, List.getElem?_eq_getElem l3⟩
    have e1 : RelV x1 u1 := by obtain ⟨u, hu, ru⟩ := r1.get hx1; rw [hu] at hu1'; cases hu1'; exact ru
    have e2 : RelV x2 u2 := by obtain ⟨u, hu, ru⟩ := r2.get hx2; rw [hu] at hu2'; cases hu2'; exact ru
    have e3 : RelV x3 u3 := by obtain ⟨u, hu, ru⟩ := r3.get hx3; rw [hu] at hu3'; cases hu3'; exact ru
    have hT2 : h''.get? s.heap.objs.size = some { cls := .type "tuple", data := .seq #[u1, u2, u3] } := (sb.2 _ (Nat.ne_of_gt hzl)).trans hT
    have new : ObjOk X.prog X.w (upd H s.heap.objs.size (.tup [x1, x2, x3])) h'' s.heap.objs.size (.tup [x1, x2, x3]) :=
      ⟨by show 3 ≤ sizeLine; decide, [u1, u2, u3], .cons e1 (.cons e2 (.cons e3 .nil)), ⟨_, hT2, rfl, _, rfl⟩⟩
    have I1 : Inv X pins σ (upd H s.heap.objs.size (.tup [x1, x2, x3])) { s with heap := h'', toks := tk } :=
      I.turnedNew (t' := tk) (ch := [z, ti, to, i1, i2, i3]) (fun c o hb k => by
        simp only [List.mem_cons, List.not_mem_nil, or_false, not_or] at hb
        exact (sb.2 c hb.1).trans (hk c o hb.1 hb.2.2.1 hb.2.2.2.1 hb.2.2.2.2.1 hb.2.2.2.2.2 k)) hf (Nat.le_refl _) new
    refine ⟨.ref s.heap.objs.size, _, I1, rfl, ⟨_, x1, x2, x3, rfl, I.hok.fresh (Nat.le_refl _), rfl, hx1, hx2, hx3⟩, ⟨z'', ?_, ⟨u1, u2, u3, ?_⟩, ?_, ?_, ?_, by omega⟩, fun d hcm => ?_⟩
    · exact (sb.2 _ (Ne.symm n1)).trans (hk _ _ (Ne.symm n1) n5 n6 n7 m2 hti)
    · exact (sb.2 _ (Ne.symm n2)).trans to'
    · exact g1'.keep fun o k => (sb.2 _ (Ne.symm n3)).trans k
    · exact g2'.keep fun o k => (sb.2 _ (Ne.symm n4)).trans k
    · exact g3'.keep fun o k => (sb.2 _ (Ne.symm m1)).trans k
    · have hlt : d < s.heap.objs.size := by
        simp only [List.mem_cons, List.not_mem_nil, or_false] at hcm
        rcases hcm with e | e | e | e | e | e
        · rw [e]; exact hzl
        · rw [e]; exact Heap.lt_size hti
        · rw [e]; exact Heap.lt_size hto
        · rw [e]; obtain ⟨_, k, _⟩ := g1.obj; exact Heap.lt_size k
        · rw [e]; obtain ⟨_, k, _⟩ := g2.obj; exact Heap.lt_size k
        · rw [e]; obtain ⟨_, k, _⟩ := g3.obj; exact Heap.lt_size k
      rw [upd_ne (Nat.ne_of_lt hlt)]
      exact (hf d hcm).1
  · intro X hP hw hK hc i pins s σ H E I hf st hg
    subst hP hw hK
    obtain ⟨hz, hti, ⟨u0, v0, w0, hto⟩, g1, g2, g3, l⟩ := st
    obtain ⟨q1, q2, q3, l'⟩ := hg
    obtain ⟨its1, r1, p1, _⟩ := inv_K I q1
    obtain ⟨its2, r2, p2, _⟩ := inv_K I q2
    obtain ⟨its3, r3, p3, _⟩ := inv_K I q3
    have k1 := r1.length
    have k2 := r2.length
    have k3 := r3.length
    have hA : X.A.in1.handled = none := I.ok.hd hc
    have D1 := drawsK (t := t1) (prog := X.prog) (w := X.w) hA (Ne.symm a4) its1.toArray
    have D2 := drawsK (t := t2) (prog := X.prog) (w := X.w) hA (Ne.symm b5) its2.toArray
    have D3 := drawsK (t := t3) (prog := X.prog) (w := X.w) hA (Ne.symm c6) its3.toArray
    refine wpAny_pyNext_zipD3_end S D1 D2 D3 hz hti hto ⟨g1, p1⟩ ⟨g2, p2⟩ ⟨g3, p3⟩ (by simp; omega) (by simp; omega) (by simp; omega) (by simp; omega) fun h' tk hk => ⟨rfl, I.turnedL (t' := tk) (ch := [z, ti, to, i1, i2, i3]) (fun c o hb k => ?_) hf⟩
    simp only [List.mem_cons, List.not_mem_nil, or_false, not_or] at hb
    exact hk c o hb.1 hb.2.2.1 hb.2.2.2.1 hb.2.2.2.2.1 hb.2.2.2.2.2 k
theorem six_nd (n : Nat) : [n + 5, n + 3, n + 4, n, n + 1, n + 2].Nodup := by
  simp only [List.nodup_cons, List.mem_cons, List.not_mem_nil, or_false, not_or, not_false_eq_true, List.nodup_nil, and_true]
  omega
theorem six_ge (n c : Nat) (h : c ∈ [n + 5, n + 3, n + 4, n, n + 1, n + 2]) : n ≤ c := by
  simp only [List.mem_cons, List.not_mem_nil, or_false] at h
  omega
/-- zip(x, y, z) -/
def iZip3 (K : PySem.W.Frag) (ta : TA) : TI := fun σ H R => ta σ H fun vs H1 => ∃ a b c t1 t2 t3 xs ys zs, vs = [.ref a, .ref b, .ref c] ∧ SqK t1 K H1 a xs ∧ SqK t2 K H1 b ys ∧ SqK t3 K H1 c zs ∧ R (Itz3 K t1 t2 t3 a b c xs ys zs) H1
theorem pi_zip3 {X : Cx} {K : PySem.W.Frag} {e e2 e3 : Expr} {ta : TA} {p pos tpos : Pos} {elts : List Expr} {kk : Nat} (eK : X.K = K) (hg : Gl X "zip") (hm : X.mg "zip" = none) (ha : PA X [e, e2, e3] ta)
    (hs : starEach [e, e2, e3] X.env = (false, eval e X.env) :: starEach [e2, e3] X.env := by rfl) (hpl : (backTo pos (starEach [e2, e3] X.env)).any (·.1) = false := by rfl) :
    PI X (.Tuple elts kk tpos) (.Call (.Name "zip" p) [e, e2, e3] [] pos) (iZip3 K ta) := by
  subst eK
  constructor
  intro pins s σ H R I h
  refine Call_ (ld_blt I hg hm PyProof.Rows.boot_zip (PyProof.Rows.callWith_type1 (thn (ha.run pos pins s σ H _ I h) fun us s1 hq => ?_) hs hpl))
  obtain ⟨vs, H1, I1, r1, a, b, c, t1, t2, t3, xs, ys, zs, rfl, s1', s2', s3', q⟩ := hq
  cases r1 with | cons r rr => ?_
  cases rr with | cons r' rr => ?_
  cases rr with | cons r'' rr => ?_
  cases rr
  cases r
  cases r'
  cases r''
  obtain ⟨its1, _, p1, la⟩ := inv_K I1 s1'
  obtain ⟨its2, _, p2, lb⟩ := inv_K I1 s2'
  obtain ⟨its3, _, p3, lc⟩ := inv_K I1 s3'
  refine zip_begins3 (beginsK (t := t1) its1.toArray) (beginsK (t := t2) its2.toArray) (beginsK (t := t3) its3.toArray) p1 p2 p3 fun h' hz hti hto b1 b2 b3 hsz hk => wpAny_pyIter_zip hz ?_
  refine ⟨s1.heap.objs.size + 5, [s1.heap.objs.size + 5, s1.heap.objs.size + 3, s1.heap.objs.size + 4, s1.heap.objs.size, s1.heap.objs.size + 1, s1.heap.objs.size + 2], _, _, H1, rfl, I1.kept (t' := s1.toks) hk, turn_z3 (a := a) (b := b) (c := c) ⟨six_nd _, fun d hd => ?_⟩, ⟨hz, hti, ⟨_, _, _, hto⟩, GoK.beg b1, GoK.beg b2, GoK.beg b3, Nat.zero_le _⟩, fun d hd => ?_, q⟩
  · have hle := six_ge _ _ hd
    exact ⟨Ne.symm (Nat.ne_of_lt (Nat.lt_of_lt_of_le la hle)), Ne.symm (Nat.ne_of_lt (Nat.lt_of_lt_of_le lb hle)), Ne.symm (Nat.ne_of_lt (Nat.lt_of_lt_of_le lc hle))⟩
  · have hle := six_ge _ _ hd
    exact I1.fpOk hle (I1.hok.fresh hle)
/-! ### over data -/
def zip2D (ds es : List DV) : List DV := List.zipWith (fun d e => .tup [d, e]) ds es
def zip3D (ds es fs : List DV) : List DV := List.zipWith (fun (d : DV × DV) f => .tup [d.1, d.2, f]) (ds.zip es) fs
section
variable {W : Wd} {Z : Zn} {G F H : Hp} {ρ : Ro} {M : Mu} {ds es fs : List DV} {tx : TA}
theorem sqK_of {d : DV} {v : V} (hd : d = .lst ds ∨ d = .tup ds) (h : Dat W G d v) : ∃ a t xs, v = .ref a ∧ (∀ H, Same G H → SqK t W.K H a xs) ∧ DatL W G ds xs := by
  rcases hd with rfl | rfl
  · obtain ⟨a, xs, rfl, e, l⟩ := dat_lst.mp h
    exact ⟨a, false, xs, rfl, fun H s => SqL.of (s a _ e), l⟩
  · obtain ⟨a, xs, rfl, e, l⟩ := dat_tup.mp h
    exact ⟨a, true, xs, rfl, fun H s => sqt_mono s e, l⟩
theorem itz2_ok {a b : Addr} {t1 t2 : Bool} {xs ys : List V} (h1 : ∀ H, Same G H → SqK t1 W.K H a xs) (h2 : ∀ H, Same G H → SqK t2 W.K H b ys) (d1 : DatL W G ds xs) (d2 : DatL W G es ys) : ItOk W G (Itz2 W.K t1 t2 a b xs ys) (zip2D ds es) where
  go := fun i G' F M H' s R hi => by
    have l1 := d1.length
    have l2 := d2.length
    unfold zip2D at hi
    rw [List.length_zipWith] at hi
    exact ⟨h1 H' (s.trans R.ex), h2 H' (s.trans R.ex), by omega, by omega⟩
  stop := fun i G' F M H' s R hi => by
    have l1 := d1.length
    have l2 := d2.length
    unfold zip2D at hi
    rw [List.length_zipWith] at hi
    exact ⟨h1 H' (s.trans R.ex), h2 H' (s.trans R.ex), by omega⟩
  yld := fun i d G' F M H' x H'' s R hi hy => by
    obtain ⟨p, x1, y1, rfl, hp, rfl, e1, e2⟩ := hy
    obtain ⟨c1, k1, dd1⟩ := (d1.mono s).getV e1
    obtain ⟨c2, k2, dd2⟩ := (d2.mono s).getV e2
    unfold zip2D at hi
    rw [List.getElem?_zipWith, k1, k2] at hi
    cases hi
    obtain ⟨s', R', D⟩ := R.newT hp (datL_cons' dd1 (datL_cons' dd2 datL_nil'))
    exact ⟨_, s', R', D⟩
theorem itz3_ok {a b c : Addr} {t1 t2 t3 : Bool} {xs ys zs : List V} (h1 : ∀ H, Same G H → SqK t1 W.K H a xs) (h2 : ∀ H, Same G H → SqK t2 W.K H b ys) (h3 : ∀ H, Same G H → SqK t3 W.K H c zs) (d1 : DatL W G ds xs) (d2 : DatL W G es ys) (d3 : DatL W G fs zs) : ItOk W G (Itz3 W.K t1 t2 t3 a b c xs ys zs) (zip3D ds es fs) where
  go := fun i G' F M H' s R hi => by
    have l1 := d1.length
    have l2 := d2.length
    have l3 := d3.length
    unfold zip3D at hi
    rw [List.length_zipWith, List.length_zip] at hi
    exact ⟨h1 H' (s.trans R.ex), h2 H' (s.trans R.ex), h3 H' (s.trans R.ex), by omega, by omega, by omega⟩
  stop := fun i G' F M H' s R hi => by
    have l1 := d1.length
    have l2 := d2.length
    have l3 := d3.length
    unfold zip3D at hi
    rw [List.length_zipWith, List.length_zip] at hi
    exact ⟨h1 H' (s.trans R.ex), h2 H' (s.trans R.ex), h3 H' (s.trans R.ex), by omega⟩
  yld := fun i d G' F M H' x H'' s R hi hy => by
    obtain ⟨p, x1, y1, z1, rfl, hp, rfl, e1, e2, e3⟩ := hy
    obtain ⟨c1, k1, dd1⟩ := (d1.mono s).getV e1
    obtain ⟨c2, k2, dd2⟩ := (d2.mono s).getV e2
    obtain ⟨c3, k3, dd3⟩ := (d3.mono s).getV e3
    unfold zip3D at hi
    rw [List.getElem?_zipWith, List.zip, List.getElem?_zipWith, k1, k2, k3] at hi
    cases hi
    obtain ⟨s', R', D⟩ := R.newT hp (datL_cons' dd1 (datL_cons' dd2 (datL_cons' dd3 datL_nil')))
    exact ⟨_, s', R', D⟩
theorem wi_zip2 {R2 : List DV → Mu → Prop} (h : WA Z tx ρ M fun as M1 => ∃ d e ds es, as = [d, e] ∧ (d = .lst ds ∨ d = .tup ds) ∧ (e = .lst es ∨ e = .tup es) ∧ R2 (zip2D ds es) M1) : WI Z (iZip2 Z.W.K tx) ρ M R2 := fun G σ H R s r E k =>
  h G σ H _ s r E fun as vs G' M' H' s' r' hd ⟨d, e, ds, es, ea, h1, h2, q⟩ => by
    subst ea
    obtain ⟨y1, y2, rfl, e1, e2⟩ := two_of hd
    obtain ⟨a, t1, xs, rfl, k1, d1⟩ := sqK_of h1 e1
    obtain ⟨b, t2, ys, rfl, k2, d2⟩ := sqK_of h2 e2
    exact ⟨a, b, t1, t2, xs, ys, rfl, k1 _ r'.ex, k2 _ r'.ex, k _ _ G' M' H' s' r' (itz2_ok k1 k2 d1 d2) q⟩
theorem wi_zip3 {R2 : List DV → Mu → Prop} (h : WA Z tx ρ M fun as M1 => ∃ d e f ds es fs, as = [d, e, f] ∧ (d = .lst ds ∨ d = .tup ds) ∧ (e = .lst es ∨ e = .tup es) ∧ (f = .lst fs ∨ f = .tup fs) ∧ R2 (zip3D ds es fs) M1) : WI Z (iZip3 Z.W.K tx) ρ M R2 := fun G σ H R s r E k =>
  h G σ H _ s r E fun as vs G' M' H' s' r' hd ⟨d, e, f, ds, es, fs, ea, h1, h2, h3, q⟩ => by
    subst ea
    obtain ⟨y1, r1, rfl, e1, hd⟩ := datL_cons.mp hd
    obtain ⟨y2, y3, rfl, e2, e3⟩ := two_of hd
    obtain ⟨a, t1, xs, rfl, k1, d1⟩ := sqK_of h1 e1
    obtain ⟨b, t2, ys, rfl, k2, d2⟩ := sqK_of h2 e2
    obtain ⟨c, t3, zs, rfl, k3, d3⟩ := sqK_of h3 e3
    exact ⟨a, b, c, t1, t2, t3, xs, ys, zs, rfl, k1 _ r'.ex, k2 _ r'.ex, k3 _ r'.ex, k _ _ G' M' H' s' r' (itz3_ok k1 k2 k3 d1 d2 d3) q⟩
end
end DL
set_option Elab.async false
set_option linter.all false
/-! DL63: rows mixed, plainly. -/
namespace DL
open PySem PySem.Spec PyProof.Rows L2
def mixR (zs ys : List Str) (r q : List Int) : List Int := (zs.zip (r.zip q)).map fun x => if x.1 ∈ ys then x.2.2 else x.2.1
section
variable {zs ys us : List Str} {r q : List Int}
theorem mixR_len (hr : r.length = zs.length) (hq : q.length = zs.length) : (mixR zs ys r q).length = zs.length := by
  unfold mixR
  rw [List.length_map, List.length_zip, List.length_zip]
  omega
theorem mixR_get (hr : r.length = zs.length) (hq : q.length = zs.length) {i : Nat} {z : Str} (h : zs[i]? = some z) : (mixR zs ys r q)[i]? = if z ∈ ys then q[i]? else r[i]? := by
  have hi : i < zs.length := (List.getElem?_eq_some_iff.mp h).1
  have h1 : r[i]? = some r[i] := List.getElem?_eq_getElem (by omega)
  have h2 : q[i]? = some q[i] := List.getElem?_eq_getElem (by omega)
  unfold mixR
  rw [List.getElem?_map, List.zip, List.getElem?_zipWith, h, List.zip, List.getElem?_zipWith, h1, h2]
  by_cases e : z ∈ ys <;> simp [e]
theorem mix_ext {l m : List Int} (h1 : l.length = zs.length) (h2 : m.length = zs.length) (h : ∀ (i : Nat) z, zs[i]? = some z → l[i]? = m[i]?) : l = m := by
  apply List.ext_getElem?
  intro i
  cases e : zs[i]? with
  | some z => exact h i z e
  | none =>
    have := List.getElem?_eq_none_iff.mp e
    rw [List.getElem?_eq_none (by omega), List.getElem?_eq_none (by omega)]
theorem mixR_self (hr : r.length = zs.length) : mixR zs ys r r = r := mix_ext (mixR_len hr hr) hr fun i z h => by
  rw [mixR_get hr hr h]
  split <;> rfl
theorem mixR_back (hr : r.length = zs.length) (hq : q.length = zs.length) : mixR zs ys (mixR zs ys r q) r = r := mix_ext (mixR_len (mixR_len hr hq) hr) hr fun i z h => by
  rw [mixR_get (mixR_len hr hq) hr h, mixR_get hr hq h]
  by_cases e : z ∈ ys <;> simp [e]
theorem mixR_more (hr : r.length = zs.length) (hq : q.length = zs.length) : mixR zs us (mixR zs ys r q) q = mixR zs (ys ++ us) r q := mix_ext (mixR_len (mixR_len hr hq) hq) (mixR_len hr hq) fun i z h => by
  rw [mixR_get (mixR_len hr hq) hq h, mixR_get hr hq h, mixR_get hr hq h]
  by_cases e1 : z ∈ ys <;> by_cases e2 : z ∈ us <;> simp [e1, e2]
theorem mixR_none (hr : r.length = zs.length) (hq : q.length = zs.length) : mixR zs [] r q = r := mix_ext (mixR_len hr hq) hr fun i z h => by
  rw [mixR_get hr hq h]
  simp
theorem mixR_all (hr : r.length = zs.length) (hq : q.length = zs.length) (ha : ∀ z ∈ zs, z ∈ ys) : mixR zs ys r q = q := mix_ext (mixR_len hr hq) hq fun i z h => by
  rw [mixR_get hr hq h, if_pos (ha z (List.mem_of_getElem? h))]
theorem zip3_row (zs : List Str) (r q : List Int) : zip3D (zs.map DV.s) (r.map DV.i) (q.map DV.i) = (zs.zip (r.zip q)).map fun x => DV.tup [.s x.1, .i x.2.1, .i x.2.2] := by
  unfold zip3D
  induction zs generalizing r q with
  | nil => rfl
  | cons z zs ih =>
    cases r with
    | nil => rfl
    | cons a r =>
      cases q with
      | nil => rfl
      | cons b q =>
        simp only [List.map_cons, List.zip_cons_cons, List.zipWith_cons_cons]
        rw [← ih]
theorem enum_strs (zs : List Str) : enumD (zs.map DV.s) = zs.zipIdx.map fun x => DV.tup [.i (x.2 : Nat), .s x.1] := by
  apply List.ext_getElem?
  intro i
  unfold enumD
  rw [List.getElem?_mapIdx, List.getElem?_map, List.getElem?_map, List.getElem?_zipIdx]
  cases zs[i]? <;> simp
end
theorem seqIx_n {n k : Nat} (h : k < n) : seqIndex? (k : Int) n = some k := by
  unfold seqIndex?
  simp
  omega
theorem erase_mp {α β : Type} (f : α → β) : ∀ (l : List α) (k : Nat), (l.map f).eraseIdx k = (l.eraseIdx k).map f
  | [], k => by simp
  | a :: l, 0 => rfl
  | a :: l, k + 1 => by simp [List.eraseIdx, erase_mp f l k]
/-- a name taken out of a list of names -/
theorem wm_popN {Z : Zn} {M : Mu} {Q2 : DQ} {q : Addr} {zs : List Str} {kk : Nat} (hz : Nms zs) (hk : kk < zs.length) (hl : zs.length ≤ 1000)
    (h : ∀ (fresh : Str) (ys : List Str), ys.length + 1 = zs.length → Nms ys → fresh ∉ ys → PyData.strOk fresh = true → nameB fresh = true → Q2 (.s fresh) (updM M q (.lst (ys.map DV.s)))) : WM Z rPopAt (.r q) [.i (kk : Nat)] (updM M q (.lst (zs.map DV.s))) Q2 := by
  refine wm_popAt (e := .s zs[kk]) (k := kk) updM_same (by omega) (by omega) (by rw [List.length_map]; exact seqIx_n hk) (by rw [List.getElem?_map, List.getElem?_eq_getElem hk]; rfl) ?_
  rw [updM_upd, erase_mp]
  refine h zs[kk] (zs.eraseIdx kk) ?_ (hz.sub (List.eraseIdx_sublist zs kk)) ?_ (hz.ok _ (List.getElem_mem hk)) (hz.nm _ (List.getElem_mem hk))
  · rw [List.length_eraseIdx, if_pos hk]
    omega
  · intro hmem
    rw [List.mem_eraseIdx_iff_getElem] at hmem
    obtain ⟨j, hj, hne, he⟩ := hmem
    exact hne ((List.getElem_inj hz.nd).mp he)
theorem zipIdx_row {zs : List Str} {l : List Int} (h : l.length = zs.length) : zs.zipIdx.map (fun x => DV.i (l.getD x.2 0)) = l.map DV.i := by
  apply List.ext_getElem?
  intro i
  rw [List.getElem?_map, List.getElem?_map, List.getElem?_zipIdx]
  by_cases hi : i < zs.length
  · rw [List.getElem?_eq_getElem hi, List.getElem?_eq_getElem (h ▸ hi)]
    simp [List.getElem?_eq_getElem (h ▸ hi)]
  · rw [List.getElem?_eq_none (by omega), List.getElem?_eq_none (by omega)]
    rfl
theorem zipIdx_get {zs : List Str} {x : Str × Nat} (h : x ∈ zs.zipIdx) : zs[x.2]? = some x.1 := by
  have := List.mem_zipIdx h
  rw [this.2.2]
  simp
end DL
set_option Elab.async false
set_option linter.all false
set_option maxRecDepth 100000
set_option maxHeartbeats 1000000
/-! DL64: dict(zip(x, y)), x and y lists or tuples. -/
namespace DL
open PySem PySem.Spec PyProof.Rows L2
theorem Sep2.zs {zz ti to i1 i2 a b : Addr} (D : Sep2 zz ti to i1 i2 a b) : ZipSep2 zz ti to i1 i2 [i1, a] [i2, b] := by
  have nd := D.nd
  simp only [List.nodup_cons, List.mem_cons, List.not_mem_nil, or_false, not_or, not_false_eq_true, List.nodup_nil, and_true] at nd
  obtain ⟨⟨n1, n2, n3, n4⟩, ⟨n5, n6, n7⟩, ⟨n8, n9⟩, n10⟩ := nd
  have ha := D.ha
  simp only [List.mem_cons, List.not_mem_nil, or_false, forall_eq_or_imp, forall_eq] at ha
  obtain ⟨⟨a1, b1⟩, ⟨a2, b2⟩, ⟨a3, b3⟩, ⟨a4, b4⟩, ⟨a5, b5⟩⟩ := ha
  exact ⟨Ne.symm n1, Ne.symm n2, n5, n6, by simp, by simp [n3, a1], by simp [n8, a3], n7, by simp, by simp [n4, b1], by simp [n9, b3], by simp [n10, b4], by simp [Ne.symm n10, a5]⟩
section
variable {h h' : Heap} {a : Addr} {t : Bool} {its : Array Value}
theorem AtK.keep (q : AtK t h a its) (k : ∀ o, h.get? a = some o → h'.get? a = some o) : AtK t h' a its := by
  cases t with
  | true => exact Heap.IsTuple.at q k
  | false => exact Heap.IsList.at q k
theorem AtK.obj (q : AtK t h a its) : ∃ o, h.get? a = some o := by
  cases t with
  | true => obtain ⟨o, e, _⟩ := q; exact ⟨o, e⟩
  | false => obtain ⟨o, e, _⟩ := q; exact ⟨o, e⟩
end
section
variable {prog : Program} {w : World} {A : Around} {E : Value → Shared → Prop} {s : Shared} {zz ti to i1 i2 tt : Addr} {fp1 fp2 : List Addr} {n1 n2 i : Nat} {P1 P2 : Nat → Value → Prop} {St1 St2 : Nat → Heap → Prop} {f : Bool} {oT : PySem.Obj}
/-- the next pair of a zip whose last pair is still out -/
theorem zipH_go {Q : Value → Shared → Prop} (S : ZipSep2 zz ti to i1 i2 fp1 fp2) (D1 : Draws prog w A i1 fp1 n1 P1 St1) (D2 : Draws prog w A i2 fp2 n2 P2 St2) (hz : IsZipHeld s.heap zz ti to tt f) (hT : s.heap.get? tt = some oT) (hti : IsTupOf2 s.heap ti (.ref i1) (.ref i2)) (q1 : St1 i s.heap) (q2 : St2 i s.heap) (l1 : i < n1) (l2 : i < n2)
    (hQ : ∀ x1 x2 g tk, P1 i x1 → P2 i x2 → IsZipHeld g zz ti to tt true → St1 (i + 1) g → St2 (i + 1) g → IsTupOf2 g s.heap.objs.size x1 x2 → (∀ c o, c ≠ zz → c ≠ i1 → c ≠ i2 → s.heap.get? c = some o → g.get? c = some o) → Q (.ref s.heap.objs.size) { s with heap := g, toks := tk }) :
    wpAny (model prog w) A (Builtin.«zip.__next__» ⟨[.ref zz], []⟩) (fun fin s' => ∃ v, fin = .done (.ret v) ∧ Q v s') E s := by
  obtain ⟨hp, gs, dr, tk0, os⟩ := s
  show wpAny _ _ (field (.ref zz) 2 >>= _) _ _ _; refine wpAny_bind (wpAny_field hz rfl (x := .bool false) rfl ?_)
  show wpAny _ _ (field (.ref zz) 3 >>= _) _ _ _; refine wpAny_bind (wpAny_field hz rfl (x := .ref ti) rfl (wpAny_bind (wpAny_seqItems hti rfl ?_)))
  show wpAny _ _ (Builtin.SmallTypes.ownedTupleIsFree (.ref zz) >>= _) _ _ _; refine wpAny_bind (wpAny_tupleHeld_zip hz hT fun g1 z1 s1 => ?_)
  replace s1 : Heap.SameBut zz hp g1 := s1
  simp only [Bool.false_eq_true, if_false]; refine wpAny_bind ?_; rw [← Array.forIn_toList]; simp only [List.forIn_cons, List.forIn_nil]
  refine wpAny_bind (wpAny_bind (wpAny_holding ?_)); show wpAny _ _ (Builtin.SmallTypes.nextOf (.ref i1) >>= _) _ _ ⟨g1, gs, dr, tk0, os⟩
  refine wpAny_bind (D1.item i _ _ _ l1 (D1.over q1 s1 S.zf1) fun x1 g2 tk2 y1 r1 s2 => wpAny_pure (wpAny_pure ?_))
  replace s2 : Heap.SameBut i1 g1 g2 := s2
  refine wpAny_bind (wpAny_bind (wpAny_holding ?_)); show wpAny _ _ (Builtin.SmallTypes.nextOf (.ref i2) >>= _) _ _ ⟨g2, gs, dr, tk2, os⟩
  refine wpAny_bind (D2.item i _ _ _ l2 (D2.over (D2.over q2 s1 S.zf2) s2 S.sep1_2) fun x2 g3 tk3 y2 r2 s3 => wpAny_pure (wpAny_pure (wpAny_pure ?_)))
  replace s3 : Heap.SameBut i2 g2 g3 := s3
  show wpAny _ _ (newTuple [x1, x2] >>= _) _ _ ⟨g3, gs, dr, tk3, os⟩; refine wpAny_bind (wpAny_newTuple (wpAny_pure ⟨_, rfl, ?_⟩))
  have hsz : g3.objs.size = hp.objs.size := by rw [s3.1, s2.1, s1.1]
  have z3 : IsZipHeld g3 zz ti to tt true := s3.extBut _ _ S.zi2 (s2.extBut _ _ S.zi1 z1)
  have nw : IsTupOf2 (g3.push { cls := .type "tuple", data := .seq #[x1, x2] }) g3.objs.size x1 x2 := Heap.get?_push_size _ rfl
  show Q (.ref g3.objs.size) ⟨g3.push { cls := .type "tuple", data := .seq #[x1, x2] }, gs, dr, tk3, os⟩
  rw [hsz] at nw ⊢
  refine hQ x1 x2 _ tk3 y1 y2 (Heap.get?_push_of_some _ z3) (D1.frame _ _ _ (D1.over r1 s3 S.sep2_1) fun b _ o e => Heap.get?_push_of_some _ e) (D2.frame _ _ _ r2 fun b _ o e => Heap.get?_push_of_some _ e) nw fun c o c1 c2 c3 e => Heap.get?_push_of_some _ (s3.extBut _ _ c3 (s2.extBut _ _ c2 (s1.extBut _ _ c1 e)))
theorem zipH_end {Q : Fin → Shared → Prop} (S : ZipSep2 zz ti to i1 i2 fp1 fp2) (D1 : Draws prog w A i1 fp1 n1 P1 St1) (D2 : Draws prog w A i2 fp2 n2 P2 St2) (hz : IsZipHeld s.heap zz ti to tt f) (hT : s.heap.get? tt = some oT) (hti : IsTupOf2 s.heap ti (.ref i1) (.ref i2)) (q1 : St1 i s.heap) (q2 : St2 i s.heap) (l1 : i ≤ n1) (l2 : i ≤ n2) (le : i = n1 ∨ i = n2)
    (hE : ∀ g tk e, (∀ c o, c ≠ zz → c ≠ i1 → c ≠ i2 → s.heap.get? c = some o → g.get? c = some o) → (∃ o, g.get? e = some o ∧ o.cls = .type "StopIteration") → E (.ref e) { s with heap := g, toks := tk }) :
    wpAny (model prog w) A (Builtin.«zip.__next__» ⟨[.ref zz], []⟩) Q E s := by
  obtain ⟨hp, gs, dr, tk0, os⟩ := s
  show wpAny _ _ (field (.ref zz) 2 >>= _) _ _ _; refine wpAny_bind (wpAny_field hz rfl (x := .bool false) rfl ?_)
  show wpAny _ _ (field (.ref zz) 3 >>= _) _ _ _; refine wpAny_bind (wpAny_field hz rfl (x := .ref ti) rfl (wpAny_bind (wpAny_seqItems hti rfl ?_)))
  show wpAny _ _ (Builtin.SmallTypes.ownedTupleIsFree (.ref zz) >>= _) _ _ _; refine wpAny_bind (wpAny_tupleHeld_zip hz hT fun g1 z1 s1 => ?_)
  replace s1 : Heap.SameBut zz hp g1 := s1
  simp only [Bool.false_eq_true, if_false]; refine wpAny_bind ?_; rw [← Array.forIn_toList]; simp only [List.forIn_cons, List.forIn_nil]
  refine wpAny_bind (wpAny_bind (wpAny_holding ?_)); show wpAny _ _ (Builtin.SmallTypes.nextOf (.ref i1) >>= _) _ _ ⟨g1, gs, dr, tk0, os⟩
  by_cases lt : i < n1
  · refine wpAny_bind (D1.item i _ _ _ lt (D1.over q1 s1 S.zf1) fun x1 g2 tk2 y1 r1 s2 => wpAny_pure (wpAny_pure ?_))
    replace s2 : Heap.SameBut i1 g1 g2 := s2
    have e2 : i = n2 := by omega
    refine wpAny_bind (wpAny_bind (wpAny_holding ?_)); show wpAny _ _ (Builtin.SmallTypes.nextOf (.ref i2) >>= _) _ _ ⟨g2, gs, dr, tk2, os⟩
    refine wpAny_bind (D2.done ⟨g2, gs, dr, tk2, os⟩ _ _ (by rw [← e2]; exact D2.over (D2.over q2 s1 S.zf2) s2 S.sep1_2) fun g3 e s3 he => ?_)
    exact hE g3 tk2 e (fun c o c1 c2 c3 x => s3 _ _ c3 (s2.extBut _ _ c2 (s1.extBut _ _ c1 x))) he
  · have e1 : i = n1 := by omega
    refine wpAny_bind (D1.done ⟨g1, gs, dr, tk0, os⟩ _ _ (by rw [← e1]; exact D1.over q1 s1 S.zf1) fun g2 e s2 he => ?_)
    exact hE g2 tk0 e (fun c o c1 c2 _ x => s2 _ _ c2 (s1.extBut _ _ c1 x)) he
theorem nextH_go {Q : Option Value → Shared → Prop} (S : ZipSep2 zz ti to i1 i2 fp1 fp2) (D1 : Draws prog w A.in1 i1 fp1 n1 P1 St1) (D2 : Draws prog w A.in1 i2 fp2 n2 P2 St2) (hz : IsZipHeld s.heap zz ti to tt f) (hT : s.heap.get? tt = some oT) (hti : IsTupOf2 s.heap ti (.ref i1) (.ref i2)) (q1 : St1 i s.heap) (q2 : St2 i s.heap) (l1 : i < n1) (l2 : i < n2)
    (hQ : ∀ x1 x2 g tk, P1 i x1 → P2 i x2 → IsZipHeld g zz ti to tt true → St1 (i + 1) g → St2 (i + 1) g → IsTupOf2 g s.heap.objs.size x1 x2 → (∀ c o, c ≠ zz → c ≠ i1 → c ≠ i2 → s.heap.get? c = some o → g.get? c = some o) → Q (some (.ref s.heap.objs.size)) { s with heap := g, toks := tk }) : wpAny (model prog w) A (pyNext (.ref zz)) Q E s := by
  have ty : s.TypeIs (.ref zz) "zip" := ⟨_, hz, rfl⟩
  unfold pyNext
  exact wpAny_bind (wpAny_attempt (wpAny_callSpecial?_slot (name := Str.ofString "__next__") ty F.slot_zip_next (wpAny_call_entry F.slot_zip_next ty F.entry_zip_next (zipH_go S D1 D2 hz hT hti q1 q2 l1 l2 fun x1 x2 g tk k1 k2 k3 k4 k5 k6 k7 => wpAny_pure (hQ x1 x2 g tk k1 k2 k3 k4 k5 k6 k7)) (F.args_zip_next_1 _))))
theorem nextH_end {Q : Option Value → Shared → Prop} (S : ZipSep2 zz ti to i1 i2 fp1 fp2) (D1 : Draws prog w A.in1 i1 fp1 n1 P1 St1) (D2 : Draws prog w A.in1 i2 fp2 n2 P2 St2) (hz : IsZipHeld s.heap zz ti to tt f) (hT : s.heap.get? tt = some oT) (hti : IsTupOf2 s.heap ti (.ref i1) (.ref i2)) (q1 : St1 i s.heap) (q2 : St2 i s.heap) (l1 : i ≤ n1) (l2 : i ≤ n2) (le : i = n1 ∨ i = n2)
    (hQ : ∀ g tk, (∀ c o, c ≠ zz → c ≠ i1 → c ≠ i2 → s.heap.get? c = some o → g.get? c = some o) → Q none { s with heap := g, toks := tk }) : wpAny (model prog w) A (pyNext (.ref zz)) Q E s := by
  have ty : s.TypeIs (.ref zz) "zip" := ⟨_, hz, rfl⟩
  unfold pyNext
  refine wpAny_bind (wpAny_attempt (wpAny_callSpecial?_slot (name := Str.ofString "__next__") ty F.slot_zip_next (wpAny_call_entry F.slot_zip_next ty F.entry_zip_next (zipH_end S D1 D2 hz hT hti q1 q2 l1 l2 le fun g tk e hk he => ?_) (F.args_zip_next_1 _))))
  obtain ⟨o, ho, hc⟩ := he
  exact wpAny_bind (wpAny_isInstance (T := "StopIteration") (b := true) ⟨o, ho, hc⟩ isSubtype_stop (wpAny_pure (hQ _ _ hk)))
end
def Zb2 (t1 t2 : Bool) (zz ti to i1 i2 a b : Addr) (xs ys : Array Value) (h : Heap) : Prop := IsZip h zz ti to .none ∧ IsTupOf2 h ti (.ref i1) (.ref i2) ∧ (∃ u v, IsTupOf2 h to u v) ∧ GoK t1 h i1 a 0 ∧ GoK t2 h i2 b 0 ∧ AtK t1 h a xs ∧ AtK t2 h b ys
theorem pairArg_zip {prog : Program} {w : World} (t1 t2 : Bool) {zz ti to i1 i2 a b : Addr} (D : Sep2 zz ti to i1 i2 a b) (xs ys : Array Value) :
    PairArg prog w "zip" zz [zz, ti, to, i1, i2, a, b] [zz, to, i1, i2] (min xs.size ys.size) (fun i k v => xs[i]? = some k ∧ ys[i]? = some v) (Zb2 t1 t2 zz ti to i1 i2 a b xs ys) := by
  have S := D.zs
  have ha := D.ha
  simp only [List.mem_cons, List.not_mem_nil, or_false, forall_eq_or_imp, forall_eq] at ha
  obtain ⟨⟨a1, b1⟩, ⟨a2, b2⟩, ⟨a3, b3⟩, ⟨a4, b4⟩, ⟨a5, b5⟩⟩ := ha
  refine ⟨fun s ok => ⟨_, ok.1, rfl⟩, by decide, fun h h' ok hk => ?_, fun h ok c hc => ?_, fun c hc => ?_, fun A s Q E hA ok h => getAttrOr_miss_zip ok.1 rfl rfl rfl zip_no_keys (by decide +kernel) hA h, fun A s d Q E hA ok hd hdf h => ?_⟩
  · obtain ⟨hz, hti, ⟨u, v, hto⟩, g1, g2, k1, k2⟩ := ok
    exact ⟨hk _ _ hz, hk _ _ hti, ⟨u, v, hk _ _ hto⟩, g1.keep (hk i1), g2.keep (hk i2), k1.keep (hk a), k2.keep (hk b)⟩
  · obtain ⟨hz, hti, ⟨u, v, hto⟩, g1, g2, k1, k2⟩ := ok
    simp only [List.mem_cons, List.not_mem_nil, or_false] at hc
    rcases hc with e | e | e | e | e | e | e
    · rw [e]; exact ⟨_, hz⟩
    · rw [e]; exact ⟨_, hti⟩
    · rw [e]; exact ⟨_, hto⟩
    · rw [e]; obtain ⟨o, q, _⟩ := g1.obj; exact ⟨o, q⟩
    · rw [e]; obtain ⟨o, q, _⟩ := g2.obj; exact ⟨o, q⟩
    · rw [e]; exact k1.obj
    · rw [e]; exact k2.obj
  · simp only [List.mem_cons, List.not_mem_nil, or_false] at hc ⊢
    rcases hc with e | e | e | e <;> simp [e]
  · obtain ⟨hz, hti, ⟨u, v, hto⟩, g1, g2, k1, k2⟩ := ok
    simp only [List.mem_cons, List.not_mem_nil, or_false, not_or] at hdf
    obtain ⟨dz, dti, dto, di1, di2, da, db⟩ := hdf
    have hA' : A.in1.handled = none := hA
    have D1 := drawsK (t := t1) (prog := prog) (w := w) hA' (Ne.symm a4) xs
    have D2 := drawsK (t := t2) (prog := prog) (w := w) hA' (Ne.symm b5) ys
    refine wpAny_pyIter_zip hz (h zz [zz, to, i1, i2] (fun i g => IsTupOf2 g ti (.ref i1) (.ref i2) ∧ (GoK t1 g i1 a i ∧ AtK t1 g a xs) ∧ (GoK t2 g i2 b i ∧ AtK t2 g b ys) ∧ ((IsZip g zz ti to .none ∧ ∃ u v, IsTupOf2 g to u v) ∨ ∃ T f oT, IsZipHeld g zz ti to T f ∧ g.get? T = some oT ∧ T ≠ zz ∧ T ≠ i1 ∧ T ≠ i2 ∧ T ≠ d)) s.heap s.toks ?_ ⟨hti, ⟨g1, k1⟩, ⟨g2, k2⟩, .inl ⟨hz, u, v, hto⟩⟩ (fun _ _ e => e) fun c hc => .inl hc)
    refine ⟨fun hm => ?_, fun i h1 h2 st hk => ?_, fun i s1 Q1 E1 hi st hds hQ => ?_, fun s1 Q1 E1 st hQ => ?_⟩
    · simp only [List.mem_cons, List.not_mem_nil, or_false] at hm
      rcases hm with e | e | e | e
      · exact dz e
      · exact dto e
      · exact di1 e
      · exact di2 e
    · obtain ⟨hti, ⟨g1, k1⟩, ⟨g2, k2⟩, hz⟩ := st
      refine ⟨hk _ _ (Ne.symm dti) hti, ⟨g1.keep fun o e => hk _ o (Ne.symm di1) e, k1.keep fun o e => hk _ o (Ne.symm da) e⟩, ⟨g2.keep fun o e => hk _ o (Ne.symm di2) e, k2.keep fun o e => hk _ o (Ne.symm db) e⟩, ?_⟩
      rcases hz with ⟨hz, u, v, hto⟩ | ⟨T, f, oT, hz, hT, r1, r2, r3, r4⟩
      · exact .inl ⟨hk _ _ (Ne.symm dz) hz, u, v, hk _ _ (Ne.symm dto) hto⟩
      · exact .inr ⟨T, f, oT, hk _ _ (Ne.symm dz) hz, hk _ _ r4 hT, r1, r2, r3, r4⟩
    · obtain ⟨hti, s1', s2', hz⟩ := st
      have lt : ∀ {c o}, s1.heap.get? c = some o → s1.heap.objs.size ≠ c := fun e => Nat.ne_of_gt (Heap.lt_size e)
      have n1 : s1.heap.objs.size ≠ i1 := let ⟨_, e, _⟩ := s1'.1.obj; lt e
      have n2 : s1.heap.objs.size ≠ i2 := let ⟨_, e, _⟩ := s2'.1.obj; lt e
      rcases hz with ⟨hz, u, v, hto⟩ | ⟨T, f, oT, hz, hT, r1, r2, r3, r4⟩
      · refine wpAny_pyNext_zipD2_item S D1 D2 hz hti hto s1' s2' (by omega) (by omega) fun x1 x2 g tk y1 y2 z' to' q1 q2 nw hsz hk => ?_
        refine hQ s1.heap.objs.size x1 x2 g tk ⟨y1, y2⟩ (.inl ⟨_, nw, rfl, _, rfl⟩) ⟨hk _ _ S.TIz S.TITO S.TIi1 S.TIi2 hti, q1, q2, .inr ⟨s1.heap.objs.size, false, _, z', nw, lt hz, n1, n2, Nat.ne_of_gt hds⟩⟩ fun c o hc e => ?_
        simp only [List.mem_cons, List.not_mem_nil, or_false, not_or] at hc
        exact hk c o hc.1 hc.2.1 hc.2.2.1 hc.2.2.2 e
      · refine nextH_go S D1 D2 hz hT hti s1' s2' (by omega) (by omega) fun x1 x2 g tk y1 y2 z' q1 q2 nw hk => ?_
        refine hQ s1.heap.objs.size x1 x2 g tk ⟨y1, y2⟩ (.inl ⟨_, nw, rfl, _, rfl⟩) ⟨hk _ _ S.TIz S.TIi1 S.TIi2 hti, q1, q2, .inr ⟨T, true, oT, z', hk _ _ r1 r2 r3 hT, r1, r2, r3, r4⟩⟩ fun c o hc e => ?_
        simp only [List.mem_cons, List.not_mem_nil, or_false, not_or] at hc
        exact hk c o hc.1 hc.2.2.1 hc.2.2.2 e
    · obtain ⟨hti, s1', s2', hz⟩ := st
      rcases hz with ⟨hz, u, v, hto⟩ | ⟨T, f, oT, hz, hT, r1, r2, r3, r4⟩
      · refine wpAny_pyNext_zipD2_end S D1 D2 hz hti hto s1' s2' (by omega) (by omega) (by omega) fun g tk hk => hQ g tk fun c o hc e => ?_
        simp only [List.mem_cons, List.not_mem_nil, or_false, not_or] at hc
        exact hk c o hc.1 hc.2.1 hc.2.2.1 hc.2.2.2 e
      · refine nextH_end S D1 D2 hz hT hti s1' s2' (by omega) (by omega) (by omega) fun g tk hk => hQ g tk fun c o hc e => ?_
        simp only [List.mem_cons, List.not_mem_nil, or_false, not_or] at hc
        exact hk c o hc.1 hc.2.2.1 hc.2.2.2 e
end DL
set_option Elab.async false
set_option linter.all false
set_option maxRecDepth 100000
set_option maxHeartbeats 1000000
/-! DL65: dict(zip(names, things)) over data; d.get(k, x). -/
namespace DL
open PySem PySem.Spec PyProof.Rows L2
def zipL (xs : List Str) (ys : List V) : List (Leaf × V) := (xs.zip ys).map fun kv => (.text kv.1, kv.2)
def tDictZ (W : Wd) (ta : TA) : TE := fun σ H Q => ta σ H fun vs H1 => ∃ a b t1 t2 xs ys, vs = [.ref a, .ref b] ∧ SqK t1 W.K H1 a (xs.map V.str) ∧ SqK t2 W.K H1 b ys ∧ xs.length ≤ 1000 ∧ xs.Nodup ∧ ∀ p, H1 p = none → Q (.ref p) (upd H1 p (leafO W p (zipL xs ys)))
theorem merged_nodup {K : Type} [DecidableEq K] : ∀ {more kvs : List (K × Value)}, ((kvs ++ more).map (·.1)).Nodup → merged kvs more = kvs ++ more
  | [], kvs, h => by simp [merged]
  | p :: ps, kvs, h => by
    have hn : (kvs.any fun kv => decide (kv.1 = p.1)) = false := by
      rw [List.any_eq_false]
      intro q hq hq2
      rw [List.map_append, List.nodup_append] at h
      exact absurd (of_decide_eq_true hq2) (h.2.2 _ (List.mem_map.mpr ⟨q, hq, rfl⟩) _ (by simp))
    have e : stored kvs p.1 p.2 = kvs ++ [(p.1, p.2)] := by
      unfold stored
      simp [hn]
    show merged (stored kvs p.1 p.2) ps = _
    rw [e, merged_nodup (by simpa using h)]
    simp
theorem zip_keys {xs : List Str} (ys : List Value) (h : xs.Nodup) : (((xs.zip ys).map fun kv => ((Leaf.text kv.1, kv.2) : Leaf × Value)).map (·.1)).Nodup := by
  have e : ((xs.zip ys).map fun kv => ((Leaf.text kv.1, kv.2) : Leaf × Value)).map (·.1) = ((xs.zip ys).map (·.1)).map Leaf.text := by rw [List.map_map, List.map_map]; rfl
  rw [e]
  have s : ∀ (xs : List Str) (ys : List Value), ((xs.zip ys).map (·.1)).Sublist xs := by
    intro xs
    induction xs with
    | nil => intro ys; simp
    | cons x xs ih =>
      intro ys
      cases ys with
      | nil => simp
      | cons y ys => simp only [List.zip_cons_cons, List.map_cons]; exact (ih ys).cons₂ x
  exact List.Pairwise.map _ (fun a b hne k => hne (by injection k)) (h.sublist (s xs ys))
theorem kv_zip : ∀ {xs : List Str} {ys : List V} {us : List Value}, Vals ys us → KV (zipL xs ys) ((xs.zip us).map fun kv => (Leaf.text kv.1, kv.2))
  | [], ys, us, _ => by simp [zipL]; exact .nil
  | x :: xs, ys, us, r => by
    cases r with
    | nil => simp [zipL]; exact .nil
    | cons h t =>
      have := kv_zip (xs := xs) t
      simp only [zipL, List.zip_cons_cons, List.map_cons] at this ⊢
      exact .cons ⟨rfl, h⟩ this
theorem pe_dictZ {X : Cx} {W : Wd} {e e2 : Expr} {ta : TA} {p p2 q pos : Pos} (hP : W.P = X.prog) (hw : W.w = X.w) (hK : W.K = X.K) (hcalm : X.calm = true) (hg : Gl X "dict") (hm : X.mg "dict" = none) (hg2 : Gl X "zip") (hm2 : X.mg "zip" = none) (ha : PA X [e, e2] ta)
    (hs : starEach [e, e2] X.env = (false, eval e X.env) :: starEach [e2] X.env := by rfl) (hpl : (backTo q (starEach [e2] X.env)).any (·.1) = false := by rfl) :
    PE X (.Call (.Name "dict" p) [.Call (.Name "zip" p2) [e, e2] [] q] [] pos) (tDictZ W ta) := by
  constructor
  intro pins s σ H Q I h
  refine Call_ (ld_blt I hg hm PyProof.Rows.boot_dict ?_)
  refine PyProof.Rows.callWith_type1 (PyProof.Rows.args_cons ?_ rfl) rfl rfl
  refine Call_ (ld_blt I hg2 hm2 PyProof.Rows.boot_zip (PyProof.Rows.callWith_type1 (thn (ha.run q pins s σ H _ I h) fun us s1 hq => ?_) hs hpl))
  obtain ⟨vs, H1, I1, r1, a, b, t1, t2, xs, ys, rfl, s1', s2', hl, hn, qq⟩ := hq
  cases r1 with | cons r rr => ?_
  cases rr with | cons r' rr => ?_
  cases rr
  cases r
  cases r'
  rw [hK] at s1' s2'
  obtain ⟨its1, v1, p1, la⟩ := inv_K I1 s1'
  obtain ⟨its2, v2, p2', lb⟩ := inv_K I1 s2'
  refine zip_begins2 (beginsK (t := t1) its1.toArray) (beginsK (t := t2) its2.toArray) p1 p2' fun h' hz hti hto b1 b2 hsz hk => PyProof.Rows.args_nil ?_
  have D : Sep2 (s1.heap.objs.size + 4) (s1.heap.objs.size + 2) (s1.heap.objs.size + 3) s1.heap.objs.size (s1.heap.objs.size + 1) a b := ⟨five_nd _, fun c hc => by
    have hle := five_ge _ _ hc
    exact ⟨Ne.symm (Nat.ne_of_lt (Nat.lt_of_lt_of_le la hle)), Ne.symm (Nat.ne_of_lt (Nat.lt_of_lt_of_le lb hle))⟩⟩
  have I2 : Inv X pins σ H1 { s1 with heap := h' } := I1.kept (t' := s1.toks) hk
  have l1 : its1.length = xs.length := by have := v1.length; simp at this; omega
  have hstr : ∀ i v, its1[i]? = some v → ∃ x t, xs[i]? = some x ∧ v = Value.str x t := fun i v hv => strs_at v1 i v hv
  refine PySem.call_dict_pairs (knd := leafKind X.prog X.w) (kvs := (xs.zip its2).map fun kv => (Leaf.text kv.1, kv.2)) (s := { s1 with heap := h' }) (pairArg_zip t1 t2 D its1.toArray its2.toArray) (I1.ok.hd hcalm) ⟨hz, hti, ⟨_, _, hto⟩, GoK.beg b1, GoK.beg b2, p1.keep (hk a), p2'.keep (hk b)⟩ ⟨?_, fun i key v hr => ?_⟩ (le_size (by simp; omega)) fun h'' tk hd'' k => ?_
  · simp
    omega
  · obtain ⟨e1, e2⟩ := hr
    obtain ⟨x, t, hx, rfl⟩ := hstr i key (by simpa using e1)
    refine ⟨.text x, ?_, by show (x == x) = true; simp⟩
    rw [List.getElem?_map, List.zip, List.getElem?_zipWith, hx, show its2[i]? = some v by simpa using e2]
    rfl
  · rw [merged_nodup (by rw [List.nil_append]; exact zip_keys _ hn), List.nil_append] at hd''
    have hm : (h'.objs.size == sysModules) = false := beq_eq_false_iff_ne.mpr (Nat.ne_of_gt I2.big)
    have hsz' : s1.heap.objs.size ≤ h'.objs.size := by rw [hsz]; exact Nat.le_add_right _ _
    have k' : ∀ b u, s1.heap.get? b = some u → h''.get? b = some u := fun b u e => k b u (fun hc => by
      have hle : s1.heap.objs.size ≤ b := five_ge _ _ (by simp only [List.mem_cons, List.not_mem_nil, or_false] at hc ⊢; rcases hc with e | e | e | e <;> simp [e])
      exact absurd (Heap.lt_size e) (Nat.not_lt_of_le hle)) (hk b u e)
    have hlen : (zipL xs ys).length ≤ sizeLine := le_size (by unfold zipL; simp; omega)
    exact ⟨.ref h'.objs.size, _, I1.laid (t' := tk) k' hsz' (lf_new hP hw hlen hm (kv_zip v2) hd''), rfl, qq _ (I1.hok.fresh hsz')⟩
/-! ### d.get(k, x) -/
def rGetF (W : Wd) : V → List V → Hp → VK → Prop := fun x xs H Q => ∃ a kvs k d, x = .ref a ∧ xs = [lV k, d] ∧ H a = some (leafO W a kvs) ∧ Q ((valV kvs k).getD d) H
theorem mt_getF {X : Cx} {W : Wd} (hP : W.P = X.prog) (hw : W.w = X.w) : MtR X "dict.get" (rGetF W) := by
  intro pins s σ H x xs v us Q I rx r h
  obtain ⟨a, kvs, k, d, rfl, rfl, e, q⟩ := h
  cases rx
  match us, r with
  | [_, _], .cons r1 (.cons r2 .nil) =>
  obtain ⟨_, hd, us', rel, dd⟩ := lf_of hP hw I e
  refine call_meetsIn PySem.F.slot_dict_get dd.typeIs PySem.F.entry_dict_get (PySem.F.args_dict_get_3 _ _ _) (meets_dict_get_default (leafKind X.prog X.w) a (lV_is r1) hd _) ⟨_, dd.mapOf, _, H, I.tok _, (rel.val k).getD r2, q⟩
def tGetF (W : Wd) (to : TE) (t : TA) : TE := fun σ H Q => to σ H fun x H1 => (∃ a kvs, x = .ref a ∧ H1 a = some (leafO W a kvs)) ∧ t σ H1 fun xs H2 => rGetF W x xs H2 Q
theorem pe_getF {X : Cx} {W : Wd} {o e : Expr} {es : List Expr} {to : TE} {t : TA} {apos cpos : Pos} (hP : W.P = X.prog) (hw : W.w = X.w) (ho : PE X o to) (ha : PA X (e :: es) t)
    (hbase : attributeBase o "get" X.env (eval o X.env) = eval o X.env := by rfl)
    (hfew : ((backTo cpos (starEach (e :: es) X.env)).all (fun x => !x.1) && (backToKw cpos (keywordEach [] X.env)).all (fun x => x.1.isSome) && decide ((e :: es).length + ([] : List Keyword).length + (if ([] : List Keyword).isEmpty then 0 else 1) < 30)) = true := by rfl)
    (hline : (apos.endLine == cpos.line) = true := by rfl) (hs : starEach (e :: es) X.env = (false, eval e X.env) :: starEach es X.env := by rfl) (hpl : (backTo cpos (starEach es X.env)).any (·.1) = false := by rfl) :
    PE X (.Call (.Attribute o "get" apos) (e :: es) [] cpos) (tGetF W to t) := by
  constructor
  intro pins s σ H Q I h
  refine wpAny_Call_method_late hbase hfew hline rfl (thn (ho.run pins s σ H _ I h) fun v s1 hq => ?_)
  obtain ⟨x, H1, I1, r1, ⟨a, kvs, rfl, ea⟩, q1⟩ := hq
  cases r1
  obtain ⟨_, hd, us', rel, dd⟩ := lf_of hP hw I1 ea
  refine ⟨"dict", "dict.get", PySem.F.plainAttrs_dict, PySem.F.slot_dict_get, PySem.F.type_dict_get, dd.typeIs, fun b eb => dd.mapOf.noDict b eb, ?_⟩
  have hA := ha.run cpos pins s1 σ H1 _ I1 q1
  rw [hs] at hA ⊢
  refine Calls.callWith_builtin (by show (false || (backTo cpos (starEach es X.env)).any (·.1)) = false; rw [hpl] <;> rfl) (Calls.evalArgs_plain (thn hA fun us s2 hq => ?_))
  obtain ⟨vs, H2, I2, r2, q2⟩ := hq
  exact mt_getF hP hw pins s2 σ H2 (.ref a) vs (.ref a) us Q I2 rfl r2 q2
/-! ### over data -/
section
variable {W : Wd} {Z : Zn} {G F H : Hp} {ρ : Ro} {M : Mu} {Q2 : DQ} {tx : TA} {te : TE} {d e : DV} {kvs : KVs}
def zipKV (zs : List Str) (es : List DV) : KVs := (zs.zip es).map fun kv => (.text kv.1, kv.2)
theorem kd_zip : ∀ {zs : List Str} {es : List DV} {ys : List V}, DatL W G es ys → KD W G (zipKV zs es) (zipL zs ys)
  | [], es, ys, _ => .nil
  | z :: zs, [], ys, h => by rw [datL_nil.mp h]; exact .nil
  | z :: zs, e :: es, ys, h => by
    obtain ⟨y, r, rfl, h1, h2⟩ := datL_cons.mp h
    have := kd_zip (zs := zs) h2
    simp only [zipKV, zipL, List.zip_cons_cons, List.map_cons] at this ⊢
    exact .cons h1 this
theorem we_dictZ {P : Program} {w : World} {K : PySem.W.Frag} (hW : Z.W = ⟨P, w, K⟩) (h : WA Z tx ρ M fun as M1 => ∃ d e zs es, as = [d, e] ∧ (d = .lst (zs.map DV.s) ∨ d = .tup (zs.map DV.s)) ∧ (e = .lst es ∨ e = .tup es) ∧ zs.length ≤ 1000 ∧ zs.Nodup ∧ Q2 (dlD (zipKV zs es)) M1) : WE Z (tDictZ ⟨P, w, K⟩ tx) ρ M Q2 := by
  rw [← hW]
  intro G σ H Q s r E k
  refine h G σ H _ s r E fun as vs G' M' H' s' r' hd hq => ?_
  obtain ⟨d, e, zs, es, rfl, h1, h2, hl, hn, q⟩ := hq
  obtain ⟨y1, y2, rfl, e1, e2⟩ := two_of hd
  obtain ⟨a, t1, xs, rfl, k1, d1⟩ := sqK_of h1 e1
  obtain ⟨b, t2, ys, rfl, k2, d2⟩ := sqK_of h2 e2
  rw [datL_str d1] at k1
  refine ⟨a, b, t1, t2, zs, ys, rfl, k1 _ r'.ex, k2 _ r'.ex, hl, hn, fun p hp => ?_⟩
  obtain ⟨us, eu, du⟩ := (kd_zip (zs := zs) d2).back
  have sn := same_new (o := leafO Z.W p (zipL zs ys)) (r'.gnone hp)
  refine k _ _ _ _ _ (s'.trans sn) (r'.new hp) (dat_dl.mpr ⟨p, us, rfl, ?_, by simp, du.mono sn⟩) q
  rw [← eu]
  exact upd_same
theorem we_getF {P : Program} {w : World} {K : PySem.W.Frag} (hW : Z.W = ⟨P, w, K⟩) (h : WE Z te ρ M fun d M1 => ∃ kvs, d = dlD kvs ∧ WA Z tx ρ M1 fun as M2 => ∃ k e, as = [lD k, e] ∧ Q2 ((valL kvs k).getD e) M2) : WE Z (tGetF ⟨P, w, K⟩ te tx) ρ M Q2 := by
  rw [← hW]
  intro G σ H Q s r E kk
  refine h G σ H _ s r E fun d v G' M' H' s' r' hd hq => ?_
  obtain ⟨kvs, rfl, hq⟩ := hq
  obtain ⟨a, qs, rfl, e1, e2⟩ := dl_at r' hd (.inl rfl)
  refine ⟨⟨a, qs, rfl, e1⟩, hq G' σ H' _ (s.trans s') r' (E.mono s') fun as vs G2 M2 H2 s2 r2 hd2 hq2 => ?_⟩
  obtain ⟨k, e, rfl, q⟩ := hq2
  obtain ⟨y1, y2, rfl, f1, f2⟩ := two_of hd2
  rw [lD_v] at f1
  obtain rfl := dat_v.mp f1
  obtain ⟨a', qs', ev, e1', e2'⟩ := dl_at r2 (hd.mono s2) (.inl rfl)
  injection ev with ev
  subst ev
  refine ⟨a, qs', k, y2, rfl, rfl, e1', ?_⟩
  obtain ⟨g1, g2⟩ := e2'.val (k := k)
  refine kk _ _ G2 M2 H2 (s'.trans s2) r2 ?_ q
  cases ek : valL kvs k with
  | some dd =>
    obtain ⟨v, ev, dv⟩ := g1 dd ek
    rw [ev]
    exact dv
  | none =>
    rw [ek] at g2
    cases ev : valV qs' k with
    | some v => rw [ev] at g2; cases g2
    | none => exact f2
end
end DL
set_option Elab.async false
set_option linter.all false
/-! DL66: rows of tables that go together, plainly. -/
namespace DL
open PySem PySem.Spec PyProof.Rows L2
def lookI (cs : List Str) (row : List Int) (z : Str) : Option Int := ((cs.zip row).find? fun kv => decide (kv.1 = z)).map (·.2)
theorem lookI_pos {c z : Str} {cs : List Str} {v : Int} {row : List Int} (e : c = z) : lookI (c :: cs) (v :: row) z = some v := by
  unfold lookI
  rw [List.zip_cons_cons, List.find?_cons_of_pos (by simpa using e)]
  rfl
theorem lookI_neg {c z : Str} {cs : List Str} {v : Int} {row : List Int} (e : ¬ c = z) : lookI (c :: cs) (v :: row) z = lookI cs row z := by
  unfold lookI
  rw [List.zip_cons_cons, List.find?_cons_of_neg (by simpa using e)]
theorem val_zip : ∀ (cs : List Str) (row : List Int) (z : Str), valL (zipKV cs (row.map DV.i)) (.text z) = (lookI cs row z).map DV.i
  | [], row, z => rfl
  | c :: cs, [], z => rfl
  | c :: cs, v :: row, z => by
    show valL ((.text c, DV.i v) :: zipKV cs (row.map DV.i)) (.text z) = _
    by_cases e : c = z
    · rw [valL_pos (by rw [e]), lookI_pos e]
      rfl
    · rw [valL_neg (by intro k; injection k with k; exact e k), lookI_neg e, val_zip cs row z]
theorem lookI_some : ∀ {cs : List Str} {row : List Int} {z : Str}, row.length = cs.length → z ∈ cs → ∃ v, lookI cs row z = some v
  | [], row, z, _, h => by cases h
  | c :: cs, [], z, h, _ => by simp at h
  | c :: cs, v :: row, z, h, hz => by
    by_cases e : c = z
    · exact ⟨v, lookI_pos e⟩
    · rw [lookI_neg e]
      exact lookI_some (by simpa using h) ((List.mem_cons.mp hz).resolve_left (Ne.symm e))
def goesB (cs : List Str) (row : List Int) (zs : List Str) (r : List Int) : Bool := (zs.zip r).all fun x => decide ((lookI cs row x.1).getD x.2 = x.2)
def moreF (cs zs : List Str) : List Str := zs.filter fun z => !decide (z ∈ cs)
def extR (more zs : List Str) (o row : List Int) : List Int := row ++ more.map fun z => (lookI zs o z).getD 0
abbrev CR := List Str × List (List Int)
def withR (cs zs : List Str) (held : List (List Int)) (row : List Int) : List (List Int) := (held.filter (goesB cs row zs)).map fun o => extR (moreF cs zs) zs o row
def stepJ (b t : CR) : CR := (b.1 ++ moreF b.1 t.1, b.2.flatMap (withR b.1 t.1 t.2))
def joinF (ts : List CR) : CR := ts.foldl stepJ ([], [[]])
theorem joinF_snoc (ts : List CR) (t : CR) : joinF (ts ++ [t]) = stepJ (joinF ts) t := by
  unfold joinF
  rw [List.foldl_append]
  rfl
structure JOk (b : CR) : Prop where
  nd : b.1.Nodup
  wid : ∀ r ∈ b.2, r.length = b.1.length
theorem more_nd {cs zs : List Str} (h1 : cs.Nodup) (h2 : zs.Nodup) : (cs ++ moreF cs zs).Nodup := by
  rw [List.nodup_append]
  refine ⟨h1, h2.sublist List.filter_sublist, fun x hx y hy e => ?_⟩
  subst e
  have := (List.mem_filter.mp hy).2
  simp at this
  exact this hx
theorem stepJ_ok {b t : CR} (h : JOk b) (h2 : t.1.Nodup) : JOk (stepJ b t) := by
  refine ⟨more_nd h.nd h2, fun r hr => ?_⟩
  obtain ⟨row, hrow, hr⟩ := List.mem_flatMap.mp hr
  obtain ⟨o, _, rfl⟩ := List.mem_map.mp hr
  unfold stepJ extR
  simp [h.wid row hrow]
theorem joinF_ok : ∀ {ts : List CR} {b : CR}, JOk b → (∀ t ∈ ts, t.1.Nodup) → JOk (ts.foldl stepJ b)
  | [], b, h, _ => h
  | t :: ts, b, h, h2 => joinF_ok (ts := ts) (stepJ_ok h (h2 t List.mem_cons_self)) fun x hx => h2 x (List.mem_cons_of_mem _ hx)
theorem jok_nil : JOk (([], [[]]) : CR) := ⟨List.nodup_nil, fun r hr => by simp at hr; subst hr; rfl⟩
theorem joinF_names : ∀ {ts : List CR} {b : CR} {P : Str → Prop}, (∀ z ∈ b.1, P z) → (∀ t ∈ ts, ∀ z ∈ t.1, P z) → ∀ z ∈ (ts.foldl stepJ b).1, P z
  | [], b, P, h, _ => h
  | t :: ts, b, P, h, h2 => joinF_names (ts := ts) (fun z hz => by
      rcases List.mem_append.mp hz with k | k
      · exact h z k
      · exact h2 t List.mem_cons_self z (List.mem_filter.mp k).1) fun x hx => h2 x (List.mem_cons_of_mem _ hx)
theorem flat_len {α β : Type} {f : α → List β} {n : Nat} : ∀ {l : List α}, (∀ x ∈ l, (f x).length ≤ n) → (l.flatMap f).length ≤ l.length * n
  | [], _ => by simp
  | x :: l, h => by
    rw [List.flatMap_cons, List.length_append, List.length_cons, Nat.add_mul]
    have h1 := h x List.mem_cons_self
    have h2 := flat_len (l := l) fun y hy => h y (List.mem_cons_of_mem _ hy)
    omega
theorem withR_len {cs zs : List Str} {held : List (List Int)} {row : List Int} : (withR cs zs held row).length ≤ held.length := by
  unfold withR
  rw [List.length_map]
  exact List.length_filter_le _ _
theorem zip2_row (zs : List Str) (r : List Int) : zip2D (zs.map DV.s) (r.map DV.i) = (zs.zip r).map fun x => DV.tup [.s x.1, .i x.2] := by
  unfold zip2D
  induction zs generalizing r with
  | nil => rfl
  | cons z zs ih =>
    cases r with
    | nil => rfl
    | cons a r =>
      simp only [List.map_cons, List.zip_cons_cons, List.zipWith_cons_cons]
      rw [← ih]
theorem foldJ_len : ∀ (ts : List CR) (b : CR), b.1.length ≤ (ts.foldl stepJ b).1.length
  | [], b => Nat.le_refl _
  | t :: ts, b => Nat.le_trans (by show b.1.length ≤ (b.1 ++ _).length; rw [List.length_append]; omega) (foldJ_len ts (stepJ b t))
theorem joinF_pre (ts : List CR) (i : Nat) : (joinF (ts.take i)).1.length ≤ (joinF ts).1.length := by
  have := foldJ_len (ts.drop i) (joinF (ts.take i))
  have e : (ts.drop i).foldl stepJ (joinF (ts.take i)) = joinF ts := by
    unfold joinF
    rw [← List.foldl_append, List.take_append_drop]
  rw [e] at this
  exact this
theorem mapD_get {α : Type} {f : α → DV} {l : List α} {i : Nat} {d : DV} (h : (l.map f)[i]? = some d) : ∃ c, l[i]? = some c ∧ d = f c := by
  rw [List.getElem?_map] at h
  cases e : l[i]? with
  | none => rw [e] at h; cases h
  | some c => rw [e] at h; cases h; exact ⟨c, rfl, rfl⟩
theorem take_snoc {α : Type} {l : List α} {i : Nat} {x : α} (h : l[i]? = some x) : l.take (i + 1) = l.take i ++ [x] := by
  rw [List.take_add_one, h]
  rfl
/-- a loop at the end of a body, the store changing -/
theorem loop_SE {Z : Zn} {ρ : Ro} {ts : TS} {D2 : Ends2} {g : TG} {β : Type} (is : List Nat) (S : β → Mu) (I : Nat → β → Prop) {b0 : β} {items : List DV} (h0 : I 0 b0)
    (hs : ∀ (i : Nat) d b, items[i]? = some d → I i b → WG Z g d (wipe2 ρ is) (S b) fun ρ1 M1 => WS Z ts { nx := fun ρ2 M2 => wipe2 ρ2 is = wipe2 ρ is ∧ ∃ b', I (i + 1) b' ∧ M2 = S b', rt := D2.rt, bk := D2.nx, ct := fun ρ2 M2 => wipe2 ρ2 is = wipe2 ρ is ∧ ∃ b', I (i + 1) b' ∧ M2 = S b' } ρ1 M1)
    (hk : ∀ ρ2 b, wipe2 ρ2 is = wipe2 ρ is → I items.length b → D2.nx ρ2 (S b)) : Loop Z g ts D2 items ρ (S b0) := by
  refine loop_word (fun j ρ2 M2 => wipe2 ρ2 is = wipe2 ρ is ∧ ∃ b, I j b ∧ M2 = S b) items 0 ρ _ ⟨rfl, b0, h0, rfl⟩ (fun i d ρ2 M2 hi h => ?_) fun ρ2 M2 h => ?_
  · rw [Nat.zero_add] at h ⊢
    obtain ⟨h1, b, h2, rfl⟩ := h
    refine wg_env is ?_
    rw [h1]
    exact hs i d b hi h2
  · rw [Nat.zero_add] at h
    obtain ⟨h1, b, h2, rfl⟩ := h
    exact hk ρ2 b h1 h2
end DL
set_option Elab.async false
set_option linter.all false
set_option maxRecDepth 100000
/-! DL67: things handed in by their names, read as by place. -/
namespace DL
open PySem PySem.Spec PyProof.Rows L2
def tPk (is : List Nat) (m : Nat) (dvl : List V) (tk : TA) : TA := fun σ H Q => tk σ H fun zs H2 => zs.length = m ∧ Q (pick is zs ++ dvl) H2
theorem wa_pk {Z : Zn} {ρ : Ro} {M : Mu} {is : List Nat} {m : Nat} {dvl : List V} {tk : TA} {P2 : List DV → Mu → Prop} (h : WA Z tk ρ M fun es M1 => es.length = m ∧ P2 (pick is es ++ dvl.map DV.v) M1) : WA Z (tPk is m dvl tk) ρ M P2 := fun G σ H Q s R E r =>
  h G σ H _ s R E fun es vs G1 M1 H1 s1 R1 x ⟨l, q⟩ => ⟨by rw [x.length]; exact l, r _ _ G1 M1 H1 s1 R1 ((datL_pick x is).append (datL_v dvl)) q⟩
section
variable {K : PySem.W.Frag} {x qual : Str} {st : Stmt} {dvs : List V} {f : Addr} {fd : FuncData} {ps ks : List Str} {n : Nat}
theorem kbnP (is : List Nat) (F : Df K x qual st [] f fd)
    (h : ∀ (kV doc pm : Value) (an : Option Addr) (cdv ct : Value) (us ws : List Value), us.length = n → ws.length = ks.length → bindArgs (PySem.W.fnOf x qual (defArgs st) (defBody st) (defScope st) .none kV doc pm an cdv ct) ⟨us, ks.zip ws⟩ = pure (ps.zip (us ++ (pick is ws ++ [])))) :
    KBn K fd ps n ks (fun us ws => us ++ (pick is ws ++ [])) (fun us ws => us ++ (pick is ws ++ [])) where
  to := fun s us ws X h0 hl => by
    obtain ⟨oc, od, dV, kV, doc, pm, an, cdv, ct, osl, rfl, lk, hcd, hD, hK⟩ := F.ex
    rcases hD with ⟨_, rfl⟩ | ⟨e, _⟩
    · exact .of_eq (h kV doc pm an cdv ct us ws h0 hl)
    · exact absurd rfl e
  rel := fun r rz => r.append ((show Vals _ _ from paired_pick rz is).append (show Vals [] [] from .nil))
theorem kbnPD (is : List Nat) (j : Nat) (F : Df K x qual st dvs f fd) (hd : dvs ≠ [])
    (h : ∀ (T : Addr) (kV doc pm : Value) (an : Option Addr) (cdv ct : Value) (us ws its : List Value), us.length = n → ws.length = ks.length → its.length = dvs.length →
      ∃ k, bindArgs (PySem.W.fnOf x qual (defArgs st) (defBody st) (defScope st) (.ref T) kV doc pm an cdv ct) ⟨us, ks.zip ws⟩ = seqItems? (.ref T) >>= k ∧ k (some its.toArray) = pure (ps.zip (us ++ (pick is ws ++ its.drop j)))) :
    ∃ its, KBn K fd ps n ks (fun us ws => us ++ (pick is ws ++ its)) (fun us ws => us ++ (pick is ws ++ dvs.drop j)) := by
  obtain ⟨oc, od, dV, kV, doc, pm, an, cdv, ct, osl, rfl, lk, hcd, hD, hK⟩ := F.ex
  rcases hD with ⟨e, _⟩ | ⟨_, T, o, its, m, rfl, lT, oT, rT⟩
  · exact absurd e hd
  · refine ⟨its.drop j, fun s us ws X h1 h2 => ?_, fun r rz => r.append ((show Vals _ _ from paired_pick rz is).append (rT.drop j))⟩
    obtain ⟨k, e1, e2⟩ := h T kV doc pm an cdv ct us ws its h1 h2 rT.length.symm
    refine BindsTo.of_looks fun M => ?_
    rw [e1]
    exact looks_items X lT oT (.of_pure e2)
end
section
variable {X : Cx} {CX : CXT} {k : Nat} {f C : Addr} {fd : FuncData} {ps ks : List Str} {sp : Sp} {E : XK} {x m : Str} {p pos apos : Pos} {o : Expr} {kws : List Keyword} {ta : TE} {tk : TA} {is : List Nat} {its : List Value} {dvl : List V}
theorem pe_callP (F : FnOk X.prog X.w X.K X.mg X.base CX k f fd ps sp) (hr : Room k X.A) (hg : Gl X x) (hm : X.mg x = some (.ref f)) (hk : PySem.W.keepIn X.K (.ref f) = true) (hb : KBn X.K fd ps 0 ks (fun us ws => us ++ (pick is ws ++ its)) (fun us ws => us ++ (pick is ws ++ dvl))) (hx : Passes CX X E) (hkw : PK X kws tk)
    (hall : (backToKw pos (keywordEach kws X.env)).all (·.1.isSome) = true := by rfl) (hks : (backToKw pos (keywordEach kws X.env)).filterMap (·.1) = ks := by rfl) (hdb : (x == ("__debug__" : Str)) = false := by decide)
    (hpl : ((backTo pos (starEach [] X.env)).any (·.1) || (backToKw pos (keywordEach kws X.env)).any (·.1.isNone)) = false := by rfl) :
    PE X (.Call (.Name x p) [] kws pos) (tCall sp [] E (tPk is ks.length dvl tk)) := by
  have h := pe_callK0 (p := p) F hr hg hm hk hb hx hkw hall hks hdb hpl
  constructor
  intro pins s σ H Q I q
  refine h.run pins s σ H Q I ?_
  have e : (fun (zs : List V) H2 => ([] : List V).length = 0 ∧ zs.length = ks.length ∧ sp ([] ++ (pick is zs ++ dvl)) H2 Q E) = fun zs H2 => zs.length = ks.length ∧ sp ((pick is zs ++ dvl) ++ []) H2 Q E := by
    funext zs H2
    simp
  show tk σ H (fun (zs : List V) H2 => ([] : List V).length = 0 ∧ zs.length = ks.length ∧ sp ([] ++ (pick is zs ++ dvl)) H2 Q E)
  rw [e]
  exact q
theorem pe_makeP (M : Mk X.K C f) (F : FnOk X.prog X.w X.K X.mg X.base CX k f fd ps sp) (hr : Room (k + 1) X.A) (hg : Gl X x) (hm : X.mg x = some (.ref C)) (hb : KBn X.K fd ps 1 ks (fun us ws => us ++ (pick is ws ++ its)) (fun us ws => us ++ (pick is ws ++ dvl))) (hx : Passes CX X E) (hkw : PK X kws tk)
    (hall : (backToKw pos (keywordEach kws X.env)).all (·.1.isSome) = true := by rfl) (hks : (backToKw pos (keywordEach kws X.env)).filterMap (·.1) = ks := by rfl) (hdb : (x == ("__debug__" : Str)) = false := by decide)
    (hpl : ((backTo pos (starEach [] X.env)).any (·.1) || (backToKw pos (keywordEach kws X.env)).any (·.1.isNone)) = false := by rfl) :
    PE X (.Call (.Name x p) [] kws pos) (tMake C sp [] E (tPk is ks.length dvl tk)) := by
  have h := pe_makeK0 (p := p) M F hr hg hm hb hx hkw hall hks hdb hpl
  constructor
  intro pins s σ H Q I q
  refine h.run pins s σ H Q I ?_
  have e : (fun (zs : List V) H2 => ([] : List V).length = 0 ∧ zs.length = ks.length ∧ ∀ x dx, H2 x = none → H2 dx = none → dx ≠ x → sp ((.ref x :: []) ++ (pick is zs ++ dvl)) (upd (upd H2 dx (.own x)) x (.ins C dx [])) (fun v H3 => v = .non ∧ Q (.ref x) H3) E) = fun zs H2 => zs.length = ks.length ∧ ∀ x dx, H2 x = none → H2 dx = none → dx ≠ x → sp (.ref x :: ((pick is zs ++ dvl) ++ [])) (upd (upd H2 dx (.own x)) x (.ins C dx [])) (fun v H3 => v = .non ∧ Q (.ref x) H3) E := by
    funext zs H2
    simp
  show tk σ H (fun (zs : List V) H2 => ([] : List V).length = 0 ∧ zs.length = ks.length ∧ ∀ x dx, H2 x = none → H2 dx = none → dx ≠ x → sp ((.ref x :: []) ++ (pick is zs ++ dvl)) (upd (upd H2 dx (.own x)) x (.ins C dx [])) (fun v H3 => v = .non ∧ Q (.ref x) H3) E)
  rw [e]
  exact q
theorem pe_methP {pl : Sem Bool} (he : PE X o ta) (c : Cls X.K C) (hm : Meth X.K C m f) (F : FnOk X.prog X.w X.K X.mg X.base CX k f fd ps sp) (hr : Room k X.A) (hb : KBn X.K fd ps 1 ks (fun us ws => us ++ (pick is ws ++ its)) (fun us ws => us ++ (pick is ws ++ dvl))) (hx : Passes CX X E) (hkw : PK X kws tk)
    (h1 : (backToKw pos (keywordEach kws X.env)).all (·.1.isSome) = true := by rfl) (h2 : (backToKw pos (keywordEach kws X.env)).filterMap (·.1) = ks := by rfl)
    (h3 : ((backTo pos (starEach [] X.env)).any (·.1) || (backToKw pos (keywordEach kws X.env)).any (·.1.isNone)) = false := by rfl)
    (ht : eval (.Call (.Attribute o m apos) [] kws pos) X.env = (do let ov ← eval o X.env; standAt apos.atName; let (f, first) ← holding [ov] (getMethod ov m pl); callWith pos f first (backTo pos (starEach [] X.env)) (backToKw pos (keywordEach kws X.env))) := by rfl) :
    PE X (.Call (.Attribute o m apos) [] kws pos) (tMeth C m sp [] E ta (tPk is ks.length dvl tk)) := by
  have h := pe_methK0 (apos := apos) (pl := pl) he c hm F hr hb hx hkw h1 h2 h3 ht
  constructor
  intro pins s σ H Q I q
  refine h.run pins s σ H Q I ?_
  have e : (fun y H1 => ∃ b dx fs, y = .ref b ∧ H1 b = some (.ins C dx fs) ∧ fs.lookup m = none ∧ tk σ H1 fun zs H2 => zs.length = ks.length ∧ sp ([.ref b] ++ (pick is zs ++ dvl)) H2 Q E) = fun y H1 => ∃ b dx fs, y = .ref b ∧ H1 b = some (.ins C dx fs) ∧ fs.lookup m = none ∧ tk σ H1 fun zs H2 => zs.length = ks.length ∧ sp (y :: ((pick is zs ++ dvl) ++ [])) H2 Q E := by
    funext y H1
    apply propext
    have e2 : ∀ b : Addr, (fun (zs : List V) H2 => zs.length = ks.length ∧ sp ([.ref b] ++ (pick is zs ++ dvl)) H2 Q E) = fun zs H2 => zs.length = ks.length ∧ sp (.ref b :: ((pick is zs ++ dvl) ++ [])) H2 Q E := fun b => by
      funext zs H2
      simp
    constructor
    · rintro ⟨b, dx, fs, rfl, h2, h3, h4⟩
      rw [e2] at h4
      exact ⟨b, dx, fs, rfl, h2, h3, h4⟩
    · rintro ⟨b, dx, fs, rfl, h2, h3, h4⟩
      refine ⟨b, dx, fs, rfl, h2, h3, ?_⟩
      rw [e2]
      exact h4
  show ta σ H (fun y H1 => ∃ b dx fs, y = .ref b ∧ H1 b = some (.ins C dx fs) ∧ fs.lookup m = none ∧ tk σ H1 fun zs H2 => zs.length = ks.length ∧ sp ([.ref b] ++ (pick is zs ++ dvl)) H2 Q E)
  rw [e]
  exact q
end
end DL
set_option Elab.async false
set_option linter.all false
/-! DL68: what goes together, by the columns' values. -/
namespace DL
open PySem PySem.Spec PyProof.Rows L2
def sat (v : Str → Int) (t : CR) : Prop := t.1.map v ∈ t.2
structure TOk (t : CR) : Prop where
  nd : t.1.Nodup
  wid : ∀ r ∈ t.2, r.length = t.1.length
  rnd : t.2.Nodup
theorem lookI_appL : ∀ {cs ms : List Str} {row xs : List Int} {z : Str}, row.length = cs.length → z ∈ cs → lookI (cs ++ ms) (row ++ xs) z = lookI cs row z
  | [], ms, row, xs, z, _, h => by cases h
  | c :: cs, ms, [], xs, z, h, _ => by simp at h
  | c :: cs, ms, v :: row, xs, z, h, hz => by
    rw [List.cons_append, List.cons_append]
    by_cases e : c = z
    · rw [lookI_pos e, lookI_pos e]
    · rw [lookI_neg e, lookI_neg e]
      exact lookI_appL (by simpa using h) ((List.mem_cons.mp hz).resolve_left (Ne.symm e))
theorem lookI_appR : ∀ {cs ms : List Str} {row xs : List Int} {z : Str}, row.length = cs.length → z ∉ cs → lookI (cs ++ ms) (row ++ xs) z = lookI ms xs z
  | [], ms, row, xs, z, h, _ => by
    have : row = [] := List.length_eq_zero_iff.mp (by simpa using h)
    subst this
    rfl
  | c :: cs, ms, [], xs, z, h, _ => by simp at h
  | c :: cs, ms, v :: row, xs, z, h, hz => by
    rw [List.cons_append, List.cons_append, lookI_neg (fun e : c = z => hz (by rw [e]; exact List.mem_cons_self))]
    exact lookI_appR (by simpa using h) fun k => hz (List.mem_cons_of_mem _ k)
theorem lookI_mapV (v : Str → Int) : ∀ {zs : List Str} {z : Str}, z ∈ zs → lookI zs (zs.map v) z = some (v z)
  | [], z, h => by cases h
  | c :: cs, z, h => by
    rw [List.map_cons]
    by_cases e : c = z
    · rw [lookI_pos e, e]
    · rw [lookI_neg e]
      exact lookI_mapV v ((List.mem_cons.mp h).resolve_left (Ne.symm e))
/-- a row over unlike names is told by its values -/
def valR (zs : List Str) (r : List Int) (z : Str) : Int := (lookI zs r z).getD 0
theorem map_valR : ∀ {zs : List Str} {r : List Int}, zs.Nodup → r.length = zs.length → zs.map (valR zs r) = r
  | [], r, _, h => by
    have : r = [] := List.length_eq_zero_iff.mp (by simpa using h)
    rw [this]
    rfl
  | c :: cs, [], _, h => by simp at h
  | c :: cs, v :: r, hn, h => by
    have hn' := List.nodup_cons.mp hn
    rw [List.map_cons]
    congr 1
    · unfold valR
      rw [lookI_pos rfl]
      rfl
    · refine Eq.trans (List.map_congr_left fun z hz => ?_) (map_valR (zs := cs) (r := r) hn'.2 (by simpa using h))
      unfold valR
      rw [lookI_neg (fun e : c = z => hn'.1 (by rw [e]; exact hz))]
theorem zip_mapV (v : Str → Int) (zs : List Str) : zs.zip (zs.map v) = zs.map fun z => (z, v z) := by
  induction zs with
  | nil => rfl
  | cons z zs ih => rw [List.map_cons, List.zip_cons_cons, ih, List.map_cons]
theorem goesB_iff {cs zs : List Str} {v u : Str → Int} : goesB cs (cs.map v) zs (zs.map u) = true ↔ ∀ z ∈ zs, z ∈ cs → v z = u z := by
  unfold goesB
  rw [zip_mapV, List.all_eq_true]
  refine ⟨fun h z hz hc => ?_, fun h x hx => ?_⟩
  · have := h (z, u z) (List.mem_map.mpr ⟨z, hz, rfl⟩)
    rw [lookI_mapV v hc] at this
    simpa using this
  · obtain ⟨z, hz, rfl⟩ := List.mem_map.mp hx
    by_cases hc : z ∈ cs
    · rw [lookI_mapV v hc]
      simpa using h z hz hc
    · have : lookI cs (cs.map v) z = none := by
        unfold lookI
        rw [zip_mapV, List.find?_eq_none.mpr]
        · rfl
        · intro y hy
          obtain ⟨w, hw, rfl⟩ := List.mem_map.mp hy
          rw [decide_eq_true_eq]
          exact fun e => hc (by rw [← e]; exact hw)
      rw [this]
      simp
theorem extR_map {cs zs : List Str} {v u : Str → Int} : extR (moreF cs zs) zs (zs.map u) (cs.map v) = (cs ++ moreF cs zs).map fun z => if z ∈ cs then v z else u z := by
  unfold extR
  rw [List.map_append]
  congr 1
  · exact List.map_congr_left fun z hz => (if_pos hz).symm
  · refine List.map_congr_left fun z hz => ?_
    have h := List.mem_filter.mp hz
    have hc : z ∉ cs := by simpa using h.2
    rw [lookI_mapV u h.1, if_neg hc]
    rfl
theorem map_inj_on {zs : List Str} {v u : Str → Int} (h : zs.map v = zs.map u) : ∀ z ∈ zs, v z = u z := fun z hz => List.map_inj_left.mp h z hz
theorem stepJ_sat {b t : CR} (hb : TOk b) (ht : TOk t) (v : Str → Int) : sat v (stepJ b t) ↔ sat v b ∧ sat v t := by
  unfold sat stepJ
  rw [List.mem_flatMap]
  refine ⟨fun ⟨row, hrow, h⟩ => ?_, fun ⟨h1, h2⟩ => ⟨b.1.map v, h1, ?_⟩⟩
  · obtain ⟨o, ho, e⟩ := List.mem_map.mp h
    obtain ⟨ho, hg⟩ := List.mem_filter.mp ho
    have er := map_valR hb.nd (hb.wid row hrow)
    have eo := map_valR ht.nd (ht.wid o ho)
    rw [← er, ← eo] at hg e
    rw [extR_map] at e
    have hv := map_inj_on e
    have hg' := goesB_iff.mp hg
    have e1 : b.1.map v = row := by
      rw [← er]
      exact List.map_congr_left fun z hz => by
        have := hv z (List.mem_append_left _ hz)
        rw [if_pos hz] at this
        exact this.symm
    have e2 : t.1.map v = o := by
      rw [← eo]
      refine List.map_congr_left fun z hz => ?_
      by_cases hc : z ∈ b.1
      · have := hv z (List.mem_append_left _ hc)
        rw [if_pos hc] at this
        rw [← this]
        exact hg' z hz hc
      · have := hv z (List.mem_append_right _ (List.mem_filter.mpr ⟨hz, by simpa using hc⟩))
        rw [if_neg hc] at this
        exact this.symm
    exact ⟨e1 ▸ hrow, e2 ▸ ho⟩
  · refine List.mem_map.mpr ⟨t.1.map v, List.mem_filter.mpr ⟨h2, goesB_iff.mpr fun _ _ _ => rfl⟩, ?_⟩
    rw [extR_map]
    exact List.map_congr_left fun z _ => by by_cases hc : z ∈ b.1 <;> simp [hc]
theorem nodup_mapOn {α β : Type} {f : α → β} : ∀ {l : List α}, l.Nodup → (∀ x ∈ l, ∀ y ∈ l, f x = f y → x = y) → (l.map f).Nodup
  | [], _, _ => by simp
  | x :: l, hn, h => by
    have hn' := List.nodup_cons.mp hn
    rw [List.map_cons, List.nodup_cons]
    refine ⟨fun k => ?_, nodup_mapOn hn'.2 fun y hy w hw => h y (List.mem_cons_of_mem _ hy) w (List.mem_cons_of_mem _ hw)⟩
    obtain ⟨y, hy, e⟩ := List.mem_map.mp k
    have := h y (List.mem_cons_of_mem _ hy) x List.mem_cons_self e
    exact hn'.1 (by rw [← this]; exact hy)
theorem nodup_flat {α β : Type} {f : α → List β} : ∀ {l : List α}, l.Nodup → (∀ x ∈ l, (f x).Nodup) → (∀ x ∈ l, ∀ y ∈ l, ∀ z, z ∈ f x → z ∈ f y → x = y) → (l.flatMap f).Nodup
  | [], _, _, _ => by simp
  | x :: l, hn, h1, h2 => by
    have hn' := List.nodup_cons.mp hn
    rw [List.flatMap_cons, List.nodup_append]
    refine ⟨h1 x List.mem_cons_self, nodup_flat hn'.2 (fun y hy => h1 y (List.mem_cons_of_mem _ hy)) fun y hy w hw => h2 y (List.mem_cons_of_mem _ hy) w (List.mem_cons_of_mem _ hw), fun a ha b hb e => ?_⟩
    subst e
    obtain ⟨y, hy, hz⟩ := List.mem_flatMap.mp hb
    have := h2 x List.mem_cons_self y (List.mem_cons_of_mem _ hy) a ha hz
    exact hn'.1 (this ▸ hy)
theorem stepJ_tok {b t : CR} (hb : TOk b) (ht : TOk t) : TOk (stepJ b t) := by
  have j := stepJ_ok ⟨hb.nd, hb.wid⟩ ht.nd
  refine ⟨j.nd, j.wid, ?_⟩
  unfold stepJ
  refine nodup_flat hb.rnd (fun row hrow => ?_) fun x hx y hy z h1 h2 => ?_
  · unfold withR
    refine nodup_mapOn (ht.rnd.sublist List.filter_sublist) fun o ho o' ho' e => ?_
    obtain ⟨ho, hg⟩ := List.mem_filter.mp ho
    obtain ⟨ho', hg'⟩ := List.mem_filter.mp ho'
    have er := map_valR hb.nd (hb.wid row hrow)
    have eo := map_valR ht.nd (ht.wid o ho)
    have eo' := map_valR ht.nd (ht.wid o' ho')
    rw [← er, ← eo] at hg
    rw [← er, ← eo'] at hg'
    rw [← er, ← eo, ← eo', extR_map, extR_map] at e
    have hv := map_inj_on e
    have g := goesB_iff.mp hg
    have g' := goesB_iff.mp hg'
    rw [← eo, ← eo']
    refine List.map_congr_left fun z hz => ?_
    by_cases hc : z ∈ b.1
    · rw [← g z hz hc, ← g' z hz hc]
    · have := hv z (List.mem_append_right _ (List.mem_filter.mpr ⟨hz, by simpa using hc⟩))
      simpa [hc] using this
  · obtain ⟨o, _, rfl⟩ := List.mem_map.mp h1
    obtain ⟨o', _, e⟩ := List.mem_map.mp h2
    unfold extR at e
    exact (List.append_inj_left e (by rw [hb.wid x hx, hb.wid y hy])).symm
theorem fold_sat {ts : List CR} : ∀ {b : CR}, TOk b → (∀ t ∈ ts, TOk t) → TOk (ts.foldl stepJ b) ∧ ∀ v, sat v (ts.foldl stepJ b) ↔ sat v b ∧ ∀ t ∈ ts, sat v t := by
  induction ts with
  | nil => exact fun hb _ => ⟨hb, fun v => by simp⟩
  | cons t ts ih =>
    intro b hb ht
    have h1 := stepJ_tok hb (ht t List.mem_cons_self)
    obtain ⟨k1, k2⟩ := ih h1 fun x hx => ht x (List.mem_cons_of_mem _ hx)
    refine ⟨k1, fun v => ?_⟩
    rw [List.foldl_cons, k2 v, stepJ_sat hb (ht t List.mem_cons_self) v]
    simp [and_assoc]
theorem tok_nil : TOk (([], [[]]) : CR) := ⟨List.nodup_nil, fun r hr => by simp at hr; subst hr; rfl, by simp⟩
theorem joinF_tok {ts : List CR} (h : ∀ t ∈ ts, TOk t) : TOk (joinF ts) := (fold_sat tok_nil h).1
theorem joinF_sat {ts : List CR} (h : ∀ t ∈ ts, TOk t) (v : Str → Int) : sat v (joinF ts) ↔ ∀ t ∈ ts, sat v t := by
  have := (fold_sat tok_nil h).2 v
  rw [show joinF ts = ts.foldl stepJ ([], [[]]) from rfl, this]
  simp [sat]
theorem fold_cols {z : Str} : ∀ {ts : List CR} {b : CR}, z ∈ (ts.foldl stepJ b).1 ↔ z ∈ b.1 ∨ ∃ t ∈ ts, z ∈ t.1
  | [], b => by simp
  | t :: ts, b => by
    rw [List.foldl_cons, fold_cols (ts := ts)]
    unfold stepJ moreF
    simp only [List.mem_append, List.mem_filter, List.mem_cons, exists_eq_or_imp]
    by_cases hb : z ∈ b.1 <;> simp [hb, or_assoc]
theorem joinF_cols {ts : List CR} {z : Str} : z ∈ (joinF ts).1 ↔ ∃ t ∈ ts, z ∈ t.1 := by
  rw [show joinF ts = ts.foldl stepJ ([], [[]]) from rfl, fold_cols]
  simp
/-- columns do not hang on the rows -/
theorem fold_heads : ∀ {ts us : List CR} {b c : CR}, b.1 = c.1 → ts.map (·.1) = us.map (·.1) → (ts.foldl stepJ b).1 = (us.foldl stepJ c).1
  | [], [], b, c, h, _ => h
  | [], _ :: _, _, _, _, h => by cases h
  | _ :: _, [], _, _, _, h => by cases h
  | t :: ts, u :: us, b, c, h, k => by
    rw [List.map_cons, List.map_cons] at k
    injection k with k1 k2
    exact fold_heads (ts := ts) (us := us) (by unfold stepJ; simp only; rw [h, k1]) k2
theorem joinF_heads {ts us : List CR} (h : ts.map (·.1) = us.map (·.1)) : (joinF ts).1 = (joinF us).1 := fold_heads rfl h
/-! how many rows -/
def prF (ts : List CR) : Nat := ts.foldl (fun n t => n * max 1 t.2.length) 1
theorem prF_fold : ∀ (ts : List CR) (n : Nat), ts.foldl (fun n t => n * max 1 t.2.length) n = n * prF ts
  | [], n => by simp [prF]
  | t :: ts, n => by
    rw [List.foldl_cons, prF_fold ts]
    have e : prF (t :: ts) = max 1 t.2.length * prF ts := by
      show (t :: ts).foldl (fun n t => n * max 1 t.2.length) 1 = _
      rw [List.foldl_cons, prF_fold ts, Nat.one_mul]
    rw [e, Nat.mul_assoc]
theorem prF_cons (t : CR) (ts : List CR) : prF (t :: ts) = max 1 t.2.length * prF ts := by
  unfold prF
  rw [List.foldl_cons, prF_fold, Nat.one_mul]
  rfl
theorem prF_append (ts us : List CR) : prF (ts ++ us) = prF ts * prF us := by
  unfold prF
  rw [List.foldl_append, prF_fold us]
  rfl
theorem prF_pos : ∀ ts : List CR, 1 ≤ prF ts
  | [] => Nat.le_refl _
  | t :: ts => by
    rw [prF_cons]
    have := prF_pos ts
    exact Nat.one_le_iff_ne_zero.mpr (Nat.mul_ne_zero (by omega) (by omega))
theorem prF_perm {ts us : List CR} (h : ts.Perm us) : prF ts = prF us := by
  induction h with
  | nil => rfl
  | cons x _ ih => rw [prF_cons, prF_cons, ih]
  | swap x y l =>
    rw [prF_cons, prF_cons, prF_cons, prF_cons, ← Nat.mul_assoc, ← Nat.mul_assoc, Nat.mul_comm (max 1 y.2.length)]
  | trans _ _ ih1 ih2 => exact ih1.trans ih2
theorem fold_rows : ∀ (ts : List CR) (b : CR), (ts.foldl stepJ b).2.length ≤ b.2.length * prF ts
  | [], b => by simp [prF]
  | t :: ts, b => by
    rw [List.foldl_cons, prF_cons, ← Nat.mul_assoc]
    refine Nat.le_trans (fold_rows ts _) (Nat.mul_le_mul_right _ ?_)
    exact Nat.le_trans (flat_len (n := max 1 t.2.length) fun row _ => Nat.le_trans withR_len (by omega)) (Nat.le_refl _)
theorem joinF_rows (ts : List CR) : (joinF ts).2.length ≤ prF ts := by
  have := fold_rows ts ([], [[]])
  simpa [joinF] using this
theorem prF_take (ts : List CR) (i : Nat) : prF (ts.take i) ≤ prF ts := by
  have h := prF_append (ts.take i) (ts.drop i)
  rw [List.take_append_drop] at h
  rw [h]
  exact Nat.le_mul_of_pos_right _ (prF_pos _)
end DL
set_option Elab.async false
set_option linter.all false
/-! DL69: x in (a, b, ..) over data; min. -/
namespace DL
open PySem PySem.Spec PyProof.Rows L2
def rInU (K : PySem.W.Frag) : R2 := fun x y H Q => ∃ p ps, Dp K H x p ∧ Dp K H y (.tuple ps) ∧ SeqAt.shaped p = true ∧ SeqAt.shaped (.tuple ps) = true ∧ Q (.bl (ps.any fun z => PyData.eqv z p)) H
theorem k_inU {X : Cx} {K : PySem.W.Frag} (e : X.K = K) (hu : X.A.units + 65 < cLine) : OpR X (compareOp .In) (rInU K) := by
  subst e
  intro pins s σ H x y v u Q I rx ry ⟨p, ps, h1, h2, s1, s2, q⟩
  obtain ⟨_, k1⟩ := Dp.reads I p x v h1 rx
  obtain ⟨_, k2⟩ := Dp.reads I (.tuple ps) y u h2 ry
  have l1 := SeqAt.canLay_of_shaped s1
  have l2 : PyData.canLayAll0 ps = true := SeqAt.canLay_of_shaped s2
  refine SeqAt.in_tuple_reads k2 k1 l2 l1 ?_ ⟨.bl _, H, I, rfl, q⟩
  exact room_in_shaped s1 hu
section
variable {W : Wd} {Z : Zn} {G F H : Hp} {M : Mu} {Q2 : DQ} {x y d : DV} {ds : List DV}
theorem wr_inU (hx : Hold M x d) (h1 : d.pln = true) (h2 : plnL ds = true) (h3 : d.dep ≤ 64) (h4 : depL ds ≤ 63) (h : ∀ b : Bool, (b = true ↔ d ∈ ds) → Q2 (.b b) M) : WR Z (rInU Z.W.K) x (.tup ds) M Q2 := fun G H vx vy Q s R dx dy r => by
  obtain ⟨p, e1, e2, e3⟩ := good_py d (pln_good d h1)
  obtain ⟨ps, e4, e5, e6⟩ := goodL_py ds (plnL_good ds h2)
  have hy : PyOf M (.tup ds) (.tuple ps) := .inl (by show (pyL ds).map PyData.tuple = _; rw [e4]; rfl)
  refine ⟨p, ps, (hx.py e1).dp R dx, hy.dp R dy, shaped_of e2 (by rw [e3]; exact h3), shaped_of (p := .tuple ps) (by simpa [PyData.canLay0] using e5) (by simp [PyData.depth, e6]; omega), ?_⟩
  exact r (.b _) _ G M H (Same.refl G) R dat_v' (h _ (anyEqv h2 h1 e4 e1))
theorem wc_min {i j : Int} (h : Q2 (.i (if j < i then j else i)) M) : WC Z (fun xs H Q => ∃ i j, xs = [.int i, .int j] ∧ Q (.int (if j < i then j else i)) H) [.i i, .i j] M Q2 := fun G H vs Q s R d r => by
  obtain ⟨y, z, rfl, h1, h2⟩ := two_of d
  rw [dat_v.mp h1, dat_v.mp h2]
  exact ⟨i, j, rfl, r (.i _) _ G M H (Same.refl G) R dat_v' h⟩
end
theorem bt_min : bootBuiltins "min" = some (.builtin "min") := by decide +kernel
end DL
set_option Elab.async false
set_option linter.all false
set_option maxRecDepth 100000
/-! DL70: a tree's text gone through sign by sign, plainly. -/
namespace DL
open PySem PySem.Spec PyProof.Rows L2
abbrev Stk := List (Option Str)
structure NSt where
  found : Prs
  stk : Stk
  name : Str
  shut : Bool
def NSt.top (s : NSt) : Option Str := s.stk.headD none
def NSt.isNew (s : NSt) : Bool := decide (s.name ≠ "") && decide (s.name ∉ namesOf s.found)
def NSt.ended (s : NSt) : Prs := if s.shut then s.found else s.found ++ [(s.name, s.top)]
def growB (s : NSt) (c : Nat) : Bool := if s.shut = true ∨ 8 < (s.name ++ chr c).length then false else decide ((s.name ++ chr c).length < 8) || decide (s.name ++ chr c ∉ namesOf s.found)
def takeF (s : NSt) (c : Nat) : Bool × NSt :=
  if c ∈ letters.cps.toList then (growB s c, { s with name := s.name ++ chr c })
  else if s.shut = false ∧ s.isNew = false then (false, s)
  else if (c = 40 ∧ s.shut = true) ∨ (c = 41 ∧ s.stk.length = 1) then (false, s)
  else if c = 41 then (true, ⟨s.ended, s.stk.tail, s.name, true⟩)
  else (decide (c = 40 ∨ c = 44) && decide (s.ended.length < 8), ⟨s.ended, if c = 40 then some s.name :: s.stk else s.stk, "", false⟩)
def runF : NSt → List Nat → Option NSt
  | s, [] => some s
  | s, c :: T => if (takeF s c).1 = true then runF (takeF s c).2 T else none
def st0 : NSt := ⟨[], [none], "", false⟩
def wholeB (s : NSt) : Bool := decide (s.stk.length = 1) && (s.shut || s.isNew || (decide (s.found = []) && decide (s.name = "")))
/-! texts as lists -/
theorem tl_inj {x y : Str} (h : TL.tl x = TL.tl y) : x = y := by
  cases x with
  | mk a =>
    cases y with
    | mk b =>
      congr 1
      exact Array.toList_inj.mp h
theorem tl_chr (c : Nat) : TL.tl (chr c) = [c] := rfl
theorem tl_emp : TL.tl ("" : Str) = [] := rfl
theorem str_asc (x y z : Str) : x ++ y ++ z = x ++ (y ++ z) := tl_inj (by simp only [TL.tl_append, List.append_assoc])
theorem emp_r (x : Str) : x ++ ("" : Str) = x := tl_inj (by rw [TL.tl_append, tl_emp, List.append_nil])
theorem emp_l (x : Str) : ("" : Str) ++ x = x := tl_inj (by rw [TL.tl_append, tl_emp, List.nil_append])
/-! ### what is kept -/
structure NI (s : NSt) : Prop where
  tr : TrF [] s.found
  few : s.found.length ≤ 8
  few' : s.shut = false → s.found.length < 8
  sin : ∀ c, some c ∈ s.stk → c ∈ namesOf s.found
  snd : s.stk.Nodup
  bot : s.stk.getLast? = some none
  let' : ∀ c ∈ TL.tl s.name, c ∈ letters.cps.toList
  len : s.name.length ≤ 8
theorem ni0 : NI st0 := ⟨trivial, by decide, fun _ => by decide, fun c h => by simp [st0] at h, by simp [st0], rfl, fun c h => by simp [st0, tl_emp] at h, by decide⟩
theorem isNew_iff {s : NSt} : s.isNew = true ↔ s.name ≠ "" ∧ s.name ∉ namesOf s.found := by
  unfold NSt.isNew
  rw [Bool.and_eq_true, decide_eq_true_eq, decide_eq_true_eq]
theorem len_pos {x : Str} (h : x ≠ "") : 1 ≤ x.length := by
  rcases Nat.lt_or_ge x.length 1 with k | k
  · exfalso
    refine h (tl_inj ?_)
    rw [tl_emp]
    exact List.length_eq_zero_iff.mp (by rw [tl_len]; omega)
  · exact k
theorem NI.top_in {s : NSt} (h : NI s) : ∀ c, s.top = some c → c ∈ namesOf s.found := fun c e => by
  unfold NSt.top at e
  cases hs : s.stk with
  | nil => rw [hs] at e; cases e
  | cons o l =>
    rw [hs] at e
    exact h.sin c (by rw [hs]; exact List.mem_cons.mpr (.inl e.symm))
theorem NI.pair {s : NSt} (h : NI s) (hn : s.isNew = true) : okPair (namesOf s.found) (s.name, s.top) := by
  obtain ⟨h1, h2⟩ := isNew_iff.mp hn
  exact ⟨nameB_iff.mpr ⟨len_pos h1, h.len, h.let'⟩, h2, h.top_in⟩
theorem NI.ended_tr {s : NSt} (h : NI s) (hn : s.shut = true ∨ s.isNew = true) : Tr s.ended := by
  unfold NSt.ended
  cases hs : s.shut with
  | true => exact ⟨h.few, h.tr⟩
  | false =>
    have hn' : s.isNew = true := hn.resolve_left (by rw [hs]; simp)
    refine ⟨by have := h.few' hs; simp; omega, ?_⟩
    exact TrF.snoc h.tr (by rw [List.nil_append]; exact h.pair hn')
theorem ended_names {s : NSt} {c : Str} (h : c ∈ namesOf s.found) : c ∈ namesOf s.ended := by
  unfold NSt.ended
  split
  · exact h
  · rw [namesOf_app]
    exact List.mem_append_left _ h
theorem getLast_tail {l : Stk} (h : l.getLast? = some none) (h2 : l.length ≠ 1) : l.tail.getLast? = some none := by
  match l, h, h2 with
  | [_], _, h2 => exact absurd rfl h2
  | _ :: b :: l, h, _ => simpa using h
theorem NI.step {s : NSt} {c : Nat} (h : NI s) (ok : (takeF s c).1 = true) : NI (takeF s c).2 := by
  unfold takeF at ok ⊢
  by_cases h1 : c ∈ letters.cps.toList
  · rw [if_pos h1] at ok ⊢
    simp only at ok ⊢
    unfold growB at ok
    split at ok
    · cases ok
    · rename_i h2
      refine ⟨h.tr, h.few, h.few', h.sin, h.snd, h.bot, fun d hd => ?_, by show (s.name ++ chr c).length ≤ 8; omega⟩
      rw [show TL.tl (s.name ++ chr c) = TL.tl s.name ++ [c] from TL.tl_append _ _] at hd
      rcases List.mem_append.mp hd with k | k
      · exact h.let' d k
      · rw [List.mem_singleton.mp k]
        exact h1
  · rw [if_neg h1] at ok ⊢
    by_cases h2 : s.shut = false ∧ s.isNew = false
    · rw [if_pos h2] at ok
      cases ok
    · rw [if_neg h2] at ok ⊢
      have hn : s.shut = true ∨ s.isNew = true := by
        cases e : s.shut with
        | true => exact .inl rfl
        | false => exact .inr (by cases e2 : s.isNew with | true => rfl | false => exact absurd ⟨e, e2⟩ h2)
      have ht := h.ended_tr hn
      by_cases h3 : (c = 40 ∧ s.shut = true) ∨ (c = 41 ∧ s.stk.length = 1)
      · rw [if_pos h3] at ok
        cases ok
      · rw [if_neg h3] at ok ⊢
        by_cases h4 : c = 41
        · rw [if_pos h4]
          refine ⟨ht.ok, ht.len, fun e => (by cases e), fun d hd => ended_names (h.sin d (List.mem_of_mem_tail hd)), h.snd.sublist (List.tail_sublist _), getLast_tail h.bot fun e => h3 (.inr ⟨h4, e⟩), h.let', h.len⟩
        · rw [if_neg h4] at ok ⊢
          simp only [Bool.and_eq_true, decide_eq_true_eq] at ok
          refine ⟨ht.ok, by show s.ended.length ≤ 8; omega, fun _ => ok.2, fun d hd => ?_, ?_, ?_, fun d hd => by simp [tl_emp] at hd, by show ("" : Str).length ≤ 8; decide⟩
          · simp only at hd
            split at hd
            · rename_i h5
              rcases List.mem_cons.mp hd with k | k
              · cases k
                have hs : s.shut = false := by
                  cases e : s.shut with
                  | true => exact absurd (.inl ⟨h5, e⟩) h3
                  | false => rfl
                unfold NSt.ended
                rw [hs]
                simp [namesOf]
              · exact ended_names (h.sin d k)
            · exact ended_names (h.sin d hd)
          · simp only
            split
            · rename_i h5
              have hs : s.shut = false := by
                cases e : s.shut with
                | true => exact absurd (.inl ⟨h5, e⟩) h3
                | false => rfl
              rw [List.nodup_cons]
              exact ⟨fun k => (isNew_iff.mp (hn.resolve_left (by rw [hs]; simp))).2 (h.sin _ k), h.snd⟩
            · exact h.snd
          · simp only
            split
            · cases e : s.stk with
              | nil => have := h.bot; rw [e] at this; cases this
              | cons b l => rw [List.getLast?_cons_cons, ← e]; exact h.bot
            · exact h.bot
theorem NI.run : ∀ {T : List Nat} {s s' : NSt}, NI s → runF s T = some s' → NI s'
  | [], s, s', h, e => by cases e; exact h
  | c :: T, s, s', h, e => by
    unfold runF at e
    split at e
    · rename_i ok
      exact NI.run (T := T) (h.step ok) e
    · cases e
end DL
set_option Elab.async false
set_option linter.all false
set_option maxRecDepth 100000
/-! DL71: what a text that is a tree's looks like, from what it tells. -/
namespace DL
open PySem PySem.Spec PyProof.Rows L2
def popN : Stk → Option Str → Nat
  | [], _ => 0
  | o :: l, p => if o = p then 0 else popN l p + 1
def popS : Stk → Option Str → Stk
  | [], _ => []
  | o :: l, p => if o = p then o :: l else popS l p
def emitF : Option Str → Stk → Prs → List Nat
  | _, k, [] => List.replicate (k.length - 1) 41
  | n, k, p :: r => if n ≠ none ∧ p.2 = n then 40 :: (TL.tl p.1 ++ emitF (some p.1) (n :: k) r)
    else List.replicate (popN k p.2) 41 ++ (44 :: (TL.tl p.1 ++ emitF (some p.1) (popS k p.2) r))
theorem ended_shut {s : NSt} (h : s.shut = true) : s.ended = s.found := by unfold NSt.ended; rw [h]; rfl
theorem ended_open {s : NSt} (h : s.shut = false) : s.ended = s.found ++ [(s.name, s.top)] := by unfold NSt.ended; rw [h]; rfl
/-- what the rest of a text tells -/
def Tells (s : NSt) (G : Prs) (T : List Nat) : Prop :=
  (s.shut = false → ∃ x r, G = s.found ++ (s.name ++ x, s.top) :: r ∧ (s.name ++ x ≠ "" ∧ s.name ++ x ∉ namesOf s.found) ∧ T = TL.tl x ++ emitF (some (s.name ++ x)) s.stk r) ∧
  (s.shut = true → ∃ r, G = s.found ++ r ∧ (∀ p, r.head? = some p → p.2 ∈ s.stk) ∧ T = emitF none s.stk r)
theorem emit_pop {n : Option Str} {o : Option Str} {k : Stk} {r : Prs} (hk : 1 ≤ k.length) (hn : (o :: k).Nodup) (hin : ∀ p, r.head? = some p → p.2 ∈ k) (hnn : n = none ∨ n ∉ k) : emitF n (o :: k) r = 41 :: emitF none k r := by
  cases r with
  | nil =>
    show List.replicate ((o :: k).length - 1) 41 = 41 :: List.replicate (k.length - 1) 41
    rw [← List.replicate_succ]
    congr 1
    simp only [List.length_cons]
    omega
  | cons p r =>
    have hp := hin p rfl
    have ho : o ≠ p.2 := fun e => (List.nodup_cons.mp hn).1 (e ▸ hp)
    have c1 : ¬ (n ≠ none ∧ p.2 = n) := fun ⟨h1, h2⟩ => hnn.elim h1 fun h => h (h2 ▸ hp)
    have c2 : ¬ ((none : Option Str) ≠ none ∧ p.2 = none) := fun h => h.1 rfl
    simp only [emitF]
    rw [if_neg c1, if_neg c2]
    simp only [popN, popS]
    rw [if_neg ho, if_neg ho, List.replicate_succ]
    rfl
theorem tells_run : ∀ {T : List Nat} {s s' : NSt}, NI s → runF s T = some s' → s'.stk.length = 1 → (s'.shut = true ∨ s'.isNew = true) → Tells s s'.ended T
  | [], s, s', h, e, h1, h2 => by
    cases e
    have hb := h.bot
    obtain ⟨o, ho⟩ := List.length_eq_one_iff.mp h1
    refine ⟨fun hs => ⟨"", [], ?_, ?_, ?_⟩, fun hs => ⟨[], ?_, fun p hp => (by cases hp), ?_⟩⟩
    · rw [ended_open hs, emp_r]
    · rw [emp_r]
      exact isNew_iff.mp (h2.resolve_left (by rw [hs]; simp))
    · rw [ho]; rfl
    · rw [ended_shut hs, List.append_nil]
    · rw [ho]; rfl
  | c :: T, s, s', h, e, h1, h2 => by
    unfold runF at e
    split at e
    · rename_i ok
      have IH := tells_run (T := T) (h.step ok) e h1 h2
      clear e
      unfold takeF at ok IH
      by_cases k1 : c ∈ letters.cps.toList
      · rw [if_pos k1] at ok IH
        simp only at ok
        unfold growB at ok
        split at ok
        · cases ok
        rename_i k2
        have hs : s.shut = false := by
          cases e : s.shut with
          | true => exact absurd (.inl e) k2
          | false => rfl
        obtain ⟨x, r, g1, g2, g3⟩ := IH.1 hs
        refine ⟨fun _ => ⟨chr c ++ x, r, ?_, ?_, ?_⟩, fun e => by rw [hs] at e; cases e⟩
        · rw [← str_asc]; exact g1
        · rw [← str_asc]; exact g2
        · rw [← str_asc, TL.tl_append, tl_chr, g3]; rfl
      · rw [if_neg k1] at ok IH
        by_cases k2 : s.shut = false ∧ s.isNew = false
        · rw [if_pos k2] at ok; cases ok
        rw [if_neg k2] at ok IH
        have hn : s.shut = true ∨ s.isNew = true := by
          cases e : s.shut with
          | true => exact .inl rfl
          | false => exact .inr (by cases e2 : s.isNew with | true => rfl | false => exact absurd ⟨e, e2⟩ k2)
        by_cases k3 : (c = 40 ∧ s.shut = true) ∨ (c = 41 ∧ s.stk.length = 1)
        · rw [if_pos k3] at ok; cases ok
        rw [if_neg k3] at ok IH
        have nn : s.shut = false → some s.name ∉ s.stk := fun hs k => (isNew_iff.mp (hn.resolve_left (by rw [hs]; simp))).2 (h.sin _ k)
        by_cases k4 : c = 41
        · -- a bracket shut
          rw [if_pos k4] at IH
          obtain ⟨r, g1, g2, g3⟩ := IH.2 rfl
          simp only at g1 g2 g3
          obtain ⟨o, l, hl⟩ : ∃ o l, s.stk = o :: l := by
            cases e : s.stk with
            | nil => have := h.bot; rw [e] at this; cases this
            | cons o l => exact ⟨o, l, rfl⟩
          have hl1 : 1 ≤ l.length := by
            rcases Nat.lt_or_ge l.length 1 with z | z
            · exact absurd (.inr ⟨k4, by rw [hl, List.length_cons]; omega⟩) k3
            · exact z
          have hnd : (o :: l).Nodup := hl ▸ h.snd
          rw [hl, List.tail_cons] at g2 g3
          refine ⟨fun hs => ⟨"", r, ?_, ?_, ?_⟩, fun hs => ⟨r, ?_, fun p hp => by rw [hl]; exact List.mem_cons_of_mem _ (g2 p hp), ?_⟩⟩
          · rw [g1, ended_open hs, emp_r, List.append_assoc]; rfl
          · rw [emp_r]; exact isNew_iff.mp (hn.resolve_left (by rw [hs]; simp))
          · rw [emp_r, hl, emit_pop hl1 hnd g2 (.inr fun k => nn hs (by rw [hl]; exact List.mem_cons_of_mem _ k)), g3, k4]; rfl
          · rw [g1, ended_shut hs]
          · rw [hl, emit_pop hl1 hnd g2 (.inl rfl), g3, k4]
        · rw [if_neg k4] at ok IH
          simp only [Bool.and_eq_true, decide_eq_true_eq] at ok
          obtain ⟨x, r, g1, g2, g3⟩ := IH.1 rfl
          simp only at g1 g2 g3
          rw [emp_l] at g1 g2 g3
          by_cases k5 : c = 40
          · have hs : s.shut = false := by
              cases e : s.shut with
              | true => exact absurd (.inl ⟨k5, e⟩) k3
              | false => rfl
            rw [if_pos k5] at g3
            have etop : NSt.top ⟨s.ended, if c = 40 then some s.name :: s.stk else s.stk, "", false⟩ = some s.name := by
              unfold NSt.top
              simp only
              rw [if_pos k5]
              rfl
            rw [etop] at g1
            refine ⟨fun _ => ⟨"", (x, some s.name) :: r, ?_, ?_, ?_⟩, fun e => by rw [hs] at e; cases e⟩
            · rw [g1, ended_open hs, emp_r, List.append_assoc]; rfl
            · rw [emp_r]; exact isNew_iff.mp (hn.resolve_left (by rw [hs]; simp))
            · rw [emp_r, tl_emp, List.nil_append]
              simp only [emitF]
              rw [if_pos ⟨by simp, trivial⟩, g3, k5]
          · have k6 : c = 44 := ok.1.resolve_left k5
            rw [if_neg k5] at g3
            have etop : NSt.top ⟨s.ended, if c = 40 then some s.name :: s.stk else s.stk, "", false⟩ = s.top := by
              unfold NSt.top
              simp only
              rw [if_neg k5]
            rw [etop] at g1
            obtain ⟨o, l, hl⟩ : ∃ o l, s.stk = o :: l := by
              cases e : s.stk with
              | nil => have := h.bot; rw [e] at this; cases this
              | cons o l => exact ⟨o, l, rfl⟩
            have ht : s.top = o := by unfold NSt.top; rw [hl]; rfl
            have ecomma : ∀ n : Option Str, n = none ∨ n ∉ s.stk → emitF n s.stk ((x, s.top) :: r) = 44 :: (TL.tl x ++ emitF (some x) s.stk r) := fun n hnn => by
              have c1 : ¬ (n ≠ none ∧ s.top = n) := fun ⟨h1, h2⟩ => hnn.elim h1 fun h => h (by rw [← h2, ht, hl]; exact List.mem_cons_self)
              simp only [emitF]
              rw [if_neg c1, ht, hl]
              simp [popN, popS]
            refine ⟨fun hs => ⟨"", (x, s.top) :: r, ?_, ?_, ?_⟩, fun hs => ⟨(x, s.top) :: r, ?_, fun p hp => ?_, ?_⟩⟩
            · rw [g1, ended_open hs, emp_r, List.append_assoc]; rfl
            · rw [emp_r]; exact isNew_iff.mp (hn.resolve_left (by rw [hs]; simp))
            · rw [emp_r, tl_emp, List.nil_append, ecomma _ (.inr (nn hs)), g3, k6]
            · rw [g1, ended_shut hs]
            · cases hp
              show s.top ∈ s.stk
              rw [ht, hl]
              exact List.mem_cons_self
            · rw [ecomma _ (.inl rfl), g3, k6]
    · cases e
/-- two texts that tell the same are the same -/
theorem same_text {T T' : List Nat} {s s' : NSt} (e : runF st0 T = some s) (e' : runF st0 T' = some s') (h1 : s.stk.length = 1) (h1' : s'.stk.length = 1) (h2 : s.shut = true ∨ s.isNew = true) (h2' : s'.shut = true ∨ s'.isNew = true) (h : s.ended = s'.ended) : T = T' := by
  obtain ⟨x, r, g1, _, g3⟩ := (tells_run ni0 e h1 h2).1 rfl
  obtain ⟨x', r', g1', _, g3'⟩ := (tells_run ni0 e' h1' h2').1 rfl
  rw [h, g1'] at g1
  simp only [st0, emp_l, List.nil_append] at g1 g3 g3'
  injection g1 with a b
  injection a with a _
  rw [g3, g3', a, b]
end DL
set_option Elab.async false
set_option linter.all false
set_option maxRecDepth 100000
/-! DL72: a tree's text is gone through to its end; what is told stands in the tree's order. -/
namespace DL
open PySem PySem.Spec PyProof.Rows L2
theorem runF_app : ∀ {T T' : List Nat} {s s' : NSt}, runF s T = some s' → runF s (T ++ T') = runF s' T'
  | [], T', s, s', e => by cases e; rfl
  | c :: T, T', s, s', e => by
    rw [List.cons_append]
    rw [runF] at e ⊢
    split at e
    · rename_i ok
      rw [if_pos ok]
      exact runF_app e
    · cases e
theorem no40 : (40 : Nat) ∉ letters.cps.toList := by decide +kernel
theorem no41 : (41 : Nat) ∉ letters.cps.toList := by decide +kernel
theorem no44 : (44 : Nat) ∉ letters.cps.toList := by decide +kernel
structure Done (s : NSt) (K : Stk) (G : Prs) : Prop where
  stk : s.stk = K
  rdy : s.shut = true ∨ s.isNew = true
  ends : s.ended = G
theorem rdy_no {s : NSt} (h : s.shut = true ∨ s.isNew = true) : ¬ (s.shut = false ∧ s.isNew = false) := fun ⟨h1, h2⟩ => h.elim (fun k => by rw [h1] at k; cases k) fun k => by rw [h2] at k; cases k
theorem take_comma {s : NSt} {K : Stk} {G : Prs} (d : Done s K G) (h : G.length < 8) : takeF s 44 = (true, ⟨G, K, "", false⟩) := by
  unfold takeF
  rw [if_neg no44, if_neg (rdy_no d.rdy), if_neg (by rintro (⟨h, _⟩ | ⟨h, _⟩) <;> cases h), if_neg (by decide), d.ends, d.stk]
  simp [h]
theorem take_open {s : NSt} (hs : s.shut = false) (hn : s.isNew = true) (h : s.found.length + 1 < 8) : takeF s 40 = (true, ⟨s.found ++ [(s.name, s.top)], some s.name :: s.stk, "", false⟩) := by
  unfold takeF
  rw [if_neg no40, if_neg (rdy_no (.inr hn)), if_neg (by rintro (⟨_, h⟩ | ⟨h, _⟩); (rw [hs] at h; cases h); cases h), if_neg (by decide), ended_open hs]
  simp [h]
theorem take_shut {s : NSt} {o : Option Str} {K : Stk} {G : Prs} (d : Done s (o :: K) G) (h : K ≠ []) : takeF s 41 = (true, ⟨G, K, s.name, true⟩) := by
  unfold takeF
  rw [if_neg no41, if_neg (rdy_no d.rdy), if_neg (by
    rintro (⟨h, _⟩ | ⟨_, h1⟩)
    · cases h
    · rw [d.stk, List.length_cons] at h1
      exact h (List.length_eq_zero_iff.mp (by omega))), if_pos rfl, d.ends, d.stk]
  rfl
theorem run_cons {s s' : NSt} {c : Nat} {T : List Nat} (h : takeF s c = (true, s')) : runF s (c :: T) = runF s' T := by
  unfold runF
  rw [h, if_pos rfl]
  cases T <;> rfl
theorem run_letters : ∀ (x : List Nat) {F : Prs} {K : Stk} {w : Str}, (∀ c ∈ x, c ∈ letters.cps.toList) → w.length + x.length ≤ 8 → (w ++ (⟨x.toArray⟩ : Str) ∉ namesOf F) → runF ⟨F, K, w, false⟩ x = some ⟨F, K, w ++ ⟨x.toArray⟩, false⟩
  | [], F, K, w, _, _, _ => by
    show some _ = some _
    rw [show w ++ (⟨([] : List Nat).toArray⟩ : Str) = w from emp_r w]
  | c :: x, F, K, w, hl, h8, hn => by
    have e : w ++ (⟨(c :: x).toArray⟩ : Str) = (w ++ chr c) ++ (⟨x.toArray⟩ : Str) := tl_inj (by simp only [TL.tl_append, tl_chr, TL.tl_mk, List.append_assoc, List.cons_append, List.nil_append])
    have el : (w ++ chr c).length = w.length + 1 := len_app w (chr c)
    rw [List.length_cons] at h8
    have hg : growB ⟨F, K, w, false⟩ c = true := by
      unfold growB
      rw [if_neg (by simp only [el]; simp; omega)]
      rcases Nat.lt_or_ge (w.length + 1) 8 with k | k
      · rw [decide_eq_true (by simp only [el]; exact k)]
        rfl
      · have hx : x = [] := List.length_eq_zero_iff.mp (by omega)
        subst hx
        rw [e, show (w ++ chr c) ++ (⟨([] : List Nat).toArray⟩ : Str) = w ++ chr c from emp_r _] at hn
        simp [hn]
    have ht : takeF ⟨F, K, w, false⟩ c = (true, ⟨F, K, w ++ chr c, false⟩) := by
      unfold takeF
      rw [if_pos (hl c List.mem_cons_self), hg]
    rw [run_cons ht, run_letters x (fun d hd => hl d (List.mem_cons_of_mem _ hd)) (by rw [el]; omega) (by rw [← e]; exact hn), e]
theorem run_name {F : Prs} {K : Stk} {c : Str} (hc : nameB c = true) (hn : c ∉ namesOf F) : runF ⟨F, K, "", false⟩ (TL.tl c) = some ⟨F, K, c, false⟩ ∧ NSt.isNew ⟨F, K, c, false⟩ = true := by
  obtain ⟨h1, h8, hl⟩ := nameB_iff.mp hc
  have e : (⟨(TL.tl c).toArray⟩ : Str) = c := tl_inj rfl
  refine ⟨?_, isNew_iff.mpr ⟨fun e => ?_, hn⟩⟩
  · rw [run_letters (TL.tl c) hl (by rw [tl_len]; show 0 + _ ≤ 8; omega) (by rw [emp_l, e]; exact hn), emp_l, e]
  · have e' : c = "" := e
    rw [e'] at h1
    exact absurd h1 (by decide)
def blkS (ps : Prs) (cs : List Str) : List Str := cs.flatMap fun c => c :: ord ps (some c)
theorem txt_ne {ps : Prs} (t : Tr ps) {o : Option Str} (h : kidsOf ps o ≠ []) : txt ps o ≠ "" := by
  intro e
  rw [txt_eq t] at e
  cases hk : kidsOf ps o with
  | nil => exact h hk
  | cons c cs =>
    have hc : c ∈ kidsOf ps o := by rw [hk]; exact List.mem_cons_self
    have h1 := (nameB_iff.mp (t.name (kids_names hc))).1
    rw [hk] at e
    have e2 := congrArg (fun x => (TL.tl x).length) e
    simp only [TL.join_eq, TL.tl_join, tl_emp, List.length_nil, List.map_cons] at e2
    have hy : (TL.tl (word c (txt ps (some c)))).length ≥ 1 := by
      unfold word
      rw [TL.tl_append, List.length_append, tl_len]
      omega
    generalize TL.tl (word c (txt ps (some c))) = y at e2 hy
    cases cs with
    | nil => (simp only [TL.joinL, List.map_nil] at e2; omega)
    | cons d ds => (simp only [TL.joinL, List.map_cons, List.length_append] at e2; omega)
theorem txt_no {ps : Prs} (t : Tr ps) {o : Option Str} (h : kidsOf ps o = []) : txt ps o = "" := txtF_none _ h
theorem tl_word (c inner : Str) : TL.tl (word c inner) = TL.tl c ++ (if inner = "" then [] else 40 :: (TL.tl inner ++ [41])) := by
  unfold word
  rw [TL.tl_append]
  congr 1
  split
  · rfl
  · rw [TL.tl_append, TL.tl_append]
    rfl
theorem run_kids {ps : Prs} (t : Tr ps) : ∀ (n : Nat) (o : Option Str), rk ps o ≤ n → ∀ (cs : List Str) (F : Prs) (K : Stk), cs ≠ [] → (∀ c ∈ cs, c ∈ kidsOf ps o) → (namesOf F ++ blkS ps cs).Nodup → F.length + (blkS ps cs).length ≤ 8 →
    ∃ s', runF ⟨F, o :: K, "", false⟩ (TL.joinL [44] (cs.map fun c => TL.tl (word c (txt ps (some c))))) = some s' ∧ Done s' (o :: K) (F ++ oprs ps (blkS ps cs))
  | 0, o, hr, cs, F, K, hne, hk, _, _ => by
    cases cs with
    | nil => exact absurd rfl hne
    | cons c cs =>
      have := rk_kid t (hk c List.mem_cons_self)
      omega
  | n + 1, o, hr, [], F, K, hne, _, _, _ => absurd rfl hne
  | n + 1, o, hr, c :: cs, F, K, _, hk, hd, h8 => by
    have hc := hk c List.mem_cons_self
    have hov := kid_over t hc
    have eb : blkS ps (c :: cs) = c :: (ord ps (some c) ++ blkS ps cs) := by unfold blkS; rw [List.flatMap_cons, List.cons_append]
    rw [eb] at hd h8
    rw [List.length_cons, List.length_append] at h8
    have hcF : c ∉ namesOf F := fun k => (List.nodup_append.mp hd).2.2 c k c List.mem_cons_self rfl
    obtain ⟨r1, r2⟩ := run_name (F := F) (K := o :: K) (t.name (kids_names hc)) hcF
    -- the word
    have hw : ∃ s1, runF ⟨F, o :: K, "", false⟩ (TL.tl (word c (txt ps (some c)))) = some s1 ∧ Done s1 (o :: K) (F ++ oprs ps (c :: ord ps (some c))) := by
      rw [tl_word]
      by_cases hkk : kidsOf ps (some c) = []
      · refine ⟨⟨F, o :: K, c, false⟩, ?_, rfl, .inr r2, ?_⟩
        · rw [txt_no t hkk, if_pos rfl, List.append_nil]
          exact r1
        · rw [ended_open rfl, ord_eq t, hkk]
          show F ++ [(c, o)] = F ++ [(c, overOf ps c)]
          rw [hov]
      · rw [if_neg (txt_ne t hkk), runF_app r1]
        have hlen : 1 ≤ (ord ps (some c)).length := by
          rw [ord_eq t]
          cases e : kidsOf ps (some c) with
          | nil => exact absurd e hkk
          | cons d ds => simp
        rw [run_cons (take_open rfl r2 (by show F.length + 1 < 8; omega))]
        have eo : blkS ps (kidsOf ps (some c)) = ord ps (some c) := (ord_eq t (some c)).symm
        obtain ⟨s2, g1, g2⟩ := run_kids t n (some c) (by have := rk_kid t hc; omega) (kidsOf ps (some c)) (F ++ [(c, o)]) (o :: K) hkk (fun d h => h) (by
            rw [eo, namesOf_app]
            show ((namesOf F ++ [c]) ++ ord ps (some c)).Nodup
            rw [List.append_assoc]
            refine hd.sublist (List.Sublist.append_left ?_ _)
            show (c :: ord ps (some c)).Sublist _
            exact List.Sublist.cons_cons c (List.sublist_append_left _ _)) (by rw [eo, List.length_append]; simp; omega)
        have et : TL.tl (txt ps (some c)) = TL.joinL [44] ((kidsOf ps (some c)).map fun c => TL.tl (word c (txt ps (some c)))) := by
          rw [txt_eq t, TL.join_eq, TL.tl_join, List.map_map]
          rfl
        refine ⟨⟨(F ++ [(c, o)]) ++ oprs ps (ord ps (some c)), o :: K, s2.name, true⟩, ?_, rfl, .inl rfl, ?_⟩
        · rw [et]
          show runF ⟨F ++ [(c, o)], some c :: o :: K, "", false⟩ _ = _
          rw [runF_app g1, run_cons (take_shut g2 (by simp)), eo]
          rfl
        · rw [ended_shut rfl, List.append_assoc]
          show F ++ ((c, o) :: oprs ps (ord ps (some c))) = F ++ ((c, overOf ps c) :: oprs ps (ord ps (some c)))
          rw [hov]
    obtain ⟨s1, g1, g2⟩ := hw
    cases cs with
    | nil =>
      refine ⟨s1, g1, ?_⟩
      rw [eb, show blkS ps [] = [] from rfl, List.append_nil]
      exact g2
    | cons d ds =>
      have ej : TL.joinL [44] ((c :: d :: ds).map fun c => TL.tl (word c (txt ps (some c)))) = TL.tl (word c (txt ps (some c))) ++ (44 :: TL.joinL [44] ((d :: ds).map fun c => TL.tl (word c (txt ps (some c))))) := rfl
      have hl : (F ++ oprs ps (c :: ord ps (some c))).length = F.length + 1 + (ord ps (some c)).length := by
        rw [List.length_append, oprs, List.length_map, List.length_cons]
        omega
      have hb1 : 1 ≤ (blkS ps (d :: ds)).length := by unfold blkS; rw [List.flatMap_cons]; simp
      obtain ⟨s2, k1, k2⟩ := run_kids t (n + 1) o hr (d :: ds) (F ++ oprs ps (c :: ord ps (some c))) K (by simp) (fun x hx => hk x (List.mem_cons_of_mem _ hx)) (by
          rw [namesOf_app, names_oprs, List.append_assoc, List.cons_append]
          exact hd) (by rw [hl]; omega)
      refine ⟨s2, ?_, ?_⟩
      · rw [ej, runF_app g1, run_cons (take_comma g2 (by rw [hl]; omega))]
        exact k1
      · rw [eb, ← List.cons_append, oprs_app, ← List.append_assoc]
        exact k2
termination_by n _ _ cs => (n, cs.length)
/-- the text of a tree -/
theorem run_txt {ps : Prs} (t : Tr ps) (h : ps ≠ []) : ∃ s', runF st0 (TL.tl (txt ps none)) = some s' ∧ Done s' [none] (opr ps) := by
  have hk : kidsOf ps none ≠ [] := by
    cases ps with
    | nil => exact absurd rfl h
    | cons p r =>
      have : p.2 = none := by
        cases e : p.2 with
        | none => rfl
        | some c => have := t.ok.1.ov c e; cases this
      intro e
      have hm : p.1 ∈ kidsOf (p :: r) none := mem_kids.mpr (by rw [← this]; exact List.mem_cons_self)
      rw [e] at hm
      cases hm
  have eo : blkS ps (kidsOf ps none) = ord ps none := (ord_eq t none).symm
  obtain ⟨s', g1, g2⟩ := run_kids t ps.length none (rk_le _) (kidsOf ps none) [] [] hk (fun c h => h) (by rw [eo]; exact ord_nodup t none) (by
    rw [eo]
    have := ord_len t none
    have := t.len
    show 0 + _ ≤ 8
    omega)
  refine ⟨s', ?_, ?_⟩
  · rw [txt_eq t, TL.join_eq, TL.tl_join, List.map_map]
    exact g1
  · rw [eo, List.nil_append] at g2
    exact g2
end DL
set_option Elab.async false
set_option linter.all false
set_option maxRecDepth 100000
/-! DL73: what is gone through stands in the tree's order; so a text that is read is the text of what is read. -/
namespace DL
open PySem PySem.Spec PyProof.Rows L2
section
variable {F : Prs} {n : Str} {o : Option Str}
theorem kids_snoc (b : Option Str) : kidsOf (F ++ [(n, o)]) b = kidsOf F b ++ (if o = b then [n] else []) := kidsOf_snoc b
theorem ordF_far : ∀ (k : Nat) (b : Option Str), b ≠ o → (∀ c, o = some c → c ∉ ordF F k b) → ordF (F ++ [(n, o)]) k b = ordF F k b
  | 0, b, _, _ => rfl
  | k + 1, b, hb, h => by
    show (kidsOf (F ++ [(n, o)]) b).flatMap _ = (kidsOf F b).flatMap _
    rw [kids_snoc, if_neg (Ne.symm hb), List.append_nil]
    refine flatMap_congr' fun c hc => ?_
    have hin : ∀ d, d ∈ c :: ordF F k (some c) → d ∈ ordF F (k + 1) b := fun d hd => List.mem_flatMap.mpr ⟨c, hc, hd⟩
    rw [ordF_far k (some c) (fun e => h c e.symm (hin c List.mem_cons_self)) fun d e k2 => h d e (hin d (List.mem_cons_of_mem _ k2))]
theorem ord_far (t : Tr F) {b : Option Str} (hb : b ≠ o) (h : ∀ c, o = some c → c ∉ ord F b) : ord (F ++ [(n, o)]) b = ord F b := by
  have e : ordF F (F.length + 1) b = ord F b := ordF_more t (rk_le b) (Nat.le_succ _)
  show ordF (F ++ [(n, o)]) (F ++ [(n, o)]).length b = _
  rw [List.length_append, List.length_singleton, ordF_far (F.length + 1) b hb (fun c hc => by rw [e]; exact h c hc), e]
end
/-- one stands beneath the other as its last child, all the way down -/
def Chain (F : Prs) : Stk → Prop
  | [] => True
  | [_] => True
  | o :: b :: l => (∃ c, o = some c ∧ (kidsOf F b).getLast? = some c) ∧ Chain F (b :: l)
theorem chain_add {F : Prs} {n : Str} {o : Option Str} : ∀ {l : Stk}, (∀ b ∈ l.tail, b ≠ o) → Chain F l → Chain (F ++ [(n, o)]) l
  | [], _, _ => trivial
  | [_], _, _ => trivial
  | a :: b :: l, h, ⟨⟨c, h1, h2⟩, h3⟩ => ⟨⟨c, h1, by
      rw [kids_snoc, if_neg (Ne.symm (h b List.mem_cons_self)), List.append_nil]
      exact h2⟩, chain_add (fun x hx => h x (List.mem_cons_of_mem _ hx)) h3⟩
theorem chain_ord {F : Prs} {n : Str} {o : Option Str} (t : Tr F) (t' : Tr (F ++ [(n, o)])) : ∀ (l : Stk) (a : Option Str), (a :: l).Nodup → (o = a ∨ o ∉ a :: l) → Chain F (a :: l) → ord (F ++ [(n, o)]) a = ord F a ++ [n] → (o = a ∨ ∃ c, o = some c ∧ c ∈ ord F a) → ∀ b ∈ a :: l, ord (F ++ [(n, o)]) b = ord F b ++ [n]
  | [], a, _, _, _, ha, _ => fun b hb => by rw [List.mem_singleton.mp hb]; exact ha
  | b :: l, a, hn, ho, ⟨⟨c, e1, e2⟩, hch⟩, ha, hin => by
    have hn' := List.nodup_cons.mp hn
    have hob : b ≠ o := fun e => by
      rcases ho with k | k
      · exact hn'.1 (by rw [← k, ← e]; exact List.mem_cons_self)
      · exact k (by rw [← e]; exact List.mem_cons_of_mem _ List.mem_cons_self)
    obtain ⟨ini, ei⟩ : ∃ ini, kidsOf F b = ini ++ [c] := by
      have hne : kidsOf F b ≠ [] := fun e => by rw [e] at e2; cases e2
      refine ⟨(kidsOf F b).dropLast, ?_⟩
      have := List.dropLast_concat_getLast hne
      rw [List.getLast?_eq_some_getLast hne] at e2
      injection e2 with e2
      rw [e2] at this
      exact this.symm
    have hc : c ∈ kidsOf F b := by rw [ei]; simp
    have onb : ord F b = (ini.flatMap fun d => d :: ord F (some d)) ++ (c :: ord F (some c)) := by
      rw [ord_eq t b, ei, List.flatMap_append]
      simp
    have hoc : ∃ x, o = some x ∧ x ∈ c :: ord F (some c) := by
      rcases hin with k | ⟨x, k1, k2⟩
      · exact ⟨c, k.trans e1, List.mem_cons_self⟩
      · exact ⟨x, k1, List.mem_cons_of_mem _ (by rw [e1] at k2; exact k2)⟩
    obtain ⟨x, ex, hx⟩ := hoc
    have hdis : ∀ d ∈ ini, x ∉ d :: ord F (some d) := fun d hd k => by
      have nd := ord_nodup t b
      rw [onb] at nd
      exact (List.nodup_append.mp nd).2.2 x (List.mem_flatMap.mpr ⟨d, hd, k⟩) x hx rfl
    have hb : ord (F ++ [(n, o)]) b = ord F b ++ [n] := by
      rw [ord_eq t' b, kids_snoc, if_neg (Ne.symm hob), List.append_nil, ei, List.flatMap_append, onb]
      have h1 : ini.flatMap (fun d => d :: ord (F ++ [(n, o)]) (some d)) = ini.flatMap fun d => d :: ord F (some d) := flatMap_congr' fun d hd => by
        rw [ord_far t (fun e => hdis d hd (by rw [ex] at e; injection e with e; rw [e]; exact List.mem_cons_self)) fun y ey k => hdis d hd (by rw [ex] at ey; injection ey with ey; rw [ey]; exact List.mem_cons_of_mem _ k)]
      rw [h1]
      rw [e1] at ha
      simp [ha]
    have key := chain_ord t t' l b hn'.2 (.inr fun k => by
      rcases ho with h | h
      · exact hn'.1 (h ▸ k)
      · exact h (List.mem_cons_of_mem _ k)) hch hb (.inr ⟨x, ex, by rw [onb]; exact List.mem_append_right _ hx⟩)
    intro y hy
    rcases List.mem_cons.mp hy with k | k
    · rw [k]; exact ha
    · exact key y k
theorem ord_top {F : Prs} {n : Str} {o : Option Str} (t : Tr F) (t' : Tr (F ++ [(n, o)])) (hn : n ∉ namesOf F) (ho : inT F o) : ord (F ++ [(n, o)]) o = ord F o ++ [n] := by
  have hon : o ≠ some n := fun e => hn (ho n e)
  rw [ord_eq t' o, kids_snoc, if_pos rfl, List.flatMap_append, ord_eq t o]
  congr 1
  · refine flatMap_congr' fun c hc => ?_
    have hr := rk_kid t hc
    rw [ord_far t (fun e => by rw [e] at hr; omega) fun d ed k => by
      have := rk_ord t (n := F.length) k
      rw [ed] at hr
      omega]
  · have : ord (F ++ [(n, o)]) (some n) = [] := by
      rw [ord_eq t', kids_snoc, if_neg hon, List.append_nil, kids_out t hn]
      rfl
    simp [this]
/-- the order of what is told -/
structure PI (s : NSt) : Prop where
  ord_ : ord s.found none = namesOf s.found
  ch : Chain s.found s.stk
theorem NI.trF {s : NSt} (h : NI s) : Tr s.found := ⟨h.few, h.tr⟩
theorem PI.ended {s : NSt} (h : NI s) (p : PI s) (hn : s.shut = true ∨ s.isNew = true) : ord s.ended none = namesOf s.ended ∧ Chain s.ended s.stk ∧ (s.shut = false → Chain s.ended (some s.name :: s.stk)) := by
  cases hs : s.shut with
  | true => rw [ended_shut hs]; exact ⟨p.ord_, p.ch, fun e => by cases e⟩
  | false =>
    have hn' := hn.resolve_left (by rw [hs]; simp)
    have t' := h.ended_tr hn
    rw [ended_open hs] at t' ⊢
    have hnm := (isNew_iff.mp hn').2
    obtain ⟨o, l, hl⟩ : ∃ o l, s.stk = o :: l := by
      cases e : s.stk with
      | nil => have := h.bot; rw [e] at this; cases this
      | cons o l => exact ⟨o, l, rfl⟩
    have ht : s.top = o := by unfold NSt.top; rw [hl]; rfl
    have hnd : (o :: l).Nodup := hl ▸ h.snd
    have hch : Chain s.found (o :: l) := hl ▸ p.ch
    have hot : inT s.found o := fun c e => h.sin c (by rw [hl, e]; exact List.mem_cons_self)
    rw [ht] at t' ⊢
    have htop := ord_top h.trF t' hnm hot
    have hbot : none ∈ o :: l := by
      have := h.bot
      rw [hl] at this
      exact List.mem_of_getLast? this
    have ch1 : Chain (s.found ++ [(s.name, o)]) (o :: l) := chain_add (fun b hb e => (List.nodup_cons.mp hnd).1 (e ▸ hb)) hch
    refine ⟨?_, hl ▸ ch1, fun _ => ?_⟩
    · rw [chain_ord h.trF t' l o hnd (.inl rfl) hch htop (.inl rfl) none hbot, p.ord_, namesOf_app]
      rfl
    · rw [hl]
      refine ⟨⟨s.name, rfl, ?_⟩, ch1⟩
      rw [kids_snoc, if_pos rfl]
      simp
theorem chain_tail {F : Prs} : ∀ {l : Stk}, Chain F l → Chain F l.tail
  | [], _ => trivial
  | [_], _ => trivial
  | _ :: _ :: _, h => h.2
theorem PI.step {s : NSt} {c : Nat} (h : NI s) (p : PI s) (ok : (takeF s c).1 = true) : PI (takeF s c).2 := by
  unfold takeF at ok ⊢
  by_cases k1 : c ∈ letters.cps.toList
  · rw [if_pos k1]
    exact ⟨p.ord_, p.ch⟩
  rw [if_neg k1] at ok ⊢
  by_cases k2 : s.shut = false ∧ s.isNew = false
  · rw [if_pos k2] at ok; cases ok
  rw [if_neg k2] at ok ⊢
  have hn : s.shut = true ∨ s.isNew = true := by
    cases e : s.shut with
    | true => exact .inl rfl
    | false => exact .inr (by cases e2 : s.isNew with | true => rfl | false => exact absurd ⟨e, e2⟩ k2)
  obtain ⟨e1, e2, e3⟩ := p.ended h hn
  by_cases k3 : (c = 40 ∧ s.shut = true) ∨ (c = 41 ∧ s.stk.length = 1)
  · rw [if_pos k3] at ok; cases ok
  rw [if_neg k3] at ok ⊢
  by_cases k4 : c = 41
  · rw [if_pos k4]
    exact ⟨e1, chain_tail e2⟩
  · rw [if_neg k4]
    refine ⟨e1, ?_⟩
    show Chain s.ended (if c = 40 then some s.name :: s.stk else s.stk)
    split
    · rename_i k5
      refine e3 ?_
      cases e : s.shut with
      | true => exact absurd (.inl ⟨k5, e⟩) k3
      | false => rfl
    · exact e2
theorem PI.run : ∀ {T : List Nat} {s s' : NSt}, NI s → PI s → runF s T = some s' → PI s'
  | [], s, s', h, p, e => by cases e; exact p
  | c :: T, s, s', h, p, e => by
    rw [runF] at e
    split at e
    · rename_i ok
      exact PI.run (T := T) (h.step ok) (p.step h ok) e
    · cases e
theorem pi0 : PI st0 := ⟨rfl, trivial⟩
theorem opr_self {G : Prs} (t : Tr G) (h : ord G none = namesOf G) : opr G = G := by
  unfold opr
  rw [h]
  apply List.ext_getElem?
  intro i
  unfold oprs namesOf
  rw [List.map_map, List.getElem?_map]
  cases e : G[i]? with
  | none => rfl
  | some p =>
    have hm := List.mem_of_getElem? e
    have := overOf_mem t.nodup (show (p.1, p.2) ∈ G from hm)
    show some (p.1, overOf G p.1) = some p
    rw [this]
/-- what is read of a text, the text is its text -/
theorem read_txt {T : List Nat} {s : NSt} (e : runF st0 T = some s) (h1 : s.stk.length = 1) (h2 : s.shut = true ∨ s.isNew = true) : Tr s.ended ∧ opr s.ended = s.ended ∧ TL.tl (txt s.ended none) = T := by
  have hI := ni0.run e
  have hP := pi0.run ni0 e
  have t := hI.ended_tr h2
  have ho := opr_self t (hP.ended hI h2).1
  refine ⟨t, ho, ?_⟩
  have hne : s.ended ≠ [] := by
    obtain ⟨x, r, g1, _, _⟩ := (tells_run ni0 e h1 h2).1 rfl
    rw [g1]
    simp
  obtain ⟨s', k1, k2⟩ := run_txt t hne
  exact same_text k1 e (by rw [k2.stk]; rfl) h1 k2.rdy h2 (by rw [k2.ends, ho])
end DL
set_option Elab.async false
set_option linter.all false
set_option maxRecDepth 100000
set_option maxHeartbeats 2000000
/-! DL74: for i, c in enumerate(text); o.f += x; xs.pop(); a text in a text. -/
namespace DL
open PySem PySem.Spec PyProof.Rows L2
def ItEs (x : Str) : It :=
  ⟨fun j _ => j < x.cps.size, fun j H v H' => ∃ T c, v = .ref T ∧ H T = none ∧ H' = upd H T (.tup [.int (j : Nat), .str ⟨#[c]⟩]) ∧ x.cps[j]? = some c, fun j _ => x.cps.size ≤ j⟩
theorem turn_es {P : Program} {w : World} {K : PySem.W.Frag} {elts : List Expr} {kk : Nat} {tpos : Pos} (x : Str) (t : Tok) (e it : Addr) :
    Turn P w K (.Tuple elts kk tpos) (ItEs x) [e, it] e (fun j h => (∃ old, IsEnum h e it ((j : Nat) : Int) old) ∧ h.IsStrIter it (strIterType x) x t j ∧ e ≠ it ∧ j ≤ x.cps.size) := by
  refine ⟨by simp, fun j h st b hb => ?_, fun j h h' st k => ?_, ?_, ?_, fun A j s Q E st h => ?_⟩
  · obtain ⟨⟨old, he⟩, ⟨o, ho, _, hd⟩, _⟩ := st
    rcases List.mem_cons.mp hb with z | z
    · exact ⟨_, (by rw [z]; exact he), fun v q => by cases q⟩
    · rw [List.mem_singleton.mp z]
      exact ⟨o, ho, fun v q => by rw [hd] at q; cases q⟩
  · obtain ⟨⟨old, he⟩, ⟨o, ho, r⟩, ne, lj⟩ := st
    exact ⟨⟨old, k e (by simp) _ he⟩, ⟨o, k it (by simp) o ho, r⟩, ne, lj⟩
  · intro X hP hw hK hc j pins s σ H E I hf st hg
    subst hP hw hK
    obtain ⟨⟨old, he⟩, hit, ne, lj⟩ := st
    have lt1 : e < s.heap.objs.size := Heap.lt_size he
    have lt2 : it < s.heap.objs.size := by
      obtain ⟨_, q, _⟩ := hit
      exact Heap.lt_size q
    have D := Draws.text (prog := X.prog) (w := X.w) (A := X.A.in1) (show X.A.in1.handled = none from I.ok.hd hc) it x t
    refine wpAny_pyNext_enum_itemC D he hit hg ne (by simpa using ne) fun u h1 tk hu out hit1 hT hsz hk => ?_
    obtain ⟨c, tt, hc1, rfl⟩ := hu
    refine ⟨_, rfl, wpAny_letOwnedTupleGo_enum (s := { s with heap := h1, toks := tk + 1 }) out fun h2 he2 sb => ?_⟩
    have tup2 : h2.get? s.heap.objs.size = some { cls := .type "tuple", data := .seq #[.int (j : Nat) tk, .str ⟨#[c]⟩ tt] } := (sb.2 _ (Nat.ne_of_gt lt1)).trans hT
    have good : ObjOk X.prog X.w (upd H s.heap.objs.size (.tup [.int (j : Nat), .str ⟨#[c]⟩])) h2 s.heap.objs.size (.tup [.int (j : Nat), .str ⟨#[c]⟩]) :=
      ⟨by show 2 ≤ sizeLine; decide, [.int (j : Nat) tk, .str ⟨#[c]⟩ tt], .cons ⟨_, rfl⟩ (.cons ⟨_, rfl⟩ .nil), ⟨_, tup2, rfl, _, rfl⟩⟩
    have J : Inv X pins σ (upd H s.heap.objs.size (.tup [.int (j : Nat), .str ⟨#[c]⟩])) { s with heap := h2, toks := tk + 1 } :=
      I.turnedNew (ch := [e, it]) (fun b ob hb q => by
        simp only [List.mem_cons, List.not_mem_nil, or_false, not_or] at hb
        exact (sb.2 b hb.1).trans (hk b ob hb.1 hb.2 q)) hf (Nat.le_refl _) good
    refine ⟨V.ref s.heap.objs.size, _, J, rfl, ⟨_, c, rfl, I.hok.fresh (Nat.le_refl _), rfl, hc1⟩, ⟨⟨Value.str ⟨#[c]⟩ tt, ?_⟩, ?_, ne, hg⟩, fun b hb => ?_⟩
    · have e1 : ((j + 1 : Nat) : Int) = (j : Int) + 1 := by omega
      rw [e1]
      exact he2
    · obtain ⟨o, ho, r⟩ := hit1
      exact ⟨o, (sb.2 it (Ne.symm ne)).trans ho, r⟩
    · have lb : b < s.heap.objs.size := by
        rcases List.mem_cons.mp hb with z | z
        · rw [z]; exact lt1
        · rw [List.mem_singleton.mp z]; exact lt2
      rw [upd_ne (Nat.ne_of_lt lb)]
      exact (hf b hb).1
  · intro X hP hw hK hc j pins s σ H E I hf st hg
    subst hP hw hK
    obtain ⟨⟨old, he⟩, hit, ne, lj⟩ := st
    obtain ⟨f0, f1, f2, f3, f4, f5⟩ := hf it (by simp)
    have D := Draws.text (prog := X.prog) (w := X.w) (A := X.A.in1) (show X.A.in1.handled = none from I.ok.hd hc) it x t
    have ej : j = x.cps.size := Nat.le_antisymm lj hg
    subst ej
    exact wpAny_pyNext_enum_endD D he hit fun h1 eb => ⟨rfl, I.turned (t' := s.toks) (fun b o hb q => eb b o hb q) f0 f1 f3 f4 f5⟩
  · obtain ⟨⟨old, he⟩, _⟩ := st
    exact wpAny_pyIter_enum he h
def iEnumS (ta : TA) : TI := fun σ H R => ta σ H fun vs H1 => ∃ x : Str, vs = [.str x] ∧ R (ItEs x) H1
theorem pi_enumS {X : Cx} {e : Expr} {ta : TA} {p pos tpos : Pos} {elts : List Expr} {kk : Nat} (hg : Gl X "enumerate") (hm : X.mg "enumerate" = none) (ha : PA X [e] ta) (hs : starEach [e] X.env = [(false, eval e X.env)] := by rfl) :
    L2.PI X (.Tuple elts kk tpos) (.Call (.Name "enumerate" p) [e] [] pos) (iEnumS ta) := by
  refine ⟨fun pins s σ H R I h => ?_⟩
  refine Call_ (ld_blt I hg hm boot_enumerate (PyProof.Rows.callWith_type1 (thn (ha.run pos pins s σ H _ I h) fun us s1 ⟨vs, H1, J, rv, x, ev, q⟩ => ?_) hs rfl))
  subst ev
  cases rv with
  | cons r rr =>
    cases rr
    obtain ⟨t, rfl⟩ := (show ∃ t, _ = Value.str x t from r)
    refine call_enumerate_str fun h1 he hit hsz hk => wpAny_pyIter_enum he ?_
    have J2 : Inv X pins σ H1 { s1 with heap := h1 } := J.kept (t' := s1.toks) hk
    refine ⟨s1.heap.objs.size + 1, [s1.heap.objs.size + 1, s1.heap.objs.size], _, _, H1, rfl, J2, turn_es x t (s1.heap.objs.size + 1) s1.heap.objs.size, ⟨⟨.none, he⟩, hit, Nat.succ_ne_self _, Nat.zero_le _⟩, fun b hb => ?_, q⟩
    have lb : s1.heap.objs.size ≤ b := by
      rcases List.mem_cons.mp hb with z | z
      · rw [z]; exact Nat.le_add_right _ _
      · rw [List.mem_singleton.mp z]; exact Nat.le_refl _
    exact J.fpOk lb (J.hok.fresh lb)
section
variable {W : Wd} {Z : Zn} {G F H : Hp} {ρ : Ro} {M : Mu} {tx : TA} {te ta tb : TE} {D2 : Ends2} {Q2 : DQ}
theorem ites_ok {z : Str} : ItOk W G (ItEs z) (enumD ((chrs z).map DV.s)) where
  go := fun i G' F M H' s R hi => by
    rw [enumD_len, List.length_map, chrs_len] at hi
    exact hi
  stop := fun i G' F M H' s R hi => by
    rw [enumD_len, List.length_map, chrs_len] at hi
    exact hi
  yld := fun i d G' F M H' x H'' s R hd y => by
    obtain ⟨T, c, rfl, hT, rfl, hc⟩ := y
    obtain ⟨e, he, rfl⟩ := enumD_get hd
    have he' : e = .s (chr c) := by
      rw [List.getElem?_map, chrs, List.getElem?_map, Array.getElem?_toList, hc] at he
      exact (Option.some.inj he).symm
    subst he'
    obtain ⟨s1, R1, x1⟩ := R.newT (ds := [.i (i : Nat), .s (chr c)]) (xs := [.int (i : Nat), .str ⟨#[c]⟩]) hT (datL_cons' dat_v' (datL_cons' dat_v' datL_nil'))
    exact ⟨_, s1, R1, x1⟩
theorem wi_enumS {R2 : List DV → Mu → Prop} (h : WA Z tx ρ M fun ds M1 => ∃ z : Str, ds = [.s z] ∧ R2 (enumD ((chrs z).map DV.s)) M1) : WI Z (iEnumS tx) ρ M R2 := fun G σ H R s Rp E r => by
  refine h G σ H _ s Rp E fun ds vs G1 M1 H1 s1 R1 x ⟨z, e, q⟩ => ?_
  subst e
  obtain ⟨y, ey, hy⟩ := one_of x
  subst ey
  rw [dat_v.mp hy]
  exact ⟨z, rfl, r _ _ G1 M1 H1 s1 R1 ites_ok q⟩
end
end DL
set_option Elab.async false
set_option linter.all false
set_option maxRecDepth 100000
/-! DL75: the cells of a Names; o.f += text; xs.pop(). -/
namespace DL
open PySem PySem.Spec PyProof.Rows L2
section
variable {W : Wd} {Z : Zn} {G F H : Hp} {ρ : Ro} {M : Mu} {ta tb : TE} {D2 : Ends2} {Q2 : DQ} {ds : List DV} {e : DV}
theorem k_sfldaug {X : Cx} {K : PySem.W.Frag} {o value : Expr} {ta tv : TE} {f : Str} {pos tpos : Pos} (eK : X.K = K) (ha : PE X o ta) (hv : PE X value tv) : PS X (.AugAssign (.Attribute o f tpos) .Add value pos) (sFldAug K ta tv rAddS f) := by subst eK; exact ps_fldaug ha hv in_addS
theorem ws_fldaugS {f : Str} (h : WE Z ta ρ M fun d M1 => ∃ a C ns ds z, d = .r a ∧ M1 a = some (.ins C ns ds) ∧ Cls Z.W.K C ∧ NoAttr Z.W.K C f ∧ (ns.zip ds).lookup f = some (.s z) ∧
    WE Z tb ρ M1 fun e M2 => ∃ y, e = .s y ∧ z.length + y.length ≤ sizeLine ∧ M2 a = some (.ins C ns ds) ∧ ns.length < 1000 ∧ D2.nx ρ (updM M2 a (.ins C (putN f ns) (putD f (.s (z ++ y)) ns ds)))) : WS Z (sFldAug Z.W.K ta tb rAddS f) D2 ρ M := fun G σ H D s R E k =>
  h G σ H _ s R E fun d vd G1 M1 H1 s1 R1 x q => by
    obtain ⟨a, C, ns, ds, z, rfl, hm, c, n, l, q⟩ := q
    obtain ⟨dx, xs, h1, h2, h3⟩ := (R1.mu a _ hm).2
    obtain ⟨v, l1, l2⟩ := zip_look h3 l
    refine ⟨a, C, dx, _, v, dat_v.mp x, h1, c, n, l1, ?_⟩
    refine q G1 σ H1 _ (s.trans s1) R1 (E.mono s1) fun e ve G2 M2 H2 s2 R2 y q2 => ?_
    obtain ⟨y', rfl, hz, hm2, hl, q3⟩ := q2
    obtain ⟨dx', xs', h1', h2', h3'⟩ := (R2.mu a _ hm2).2
    refine ⟨z, y', dat_v.mp l2, dat_v.mp y, hz, dx', _, h1', ?_, ?_⟩
    · rw [List.length_zip, h3'.length]; omega
    · obtain ⟨zs, z1, z2⟩ := put_dat (f := f) (e := .s (z ++ y')) h2' h3' dat_v'
      refine k.nx _ _ G2 _ _ (s1.trans s2) (R2.write (mo' := .ins C (putN f ns) (putD f (.s (z ++ y')) ns ds)) hm2 ⟨dx', zs, ?_, put_len h2', z2⟩) ((E.mono s1).mono s2) q3
      rw [upd_same, z1]
theorem datL_dropLast : ∀ {ds : List DV} {xs : List V}, DatL W G ds xs → DatL W G ds.dropLast xs.dropLast
  | [], xs, h => by rw [datL_nil.mp h]; exact datL_nil'
  | [d], xs, h => by
    obtain ⟨x, r, e1, h1, h2⟩ := datL_cons.mp h
    rw [datL_nil.mp h2] at e1
    subst e1
    exact datL_nil'
  | d :: e :: ds, xs, h => by
    obtain ⟨x, r, e1, h1, h2⟩ := datL_cons.mp h
    obtain ⟨y, r2, e2, h3, h4⟩ := datL_cons.mp h2
    subst e1
    subst e2
    exact datL_cons' h1 (datL_dropLast h2)
theorem wm_pop {a : Addr} (hm : M a = some (.lst ds)) (hl : ds[ds.length - 1]? = some e) (h : Q2 e (updM M a (.lst ds.dropLast))) : WM Z rPop (.r a) [] M Q2 := fun G H vx vs Q s R x xs r => by
  obtain ⟨ys, h2, h3⟩ := (R.mu a _ hm).2
  obtain ⟨y, g1, g2⟩ := h3.get hl
  refine ⟨a, ys, y, dat_v.mp x, datL_nil.mp xs, h2, by rw [h3.length]; exact g1, ?_⟩
  exact r _ _ G _ _ (Same.refl G) (R.write (mo' := .lst ds.dropLast) hm ⟨_, upd_same, datL_dropLast h3⟩) g2 h
end
/-! ### the cells -/
def seenOf (ps : Prs) : KVs := ps.map fun p => (.text p.1, .b true)
def stkD (k : Stk) : List DV := k.reverse.map optD
abbrev nNs : List Str := ["found", "seen", "way", "name", "shut"]
def nraw (M : Mu) (x f d w C : Addr) (F : List DV) (S : KVs) (k : List DV) (nm : Str) (b : Bool) : Mu :=
  fun y => if y = x then some (.ins C nNs [.r f, .r d, .r w, .s nm, .b b]) else if y = f then some (.lst F) else if y = d then some (dlM S) else if y = w then some (.lst k) else M y
structure Ap4 (x f d w : Addr) : Prop where
  fx : f ≠ x
  dx : d ≠ x
  wx : w ≠ x
  df : d ≠ f
  wf : w ≠ f
  wd : w ≠ d
section
variable {M : Mu} {x f d w C : Addr} {F F' : List DV} {S S' : KVs} {k k' : List DV} {nm nm' : Str} {b b' : Bool}
theorem nr_x : nraw M x f d w C F S k nm b x = some (.ins C nNs [.r f, .r d, .r w, .s nm, .b b]) := if_pos rfl
theorem nr_f (h : Ap4 x f d w) : nraw M x f d w C F S k nm b f = some (.lst F) := by unfold nraw; rw [if_neg h.fx, if_pos rfl]
theorem nr_d (h : Ap4 x f d w) : nraw M x f d w C F S k nm b d = some (dlM S) := by unfold nraw; rw [if_neg h.dx, if_neg h.df, if_pos rfl]
theorem nr_w (h : Ap4 x f d w) : nraw M x f d w C F S k nm b w = some (.lst k) := by unfold nraw; rw [if_neg h.wx, if_neg h.wf, if_neg h.wd, if_pos rfl]
theorem nr_ux : updM (nraw M x f d w C F S k nm b) x (.ins C nNs [.r f, .r d, .r w, .s nm', .b b']) = nraw M x f d w C F S k nm' b' := by
  funext y
  unfold updM nraw
  by_cases e : y = x
  · rw [if_pos e, if_pos e]
  · rw [if_neg e, if_neg e, if_neg e]
theorem nr_uf (h : Ap4 x f d w) : updM (nraw M x f d w C F S k nm b) f (.lst F') = nraw M x f d w C F' S k nm b := by
  funext y
  unfold updM nraw
  by_cases e : y = f
  · subst e; rw [if_pos rfl, if_neg h.fx, if_pos rfl]
  · rw [if_neg e, if_neg e, if_neg e]
theorem nr_ud (h : Ap4 x f d w) : updM (nraw M x f d w C F S k nm b) d (dlM S') = nraw M x f d w C F S' k nm b := by
  funext y
  unfold updM nraw
  by_cases e : y = d
  · subst e; rw [if_pos rfl, if_neg h.dx, if_neg h.df, if_pos rfl]
  · rw [if_neg e, if_neg e, if_neg e]
theorem nr_uw (h : Ap4 x f d w) : updM (nraw M x f d w C F S k nm b) w (.lst k') = nraw M x f d w C F S k' nm b := by
  funext y
  unfold updM nraw
  by_cases e : y = w
  · subst e; rw [if_pos rfl, if_neg h.wx, if_neg h.wf, if_neg h.wd, if_pos rfl]
  · rw [if_neg e, if_neg e, if_neg e]
theorem nr_new (h : Ap4 x f d w) : updM (updM (updM (updM M x (.ins C nNs [.r f, .r d, .r w, .s nm, .b b])) f (.lst F)) d (dlM S)) w (.lst k) = nraw M x f d w C F S k nm b := by
  funext y
  by_cases e4 : y = x
  · subst e4; rw [updM_ne (Ne.symm h.wx), updM_ne (Ne.symm h.dx), updM_ne (Ne.symm h.fx), updM_same, nr_x]
  · by_cases e3 : y = f
    · subst e3; rw [updM_ne (Ne.symm h.wf), updM_ne (Ne.symm h.df), updM_same, nr_f h]
    · by_cases e2 : y = d
      · subst e2; rw [updM_ne (Ne.symm h.wd), updM_same, nr_d h]
      · by_cases e1 : y = w
        · subst e1; rw [updM_same, nr_w h]
        · rw [updM_ne e1, updM_ne e2, updM_ne e3, updM_ne e4]
          unfold nraw
          rw [if_neg e4, if_neg e3, if_neg e2, if_neg e1]
theorem nr_le (hx : M x = none) (hf : M f = none) (hd : M d = none) (hw : M w = none) : MLe (nraw M x f d w C F S k nm b) M := .of fun q => by
  unfold nraw
  by_cases e4 : q = x
  · subst e4; exact .inl hx
  · by_cases e3 : q = f
    · subst e3; exact .inl hf
    · by_cases e2 : q = d
      · subst e2; exact .inl hd
      · by_cases e1 : q = w
        · subst e1; exact .inl hw
        · right; rw [if_neg e4, if_neg e3, if_neg e2, if_neg e1]
end
def nst (M : Mu) (x f d w C : Addr) (s : NSt) : Mu := nraw M x f d w C (pairsD s.found) (seenOf s.found) (stkD s.stk) s.name s.shut
theorem seen_is (c : Str) : ∀ (ps : Prs), (valL (seenOf ps) (.text c)).isSome = decide (c ∈ namesOf ps)
  | [] => rfl
  | p :: r => by
    by_cases e : p.1 = c
    · rw [show seenOf (p :: r) = (.text p.1, .b true) :: seenOf r from rfl, valL_pos (by rw [e])]
      rw [decide_eq_true (by rw [← e]; simp [namesOf])]
      rfl
    · rw [show seenOf (p :: r) = (.text p.1, .b true) :: seenOf r from rfl, valL_neg (fun k => e (by injection k)), seen_is c r]
      congr 1
      simp only [namesOf, List.map_cons, List.mem_cons, eq_iff_iff]
      exact ⟨.inr, fun h => h.resolve_left fun k => e k.symm⟩
theorem seen_put {ps : Prs} {p : Str × Option Str} (h : p.1 ∉ namesOf ps) : putL (seenOf ps) (.text p.1) (.b true) = seenOf (ps ++ [p]) := by
  have h0 := seen_is p.1 ps
  rw [decide_eq_false h] at h0
  rw [putL_new _ (by cases e : valL (seenOf ps) (.text p.1) with | none => rfl | some y => rw [e] at h0; cases h0)]
  simp [seenOf]
theorem stk_push {k : Stk} {o : Option Str} : stkD k ++ [optD o] = stkD (o :: k) := by simp [stkD]
theorem stk_len {k : Stk} : (stkD k).length = k.length := by simp [stkD]
theorem stk_top {k : Stk} (h : k ≠ []) : (stkD k)[(stkD k).length - 1]? = some (optD (k.headD none)) := by
  cases k with
  | nil => exact absurd rfl h
  | cons o l => simp [stkD]
theorem stk_pop {k : Stk} : (stkD k).dropLast = stkD k.tail := by
  cases k with
  | nil => rfl
  | cons o l => simp [stkD]
theorem pairs_snoc {ps : Prs} {c : Str} {o : Option Str} : pairsD ps ++ [.tup [.s c, optD o]] = pairsD (ps ++ [(c, o)]) := by simp [pairsD]
theorem NI.stk_ne {s : NSt} (h : NI s) : s.stk ≠ [] := fun e => by
  have := h.bot
  rw [e] at this
  cases this
theorem stk_at {k : Stk} (h : k ≠ []) : atI (stkD k) (-1) = some (optD (k.headD none)) := by
  have hl : 0 < k.length := List.length_pos_iff.mpr h
  have e : ixN (stkD k).length (-1) = some ((stkD k).length - 1) := by
    unfold ixN
    rw [if_neg (by decide), if_pos (by rw [stk_len]; omega)]
    congr 1
    rw [stk_len]
    omega
  unfold atI
  rw [e]
  exact stk_top h
theorem letters_lt : ∀ c ∈ letters.cps.toList, c < 0x110000 := by decide +kernel
theorem let_strOk {z : Str} (h : ∀ c ∈ TL.tl z, c ∈ letters.cps.toList) : PyData.strOk z = true := by
  unfold PyData.strOk
  rw [← Array.all_toList]
  exact List.all_eq_true.mpr fun c hc => decide_eq_true (letters_lt c (h c hc))
theorem nameB_ok {z : Str} (h : nameB z = true) : PyData.strOk z = true := let_strOk (nameB_iff.mp h).2.2
theorem plnPairs : ∀ {xs : Prs}, (∀ p ∈ xs, PyData.strOk p.1 = true ∧ ∀ d, p.2 = some d → PyData.strOk d = true) → plnL (pairsD xs) = true ∧ depL (pairsD xs) ≤ 1
  | [], _ => ⟨rfl, Nat.zero_le _⟩
  | p :: xs, h => by
    obtain ⟨h1, h2⟩ := h p List.mem_cons_self
    obtain ⟨h3, h4⟩ := plnPairs fun q hq => h q (List.mem_cons_of_mem _ hq)
    have e1 : (DV.tup [.s p.1, optD p.2]).pln = true ∧ (DV.tup [.s p.1, optD p.2]).dep ≤ 1 := by
      cases e : p.2 with
      | none => exact ⟨by simp [DV.pln, plnL, h1, optD], Nat.le_of_ble_eq_true rfl⟩
      | some d => exact ⟨by simp [DV.pln, plnL, h1, h2 d e, optD], Nat.le_of_ble_eq_true rfl⟩
    constructor
    · show ((DV.tup [.s p.1, optD p.2]).pln && plnL (pairsD xs)) = true
      rw [e1.1, h3]
      rfl
    · show max (DV.tup [.s p.1, optD p.2]).dep (depL (pairsD xs)) ≤ 1
      have := e1.2
      omega
theorem Tr.over_in {ps : Prs} (t : Tr ps) {x : Str × Option Str} (hx : x ∈ ps) {d : Str} (hd : x.2 = some d) : d ∈ namesOf ps := by
  obtain ⟨i, hi⟩ := List.mem_iff_getElem?.mp hx
  have := (t.pair hi).ov d hd
  unfold namesOf at this ⊢
  obtain ⟨y, hy, rfl⟩ := List.mem_map.mp this
  exact List.mem_map.mpr ⟨y, List.mem_of_mem_take hy, rfl⟩
theorem plnTr {ps : Prs} (t : Tr ps) : plnL (pairsD ps) = true ∧ depL (pairsD ps) ≤ 1 :=
  plnPairs fun p hp => ⟨nameB_ok (t.name (List.mem_map.mpr ⟨p, hp, rfl⟩)), fun d hd => nameB_ok (t.name (t.over_in hp hd))⟩
theorem Z_if {b : Bool} {p q : Prop} (h1 : b = true → p) (h2 : b = false → q) : if b = true then p else q := by
  cases b with
  | true => exact h1 rfl
  | false => exact h2 rfl
theorem wt_ev {Z : Zn} {ρ : Ro} {M : Mu} {tt : TT} {P : Bool → Mu → Prop} (b : Bool) (h : ∀ P : Bool → Mu → Prop, P b M → WT Z tt ρ M P) (q : P b M) : WT Z tt ρ M P := h P q
theorem chr_is {c k : Nat} {z : Str} (h : z = chr k) : decide (V.str (chr c) = V.str z) = decide (c = k) := by
  subst h
  by_cases e : c = k
  · rw [e, decide_eq_true rfl, decide_eq_true rfl]
  · rw [decide_eq_false e, decide_eq_false fun h => e (by injection h with h; have := congrArg TL.tl h; simpa [tl_chr] using this)]
theorem in_oc {c : Nat} {z : Str} (h : z = ⟨#[40, 44]⟩) : decide (c ∈ z.cps.toList) = decide (c = 40 ∨ c = 44) := by subst h; simp
theorem sfld_to {K : PySem.W.Frag} {M M' : Mu} {ds : List DV} {e : DV} {P : Mu → Prop} {a C : Addr} {ns : List Str} {f : Str} (h1 : M a = some (.ins C ns ds)) (h2 : Cls K C) (h3 : NoAttr K C f) (h4 : Nat.ble ns.length 100 = true) (e1 : updM M a (.ins C (putN f ns) (putD f e ns ds)) = M') (q : P M') :
    ∃ a' C ns ds, DV.r a = .r a' ∧ M a' = some (.ins C ns ds) ∧ Cls K C ∧ NoAttr K C f ∧ ns.length < 1000 ∧ P (updM M a' (.ins C (putN f ns) (putD f e ns ds))) := sfld_of h1 h2 h3 h4 (by rw [e1]; exact q)
theorem NI.stk_few {s : NSt} (h : NI s) : s.stk.length ≤ 9 := by
  have h1 : s.stk.length ≤ (none :: (namesOf s.found).map some).length := len_sub h.snd fun o ho => by
    cases o with
    | none => simp
    | some c => simp [h.sin c ho]
  have h2 := h.few
  simp only [List.length_cons, List.length_map, namesOf] at h1
  omega
/-! ### a text that is whole -/
theorem step_begun {s : NSt} {c : Nat} (h : s.shut = true → s.found ≠ []) (ok : (takeF s c).1 = true) : (takeF s c).2.found ≠ [] ∨ ((takeF s c).2.name ≠ "" ∧ (takeF s c).2.shut = false) := by
  have he : s.ended ≠ [] := by
    unfold NSt.ended
    split
    · rename_i e; exact h e
    · simp
  unfold takeF at ok ⊢
  by_cases h1 : c ∈ letters.cps.toList
  · rw [if_pos h1] at ok ⊢
    right
    simp only at ok ⊢
    refine ⟨fun e => ?_, ?_⟩
    · have := congrArg TL.tl e
      rw [TL.tl_append, tl_chr, tl_emp] at this
      simp at this
    · unfold growB at ok
      split at ok
      · cases ok
      · rename_i h2
        cases e : s.shut with
        | false => rfl
        | true => exact absurd (.inl e) h2
  · rw [if_neg h1] at ok ⊢
    split at ok
    · cases ok
    · rename_i h2
      rw [if_neg h2]
      split at ok
      · cases ok
      · rename_i h3
        rw [if_neg h3]
        split
        · exact .inl he
        · exact .inl he
theorem run_begun : ∀ {T : List Nat} {s s' : NSt}, (s.shut = true → s.found ≠ []) → runF s T = some s' → T ≠ [] → s'.found ≠ [] ∨ (s'.name ≠ "" ∧ s'.shut = false)
  | [], s, s', h, e, hT => absurd rfl hT
  | c :: T, s, s', h, e, _ => by
    unfold runF at e
    split at e
    · rename_i ok
      have h1 := step_begun h ok
      cases T with
      | nil =>
        simp only [runF] at e
        cases e
        exact h1
      | cons d T => exact run_begun (fun hs => h1.resolve_right fun k => by rw [k.2] at hs; cases hs) e (by simp)
    · cases e
theorem run_whole {T : List Nat} {s : NSt} (e : runF st0 T = some s) (hT : T ≠ []) (h : wholeB s = true) : s.stk.length = 1 ∧ (s.shut = true ∨ s.isNew = true) := by
  have hb := run_begun (s := st0) (fun h => by cases h) e hT
  unfold wholeB at h
  simp only [Bool.and_eq_true, Bool.or_eq_true, decide_eq_true_eq] at h
  refine ⟨h.1, ?_⟩
  rcases h.2 with h | ⟨h1, h2⟩
  · exact h
  · rcases hb with k | k
    · exact absurd h1 k
    · exact absurd h2 k.1
theorem whole_of {s : NSt} (h1 : s.stk.length = 1) (h2 : s.shut = true ∨ s.isNew = true) : wholeB s = true := by
  unfold wholeB
  rw [decide_eq_true h1, Bool.true_and]
  rcases h2 with h | h <;> simp [h]
theorem tl_nil {z : Str} : TL.tl z = [] ↔ z = "" := ⟨fun h => tl_inj (by rw [h, tl_emp]), fun h => by rw [h, tl_emp]⟩
theorem run_snoc {s s' : NSt} {T : List Nat} {c : Nat} (e : runF s T = some s') (ok : (takeF s' c).1 = true) : runF s (T ++ [c]) = some (takeF s' c).2 := by
  rw [runF_app e]
  unfold runF
  rw [if_pos ok]
  rfl
end DL
set_option Elab.async false
set_option linter.all false
set_option maxRecDepth 100000
/-! DL76: names, some the beginnings of others, apart by their last letters. -/
namespace DL
open PySem PySem.Spec PyProof.Rows L2
def lastS : List Nat := [107, 113, 120, 122, 106, 118, 119, 109]
def LN (b : List Str) : Prop := ∀ (k : Nat) z, b[k]? = some z → ∃ (w : List Nat) (x : Nat), w.length ≤ 7 ∧ (∀ c ∈ w, isL c) ∧ lastS[k]? = some x ∧ z = ⟨(w ++ [x]).toArray⟩
theorem LN.nil : LN [] := fun k z h => by simp at h
theorem lastS_is : ∀ x ∈ lastS, isL x := fun x hx => by
  simp only [lastS, List.mem_cons, List.not_mem_nil, or_false] at hx
  unfold isL
  omega
theorem lastS_nd : lastS.Nodup := by decide
theorem lastS_at : ("kqxzjvwm" : Str).cps.toList = lastS := by decide +kernel
theorem LN.snoc {b : List Str} {w : List Nat} {x : Nat} (h : LN b) (hw : w.length ≤ 7) (hl : ∀ c ∈ w, isL c) (hx : lastS[b.length]? = some x) : LN (b ++ [⟨(w ++ [x]).toArray⟩]) := fun k z e => by
  rcases Nat.lt_trichotomy k b.length with hk | hk | hk
  · rw [List.getElem?_append_left hk] at e
    exact h k z e
  · subst hk
    rw [List.getElem?_append_right (Nat.le_refl _), Nat.sub_self] at e
    cases e
    exact ⟨w, x, hw, hl, hx, rfl⟩
  · rw [List.getElem?_append_right (by omega)] at e
    rw [List.getElem?_eq_none (by simp; omega)] at e
    cases e
theorem LN.len {b : List Str} (h : LN b) : b.length ≤ 8 := by
  rcases Nat.lt_or_ge 8 b.length with k | k
  · obtain ⟨w, x, _, _, hx, _⟩ := h 8 _ (List.getElem?_eq_getElem k)
    cases hx
  · exact k
theorem LN.ok {b : List Str} (h : LN b) : Nms b where
  nm := fun z hz => by
    obtain ⟨k, hk⟩ := List.mem_iff_getElem?.mp hz
    obtain ⟨w, x, h1, h2, h3, rfl⟩ := h k z hk
    refine name_ok (by simp) (by simp; omega) fun c hc => ?_
    rcases List.mem_append.mp hc with k | k
    · exact h2 c k
    · rw [List.mem_singleton.mp k]
      exact lastS_is x (List.mem_of_getElem? h3)
  ok := fun z hz => by
    obtain ⟨k, hk⟩ := List.mem_iff_getElem?.mp hz
    obtain ⟨w, x, h1, h2, h3, rfl⟩ := h k z hk
    refine name_strOk fun c hc => ?_
    rcases List.mem_append.mp hc with k | k
    · exact h2 c k
    · rw [List.mem_singleton.mp k]
      exact lastS_is x (List.mem_of_getElem? h3)
  nd := by
    refine List.pairwise_iff_getElem.mpr fun i j hi hj hij e => ?_
    obtain ⟨w, x, _, _, h3, e1⟩ := h i _ (List.getElem?_eq_getElem (by omega))
    obtain ⟨w', x', _, _, h3', e1'⟩ := h j _ (List.getElem?_eq_getElem hj)
    rw [e1, e1'] at e
    have e2 : w ++ [x] = w' ++ [x'] := by
      have := congrArg TL.tl e
      exact this
    have e3 := List.append_inj_right' e2 rfl
    injection e3 with e3
    subst e3
    have h8 := h.len
    have := (List.getElem_inj lastS_nd).mp (((List.getElem?_eq_some_iff.mp h3).2).trans ((List.getElem?_eq_some_iff.mp h3').2).symm)
    omega
theorem LN.pick {b : List Str} {z : Str} (h : LN b) (hz : z ∈ b) : ∃ w : List Nat, w.length ≤ 8 ∧ (∀ c ∈ w, isL c) ∧ z = ⟨w.toArray⟩ := by
  obtain ⟨k, hk⟩ := List.mem_iff_getElem?.mp hz
  obtain ⟨w, x, h1, h2, h3, rfl⟩ := h k z hk
  refine ⟨w ++ [x], by simp; omega, fun c hc => ?_, rfl⟩
  rcases List.mem_append.mp hc with k | k
  · exact h2 c k
  · rw [List.mem_singleton.mp k]
    exact lastS_is x (List.mem_of_getElem? h3)
end DL
set_option Elab.async false
set_option linter.all false
set_option maxRecDepth 100000
/-! DL77: a tree's text and its reading, together. -/
namespace DL
open PySem PySem.Spec PyProof.Rows L2
section
variable {ps qs : Prs}
theorem opr_opr (t : Tr ps) : opr (opr ps) = opr ps := opr_self t.opr (by rw [ord_opr t none, names_opr])
theorem opr_nil : opr [] = [] := rfl
theorem txt_nil : txt [] none = "" := rfl
theorem txt_ne0 (t : Tr ps) (h : ps ≠ []) : txt ps none ≠ "" := fun e => by
  obtain ⟨s, e1, d⟩ := run_txt t h
  rw [e, tl_emp] at e1
  cases e1
  rcases d.rdy with k | k
  · cases k
  · exact (isNew_iff.mp k).1 rfl
theorem read_ok (t : Tr ps) {s : NSt} (e : runF st0 (TL.tl (txt ps none)) = some s) : (if txt ps none = "" then [] else s.ended) = opr ps := by
  by_cases h : ps = []
  · subst h
    rw [if_pos txt_nil, opr_nil]
  · rw [if_neg (txt_ne0 t h)]
    obtain ⟨s', e1, d⟩ := run_txt t h
    rw [e1] at e
    cases e
    exact d.ends
theorem read_good (t : Tr ps) : ∃ s, runF st0 (TL.tl (txt ps none)) = some s ∧ wholeB s = true := by
  by_cases h : ps = []
  · subst h
    exact ⟨st0, rfl, rfl⟩
  · obtain ⟨s', e1, d⟩ := run_txt t h
    exact ⟨s', e1, whole_of (by rw [d.stk]; rfl) d.rdy⟩
theorem read_noFail {T : List Nat} {s1 : NSt} (e1 : runF st0 T = some s1) (w1 : wholeB s1 = true) {i : Nat} {s : NSt} (e : runF st0 (T.take i) = some s) (h1 : i ≤ T.length) (h2 : i = T.length → wholeB s = false) (h3 : ∀ c, T[i]? = some c → (takeF s c).1 = false) : False := by
  have e2 := runF_app (T' := T.drop i) e
  rw [List.take_append_drop, e1] at e2
  rcases Nat.lt_or_ge i T.length with k | k
  · rw [List.drop_eq_getElem_cons k] at e2
    have h4 := h3 _ (List.getElem?_eq_getElem k)
    unfold runF at e2
    rw [if_neg (by rw [h4]; exact Bool.false_ne_true)] at e2
    cases e2
  · rw [List.drop_eq_nil_of_le k] at e2
    cases e2
    rw [h2 (by omega)] at w1
    cases w1
theorem txt_opr (t : Tr ps) : txt (opr ps) none = txt ps none := by
  by_cases h : ps = []
  · subst h; rfl
  · obtain ⟨s, e, d⟩ := run_txt t h
    have := (read_txt e (by rw [d.stk]; rfl) d.rdy).2.2
    rw [d.ends] at this
    exact tl_inj this
theorem txt_iff (t : Tr ps) (u : Tr qs) : txt qs none = txt ps none ↔ opr qs = opr ps := by
  constructor
  · intro h
    obtain ⟨s, e, _⟩ := read_good t
    have h1 := read_ok t e
    have h2 := read_ok u (s := s) (by rw [h]; exact e)
    rw [h] at h2
    exact h2.symm.trans h1
  · intro h
    rw [← txt_opr t, ← txt_opr u, h]
theorem teq_iff (t : Tr ps) (u : Tr qs) : Teq qs ps ↔ opr qs = opr ps := by
  constructor
  · rintro ⟨h1, h2⟩
    have e : ∀ zs : Prs, opr zs = (ord zs none).map fun c => (c, overOf zs c) := fun zs => rfl
    rw [e, e, h1]
    refine List.map_congr_left fun c hc => ?_
    rw [h2 c ((ord_mem u).mp (by rw [h1]; exact hc))]
  · exact teq_of t u
theorem teq_txt (t : Tr ps) (u : Tr qs) : decide (Teq qs ps) = decide (txt qs none = txt ps none) := by
  have h := (teq_iff t u).trans (txt_iff t u).symm
  by_cases k : Teq qs ps
  · rw [decide_eq_true k, decide_eq_true (h.mp k)]
  · rw [decide_eq_false k, decide_eq_false fun e => k (h.mpr e)]
theorem tr_strOk (t : Tr ps) : ∀ c ∈ namesOf ps, PyData.strOk c = true := fun c hc => nameB_ok (t.name hc)
end
end DL
set_option Elab.async false
set_option linter.all false
set_option maxRecDepth 100000
set_option maxHeartbeats 2000000
/-! DL78: try: .. except X as n: .. except Y: .., where the first clause takes what is raised. -/
namespace DL
open PySem PySem.Spec PyProof.Rows L2
/-- what the first clause wishes of an exception: it takes it -/
def wFst (K : PySem.W.Frag) (c : Value) (i : Nat) (ts : Addr → Value → Option Addr → TS) (D : Ends) : WX := fun cls d σ H => PySem.W.exmOne K cls c = some true ∧
  ∀ a, H a = none → ts a cls d ⟨fun σ' H' => D.nx (σ'.set i none) H', D.rt, fun σ' H' => D.bk (σ'.set i none) H', fun σ' H' => D.ct (σ'.set i none) H'⟩ (σ.set i (some (.ref a))) H
def tTryF (tb : WX → TS) (K : PySem.W.Frag) (c : Value) (i : Nat) (ts : Addr → Value → Option Addr → TS) : TS := fun D σ H => tb (wFst K c i ts D) D σ H
section
variable {X : Cx} {K : PySem.W.Frag} {x n : Str} {c : Value} {i : Nat} {bd su : List Stmt} {b0 : Stmt} {np po po' : Pos} {tb : WX → TS} {ts : Addr → Value → Option Addr → TS} {more : List ExceptHandler}
theorem ps_tryF (eK : X.K = K) (hs : X.stack = X.env :: X.outer) (hf : X.env.frame = some X.env.locals) (hN : X.N.Nodup) (hi : X.N[i]? = some n) (hln : X.env.kindOf n = some .local) (hc : Names X x c)
    (hb : ∀ (Wx : WX) (ps : List (Addr × PySem.Obj)) (xe : Value → Shared → Prop), Takes (X.tr ps xe) Wx → PassesOwn (model X.prog X.w) X.A X.env xe → PSs (X.tr ps xe) bd (tb Wx))
    (hsu : ∀ (a : Addr) (o : PySem.Obj) (cls : Value) (d : Option Addr) (ps : List (Addr × PySem.Obj)), Zc cls d o → (∃ vs, o.data = .fields vs) → PSs (X.suite a ((a, o) :: ps)) (b0 :: su) (ts a cls d)) :
    PS X (.Try bd (.ExceptHandler (some (.Name x np)) (some n) (b0 :: su) po' :: more) [] [] po) (tTryF tb K c i ts) := by
  subst eK
  refine ⟨fun pins t0 u G D V hread => ?_⟩
  have good := V.ok
  have framesAre : X.A.frames = some (X.env :: X.outer) := good.frames.trans (congrArg some hs)
  refine wpAny_Try_except ?_
  have body := hb (wFst X.K c i ts D) (X.pn ++ pins) (fun e t1 => wpAny (model X.prog X.w) X.A (noteFrame e X.env) (fun _ t2 => wpAny (model X.prog X.w) X.A (setFlight e none)
    (fun _ t3 => wpAny (model X.prog X.w) X.A (handleBy e X.env (.ExceptHandler (some (.Name x np)) (some n) (b0 :: su) po' :: more)) (SP X pins D) X.xe t3) X.xe t2) X.xe t1) ?down PassesOwn.looking
  case down =>
    intro v t1 hx
    obtain ⟨a, B, tI, pins', u', G', cls, d, rfl, V', nb, up, sky, free, os, bare, took, go⟩ := hx
    have V1 : Inv X pins u' G' tI := V'.ofTry good
    have sky2 : Sky B (X.env :: X.outer) a (Zc cls d) X.env.locals t1.heap := hs ▸ sky
    show wpAny (model X.prog X.w) X.A (noteFrame (.ref a) X.env) _ _ _; refine Sky.land Zc.steady framesAre hf sky2 fun g fly up1 => ?_
    have V2 : Inv X pins u' G' { t1 with heap := g } := V1.landed nb fly.1 (up.trans up1) os bare
    obtain ⟨o1, vs1, at1, z1, fd1⟩ := fly.there
    have apart : a ∉ frs (X.env :: X.outer) := fun hm => by
      obtain ⟨_, o', e', no⟩ := fly.2.2.1.mem hm
      cases at1.symm.trans e'
      exact no _ fd1
    have notLoc : a ≠ X.env.locals := fun e => apart (List.mem_filterMap.mpr ⟨X.env, by simp, by rw [hf, e]⟩)
    have notOut : a ∉ X.fs := fun hm => by
      obtain ⟨w', hw, e⟩ := List.mem_filterMap.mp hm
      exact apart (List.mem_filterMap.mpr ⟨w', by simp [hw], e⟩)
    have V3 := V2.suite at1 fd1 free notLoc notOut
    refine wpAny_handleBy_cons (codeAny_handlers_test ?_) (by intro q; cases q)
    have sees : PySem.W.Looks (model X.prog X.w) g (typeOf (.ref a)) cls := fun _ _ _ t k q => wpAny_typeOf_ref (k _ _ at1) (by rw [z1.1]; exact q)
    have named : ∀ {Q E : Value → Shared → Prop}, Q c { t1 with heap := g } → wpAny (model X.prog X.w) (X.A.mark (some (.ref a))) (eval (.Name x np) X.env) Q E { t1 with heap := g } := by
      intro Q E q
      rcases hc with ⟨k1, k2, k3 | ⟨k3, k4, k5⟩⟩
      · exact ld_glob (X := X.suite a ((a, o1) :: (X.pn ++ pins))) V3 k1 k3 q k2
      · exact ld_blt (X := X.suite a ((a, o1) :: (X.pn ++ pins))) V3 k1 k3 k4 q k5 k2
    refine named ((PySem.W.exm_one (M := model X.prog X.w) V2.kIn sees took).here ?_)
    refine codeAny_handlers_suite_as (HandSPX.lands_againZ fly fun g2 fly2 up2 => ?_)
    have V4 : Inv X pins u' G' { t1 with heap := g2 } := V1.landed nb fly2.1 ((up.trans up1).trans up2) os bare
    obtain ⟨o2, vs2, at2, z2, fd2⟩ := fly2.there
    refine store_ok (X := X.suite a ((a, o2) :: (X.pn ++ pins))) (v := .ref a) (V4.suite at2 fd2 free notLoc notOut) hN hi (.inl hln) rfl (fun t5 V5 => ?_) (.inr hln)
    have suite := (hsu a o2 cls d (X.pn ++ pins) z2 ⟨_, fd2⟩).run [] t5 _ G' _ V5 (go a free)
    refine wpAny_mono suite (fun f t6 out => ?_) (fun _ _ no => no.elim)
    have over : ∀ {u6 : L2.St} {G6 : Hp} {Q : Shared → Prop}, Inv (X.suite a ((a, o2) :: (X.pn ++ pins))) [] u6 G6 t6 → (∀ t7, Inv X pins (u6.set i none) G6 t7 → Q t7) →
        wpAny (model X.prog X.w) X.A (do bindName X.env n .none; unbindBehindTheSuite X.env n po') (fun _ t7 => Q t7) X.xe t6 := fun V6 hq => gone_ok (V6.unsuite good) hN hi hln hq
    cases f with
    | ret v =>
      obtain ⟨v6, u6, G6, V6, r6, q6⟩ := out
      exact over V6 fun t7 V7 => ⟨v6, _, _, V7, r6, q6⟩
    | next => obtain ⟨u6, G6, V6, q6⟩ := out; exact over V6 fun t7 V7 => ⟨_, _, V7, q6⟩
    | brk => obtain ⟨u6, G6, V6, q6⟩ := out; exact over V6 fun t7 V7 => ⟨_, _, V7, q6⟩
    | cont => obtain ⟨u6, G6, V6, q6⟩ := out; exact over V6 fun t7 V7 => ⟨_, _, V7, q6⟩
  refine wpAny_mono (body.run [] t0 u G D (V.toTry _) hread) (fun f t1 out => ?_) (fun _ _ z => z)
  cases f with
  | ret v => obtain ⟨v1, u1, G1, V1, r1, q1⟩ := out; exact ⟨v1, u1, G1, V1.ofTry good, r1, q1⟩
  | next => obtain ⟨u1, G1, V1, q1⟩ := out; exact wpAny_execs_nil ⟨u1, G1, V1.ofTry good, q1⟩
  | brk => obtain ⟨u1, G1, V1, q1⟩ := out; exact ⟨u1, G1, V1.ofTry good, q1⟩
  | cont => obtain ⟨u1, G1, V1, q1⟩ := out; exact ⟨u1, G1, V1.ofTry good, q1⟩
end
section
variable {Z : Zn} {ρ : Ro} {M : Mu} {D2 : Ends2}
theorem ws_tryF {tb : WX → TS} {c : Value} {i : Nat} {ts : Addr → Value → Option Addr → TS} (W2 : WX2) (hb : ∀ G1 Wx, Same Z.G G1 → WxOk (Z.at G1) W2 Wx → WS (Z.at G1) (tb Wx) D2 ρ M)
    (hs : ∀ C ns ds ρ' M', W2 C ns ds ρ' M' → PySem.W.exmOne Z.W.K (.ref C) c = some true ∧ ∀ G1 d a, Same Z.G G1 → XdOk Z.W G1 d ns ds →
      WS (Z.at G1) (ts a (.ref C) d) ⟨fun ρ2 M2 => D2.nx (ρ2.set i none) M2, D2.rt, fun ρ2 M2 => D2.bk (ρ2.set i none) M2, fun ρ2 M2 => D2.ct (ρ2.set i none) M2⟩ (ρ'.set i (some (.r a))) M') :
    WS Z (tTryF tb Z.W.K c i ts) D2 ρ M := fun G σ H D s R E k => by
  refine hb G _ s (fun C ns ds d ρ' σ' G' M' H' s' R' E' x' q => ?_) G σ H D (Same.refl G) R E k
  obtain ⟨e1, e2⟩ := hs C ns ds ρ' M' q
  have ss : Same G G' := s'
  refine ⟨e1, fun a ha => e2 G' d a (s.trans ss) x' G' _ H' _ (Same.refl G') R' (E'.set dat_v') ?_⟩
  have nx : ∀ (P2 : Ro → Mu → Prop) (Pp : L2.St → Hp → Prop), NxOk Z.W G Z.F P2 Pp → NxOk Z.W G' Z.F (fun ρ2 M2 => P2 (ρ2.set i none) M2) (fun σ' H' => Pp (σ'.set i none) H') := fun P2 Pp h ρ2 σ2 G2 M2 H2 s2 R2 E2 q2 => h _ _ G2 M2 H2 (ss.trans s2) R2 E2.setN q2
  exact ⟨nx _ _ k.nx, k.rt.mono ss, nx _ _ k.bk, nx _ _ k.ct⟩
end
end DL
set_option Elab.async false
set_option linter.all false
set_option maxRecDepth 100000
set_option maxHeartbeats 2000000
/-! DL79: text[::-1]; texts whose signs are signs. -/
namespace DL
open PySem PySem.Spec PyProof.Rows L2
/-- the signs that text[::-1] picks -/
def revS (z : Str) : Str := ⟨((Builtin.Str.strSliceIndices none none (-1) z.length).filterMap (z.cps[·]?)).toArray⟩
theorem revS_len (z : Str) : (revS z).length ≤ z.length := by
  show (List.filterMap _ _).toArray.size ≤ _
  rw [List.size_toArray]
  exact Nat.le_trans (List.length_filterMap_le _ _) (PySem.sliceIndicesBy_le none none (-1) (by decide) z.length)
def tRevS (te : TE) : TE := fun σ H Q => te σ H fun x H1 => ∃ z, x = .str z ∧ z.length ≤ sizeLine ∧ Q (.str (revS z)) H1
section
variable {X : Cx}
theorem pe_revS {e : Expr} {te : TE} {k : Nat} {p1 p2 p3 pos : Pos} (he : PE X e te) : PE X (.Subscript e (.Slice none none (some (.UnaryOp .USub (.Constant (.int 1) k p1) p2)) p3) pos) (tRevS te) := by
  refine ⟨fun pins t0 σ H Q V h => ?_⟩
  refine Subscript_ (thn (he.run pins t0 σ H _ V h) fun v t1 ⟨x, H1, V1, rx, z, ex, hz, q⟩ => ?_)
  subst ex
  obtain ⟨tz, rfl⟩ := (show ∃ t, v = Value.str z t from rx)
  have step : PO X (some (.UnaryOp .USub (.Constant (.int 1) k p1) p2)) (tPart (tUn (rU fun i => .int (-i)) (tC (.int 1)))) := po_some (pe_un un_neg pe_int)
  refine wpAny_Slice (thn (po_none.run pins t1 σ H1 (fun o G => o = none ∧ G = H1) V1 ⟨rfl, rfl⟩) fun lo t2 ⟨l, H2, V2, pl, el, e2⟩ => ?_)
  subst el e2
  refine thn (po_none.run pins t2 σ H2 (fun o G => o = none ∧ G = H2) V2 ⟨rfl, rfl⟩) fun hi t3 ⟨u, H3, V3, pu, eu, e3⟩ => ?_
  subst eu e3
  refine thn (step.run pins t3 σ H3 (fun o G => o = some (-1) ∧ G = H3) V3 ⟨1, rfl, -1, rfl, rfl, rfl⟩) fun by_ t4 ⟨o, H4, V4, ps, eo, e4⟩ => ?_
  subst eo e4
  obtain ⟨l1, rfl, k1⟩ := IsPart.raw pl
  obtain ⟨u1, rfl, k2⟩ := IsPart.raw pu
  obtain ⟨s1, rfl, k3⟩ := IsPart.raw ps
  have V5 : Inv X pins σ H4 { t4 with heap := t4.heap.push { cls := .type "slice", data := .fields #[partValue l1, partValue u1, partValue s1] } } := V4.kept (t' := t4.toks) fun b ob y => Heap.get?_push_of_some _ y
  show wpAny (model X.prog X.w) X.A (subscriptTail e (.Slice none none (some (.UnaryOp .USub (.Constant (.int 1) k p1) p2)) p3) (.str z tz) (.ref t4.heap.objs.size)) (EP X pins σ Q) X.xe { t4 with heap := t4.heap.push { cls := .type "slice", data := .fields #[partValue l1, partValue u1, partValue s1] } }
  refine tail_any (ops := [.ref t4.heap.objs.size, .str z tz]) (typeIs_str _ _ _) F.slot_str_getitem.lookup ?_ (by with_unfolding_all rfl)
  refine wpAny_getItem_str_slice (l := l1) (u := u1) (st := s1) ⟨_, Heap.get?_push_size _ rfl, rfl, rfl⟩ (by rw [k3]; rfl) ?_
  unfold sliceMade slicePicked
  rw [k1, k2, k3]
  show Made.post (if ((-1 : Int) == 1 && _) = true then _ else _) _ _
  rw [show ((-1 : Int) == 1) = false from rfl, Bool.false_and, if_neg Bool.false_ne_true]
  exact ⟨Nat.le_trans (revS_len z) hz, .str (revS z), H4, V5.tok _, ⟨_, rfl⟩, q⟩
end
theorem we_revS {Z : Zn} {ρ : Ro} {M : Mu} {Q2 : DQ} {te : TE} (h : WE Z te ρ M fun d M1 => ∃ z, d = .s z ∧ z.length ≤ sizeLine ∧ Q2 (.s (revS z)) M1) : WE Z (tRevS te) ρ M Q2 := fun G σ H Q s R E r =>
  h G σ H _ s R E fun d v G' M' H' s' R' x ⟨z, e, hz, q⟩ => by
    subst e
    exact ⟨z, dat_v.mp x, hz, r _ _ G' M' H' s' R' dat_v' q⟩
/-! ### signs -/
def Sg (z : Str) : Prop := ∀ c ∈ z.cps.toList, c < 0x110000
theorem Sg.ok {z : Str} (h : Sg z) : PyData.strOk z = true := by
  unfold PyData.strOk
  rw [← Array.all_toList]
  exact List.all_eq_true.mpr fun c hc => decide_eq_true (h c hc)
theorem Sg.app {x y : Str} (h : Sg x) (k : Sg y) : Sg (x ++ y) := fun c hc => by
  rw [show (x ++ y).cps.toList = TL.tl x ++ TL.tl y from TL.tl_append x y] at hc
  rcases List.mem_append.mp hc with m | m
  · exact h c m
  · exact k c m
theorem Sg.cut {z : Str} (h : Sg z) (lo hi : Option Int) : Sg (cutS z lo hi) := fun c hc => h c (List.mem_of_mem_drop (List.mem_of_mem_take (by simpa [cutS] using hc)))
theorem Sg.rev {z : Str} (h : Sg z) : Sg (revS z) := fun c hc => by
  have hc : c ∈ (Builtin.Str.strSliceIndices none none (-1) z.length).filterMap (z.cps[·]?) := by simpa [revS] using hc
  obtain ⟨i, _, e⟩ := List.mem_filterMap.mp hc
  exact h c (by rw [Array.mem_toList_iff]; exact Array.mem_of_getElem? e)
theorem Sg.chr {z : Str} (h : Sg z) {c : Nat} (hc : c ∈ z.cps.toList) : Sg (⟨#[c]⟩ : Str) := fun d hd => by
  have : d = c := by simpa using hd
  rw [this]
  exact h c hc
theorem app_len (x y : Str) : (x ++ y).length = x.length + y.length := by rw [← tl_len, TL.tl_append, List.length_append, tl_len, tl_len]
end DL
namespace DL
open PySem PySem.Spec PyProof.Rows L2
theorem joinL_sg {p : Nat → Prop} {sep : List Nat} (hs : ∀ c ∈ sep, p c) : ∀ {l : List (List Nat)}, (∀ x ∈ l, ∀ c ∈ x, p c) → ∀ c ∈ TL.joinL sep l, p c
  | [], _ => fun c hc => by simp [TL.joinL] at hc
  | [x], h => fun c hc => h x (by simp) c (by simpa [TL.joinL] using hc)
  | x :: y :: l, h => fun c hc => by
    have ih := joinL_sg hs (l := y :: l) fun z hz => h z (List.mem_cons_of_mem _ hz)
    simp only [TL.joinL, List.mem_append] at hc
    rcases hc with hc | hc
    · first
        | exact h x (by simp) c hc
        | (rcases hc with k | k
           · exact h x (by simp) c k
           · exact hs c k)
    · first
        | exact ih c hc
        | (rcases hc with k | k
           · exact hs c k
           · exact ih c k)
theorem Sg.join {sep : Str} {l : List Str} (hs : Sg sep) (h : ∀ x ∈ l, Sg x) : Sg (Txt.join sep l) := fun c hc => by
  have hc : c ∈ TL.tl (Txt.join sep l) := hc
  rw [TL.join_eq, TL.tl_join] at hc
  refine joinL_sg (p := fun c => c < 0x110000) hs (fun x hx => ?_) c hc
  obtain ⟨y, hy, rfl⟩ := List.mem_map.mp hx
  exact h y hy
theorem sum_le {l : List Str} {n : Nat} (h : ∀ x ∈ l, x.length + 1 ≤ n) : (l.map (·.length)).sum + l.length ≤ n * l.length := by
  induction l with
  | nil => simp
  | cons x l ih =>
    have h1 := ih fun y hy => h y (List.mem_cons_of_mem _ hy)
    have h2 := h x List.mem_cons_self
    simp only [List.map_cons, List.sum_cons, List.length_cons, Nat.mul_add, Nat.mul_one] at h1 ⊢
    omega
end DL
set_option Elab.async false
set_option linter.all false
set_option maxRecDepth 100000
set_option maxHeartbeats 2000000
/-! DL80: lambdas without parameters as things: made, kept in lists, handed to a def that calls what it gets. -/
namespace DL
open PySem PySem.Spec PyProof.Rows L2 LamX
/-- what a lambda of a context X is to be: t reads its body, for each wish at exceptions -/
structure LamOk (X : Cx) (k : Nat) (t : XK → TE) (params : Arguments) (body : Expr) (scope : Scope) : Prop where
  sc : LamS X.env.scope scope
  bind : ∀ (q : Str) (cl : List (Str × Addr)) (pm cv ctv : Value), bindArgs (PySem.W.kla_fn "<lambda>" q params body scope cl pm cv ctv) ⟨[], []⟩ = pure []
  run : ∀ (A : Around) (outer : List Env) (s : Shared) (H : Hp) (E : XK) (f c' : Addr), Room k (A.deeper (lamEnv X scope s.heap.objs.size f c')) → PE (lamCx X A outer s H E scope f c') body (t E)
abbrev lamQ (X : Cx) : Str := X.env.qual ++ "<lambda>"
/-- the lambda's object at f, its code object at c -/
def LamO (X : Cx) (k : Nat) (t : XK → TE) (f c : Addr) : HO := .ext fun h => ∃ params body scope pm ctv, LamOk X k t params body scope ∧ h.get? f = some (PySem.W.kla_obj "<lambda>" (lamQ X) params body scope (cloFrom X.env.cells scope.names []) pm c ctv)
/-- a table of code objects that all bear the name q -/
def TabQ (H : Hp) (q : Str) (ps : Array Value) : Prop := TriplesOk ps.toList ∧ ∀ pos cv, codeAmong pos ps.toList = some cv → ∃ c, cv = .ref c ∧ H c = some (CodeO c q)
def tMkLam (X : Cx) (k : Nat) (P : Addr) (t : XK → TE) : TE := fun _ H Q => ∃ ps, H P = some (.tbl ps) ∧ TabQ H (lamQ X) ps ∧
  ∀ (ps' : Array Value) (f c : Addr) (H1 : Hp), TriplesOk ps'.toList → (∀ pos cv, codeAmong pos ps'.toList = some cv → cv = .ref c ∨ codeAmong pos ps.toList = some cv) → H1 P = some (.tbl ps') → (∀ b, b ≠ P → b ≠ c → H1 b = H b) → c ≠ P → H1 c = some (CodeO c (lamQ X)) →
    (H c = none ∨ ∃ pos, codeAmong pos ps.toList = some (.ref c)) → H1 f = none → Q (.ref f) (upd H1 f (LamO X k t f c))
section
variable {X : Cx} {k : Nat} {t : XK → TE} {params : Arguments} {body : Expr} {scope : Scope} {pos : Pos}
theorem lamO_ok {prog : Program} {w : World} {H : Hp} {h : Heap} {f c : Addr} {pm ctv : Value} (L : LamOk X k t params body scope) (e : h.get? f = some (PySem.W.kla_obj "<lambda>" (lamQ X) params body scope (cloFrom X.env.cells scope.names []) pm c ctv)) :
    ObjOk prog w H h f (LamO X k t f c) :=
  ⟨⟨params, body, scope, pm, ctv, L, e⟩, ⟨_, e⟩, fun h1 h2 ⟨a1, a2, a3, a4, a5, a6, a7⟩ st => ⟨a1, a2, a3, a4, a5, a6, st _ a7⟩⟩
/-- lambda: body -/
theorem pe_lam {c P : Addr} (TB : TabB X.base X.mg c P) (hcode : X.env.code = .ref c) (L : LamOk X k t params body scope) (hdef : defaultsOf params X.env = ([], [])) : PE X (.Lambda params body scope pos) (tMkLam X k P t) := ⟨fun pins s σ H Q I hw => by
  obtain ⟨tb, hP, ⟨h3, hin⟩, go⟩ := hw
  have atP : s.heap.get? P = some { cls := .none, data := .fields tb } := I.hok P _ hP
  have bm := TB.bm.keeps I.bk
  have cl := closure_ok (L.sc.has I.ok)
  have cdh := TB.code.keeps I.bk
  have gl := I.mod.glob.keeps I.bk
  refine PySem.W.kla_eval hdef ?_
  match hcv : codeAmong pos tb.toList with
  | some cv =>
    obtain ⟨c1, rfl, hc1⟩ := hin pos cv hcv
    refine PySem.W.kla_makeFunctionHit (c := c) cl I.ok.glob gl hcode cdh atP h3 hcv bm fun ctv hp tk kp le => ?_
    have I1 : Inv X pins σ H { s with heap := hp } := I.kept (t' := s.toks) kp
    have I2 := I1.laid (h' := hp.push (PySem.W.kla_obj "<lambda>" (lamQ X) params body scope (cloFrom X.env.cells scope.names []) ((X.mg "__name__").getD .none) c1 ctv)) (a := hp.objs.size) (o := LamO X k t hp.objs.size c1) (t' := tk) (fun b o e => Heap.get?_push_of_some _ e) (Nat.le_refl _) (lamO_ok L (Heap.get?_push_size _ rfl))
    exact ⟨.ref _, _, I2, rfl, go tb _ c1 H h3 (fun _ _ z => .inr z) hP (fun b _ _ => rfl) (fun e => by rw [e, hP] at hc1; exact codeO_ne _ (Option.some.inj hc1).symm) hc1 (.inr ⟨pos, hcv⟩) (I1.hok.fresh (Nat.le_refl _))⟩
  | none =>
    refine PySem.W.kla_makeFunction (c := c) cl I.ok.glob gl hcode cdh atP h3 hcv TB.gP bm fun c1 ctv hp tk kp ge lt rec tab => ?_
    obtain ⟨c2, oc, vs, tt, e2, r1, r2, r3⟩ := rec
    cases e2
    have n1 : H c1 = none := I.hok.fresh ge
    have nP : P ≠ c1 := ne_of_none hP n1
    have I1 := inv_table (more := #[rawInt pos.line, rawInt pos.col, .ref c1]) (h' := hp) (t' := s.toks) (q := lamQ X) I hP kp tab ge ⟨oc, vs, tt, r1, r2, r3⟩
    have I2 := I1.laid (h' := hp.push (PySem.W.kla_obj "<lambda>" (lamQ X) params body scope (cloFrom X.env.cells scope.names []) ((X.mg "__name__").getD .none) c1 ctv)) (a := hp.objs.size) (o := LamO X k t hp.objs.size c1) (t' := tk) (fun b o e => Heap.get?_push_of_some _ e) (Nat.le_refl _) (lamO_ok L (Heap.get?_push_size _ rfl))
    refine ⟨.ref _, _, I2, rfl, go (tb ++ #[rawInt pos.line, rawInt pos.col, .ref c1]) _ c1 _ ?_ (fun p1 cv hcv1 => ?_) (by rw [upd_ne nP, upd_same]) (fun b b1 b2 => by rw [upd_ne b2, upd_ne b1]) (Ne.symm nP) upd_same (.inl n1) (I1.hok.fresh (Nat.le_refl _))⟩
    · rw [Array.toList_append]
      exact PySem.TriplesOk_snoc _ _ _ _ h3
    · rw [Array.toList_append] at hcv1
      exact (among_app _ h3 hcv1).symm⟩
end
/-! ### the call of what a def got -/
def tAct (X : Cx) (k : Nat) (t : XK → TE) (σ0 : L2.St) (f c : Addr) (i : Nat) (EE : L2.St → XK) : TE := fun σ H Q => σ[i]? = some (some (.ref f)) ∧ H f = some (LamO X k t f c) ∧ H c = some (CodeO c (lamQ X)) ∧ t (EE σ) σ0 H Q
section
variable {X : Cx} {pins : List (Addr × PySem.Obj)} {σ : L2.St} {H : Hp} {s : Shared} {k : Nat} {t : XK → TE}
theorem pe_deedAct {CXg : CXT} {Eg : XK} {Ng : List Str} {qg a : Str} {sg : Scope} {g f c : Addr} {cdg : Value} {i : Nat} {pn : List (Addr × PySem.Obj)} {xe : Value → Shared → Prop} {W : WX} {p1 p2 : Pos} (I : Inv X pins σ H s)
    (tk : Takes ((cxOf CXg X.prog X.w X.K X.mg X.base Ng qg sg g cdg X.A X.stack s H Eg).tr pn xe) W) (hr : Room (k + 1) (X.A.deeper (envOfC qg sg s.heap.objs.size g cdg))) (hN : Ng[i]? = some a) (hv : Vis sg a)
    (hd : (a == ("__debug__" : Str)) = false) (hcd : (a == ("__classdict__" : Str)) = false) :
    PE ((cxOf CXg X.prog X.w X.K X.mg X.base Ng qg sg g cdg X.A X.stack s H Eg).tr pn xe) (.Call (.Name a p1) [] [] p2) (tAct X k t σ f c i (L2.WE W)) := ⟨fun pinsZ sZ σZ HZ Q IZ hw => by
  obtain ⟨hs, hl, hc, ht⟩ := hw
  refine wpAny_Call_Name_kw (thn ((pe_var (pos := p1) (i := i) hN hv hd hcd).run pinsZ sZ σZ HZ (fun v H1 => v = .ref f ∧ H1 = HZ) IZ ⟨.ref f, hs, rfl, rfl⟩) fun u s1 ⟨v, H1, J, rv, ev, eH⟩ => ?_)
  subst ev eH
  obtain rfl : u = Value.ref f := rv
  obtain ⟨⟨params, body, scope, pm, ctv, L, obj⟩, _, _⟩ := J.hok f _ hl
  obtain ⟨⟨oc, vs, tt, r1, r2, r3⟩, _, _⟩ := J.hok c _ hc
  refine PySem.W.callWith_F0 ⟨_, _, _, _, obj⟩ ?_
  have run : codeAny (model X.prog X.w) (X.A.deeper (envOfC qg sg s.heap.objs.size g cdg)) (.call (.ref f) ⟨[], []⟩) (L2.CR (L2.CX X.prog X.w) (envOfC qg sg s.heap.objs.size g cdg :: X.stack) X.prog X.w H1 s1 Q (L2.WE W σZ)) s1 := by
    refine PySem.W.kla_callFunE hr.depth obj rfl L.sc.co L.sc.gen rfl ⟨c, oc, vs, tt, rfl, r1, r2, r3⟩ ?_
    rw [L.bind]
    refine wpAny_pure (wpAny_newFunctionEnv (fun y hy => (L.sc.own y hy).2) (fun y hy => absurd hy (by simp)) (fun hp ns sb => ⟨J.nolimit.fresh _ sb, ?_⟩) L.sc.kind)
    have kp : ∀ b o, s1.heap.get? b = some o → hp.get? b = some o := fun b o e => sb.extBut b o (Nat.ne_of_lt (Heap.lt_size e)) (Heap.get?_push_of_some _ e)
    have J2 := lam_start2 (E := L2.WE W σZ) (f := f) (c' := c) (tk := s1.toks + ([] : List (Str × Value)).length) I L.sc J.env0 hr.hd J.base ns kp
    refine PySem.W.kla_codeExpr (wpAny_mono ((L.run _ _ s1 H1 (L2.WE W σZ) f c (hr.deeper _)).run [] _ _ H1 Q J2 ht) (fun v s' hq => ?_) fun e s' hq => hq)
    obtain ⟨v', H', J3, rv, q⟩ := hq
    exact ⟨v', H', J3.os, J3.bare, J3.base, J3.hok, rv, q⟩
  refine wpAny_call (codeAny_mono run fun r s' hq => ?_)
  cases r with
  | error e => exact passAt tk σZ pinsZ H1 s1 e s' J hq
  | ok fl =>
    cases fl with
    | ret u => exact J.after hq
    | _ => exact False.elim hq⟩
end
/-! ### readings -/
section
variable {Z : Zn} {ρ : Ro} {M : Mu} {Q2 : DQ} {X : Cx} {k : Nat} {t : XK → TE} {P : Addr}
theorem we_mkLam (hM : M P = some (.tab (lamQ X))) (h : Q2 (.fn (lamQ X) (LamO X k t)) M) : WE Z (tMkLam X k P t) ρ M Q2 := fun G σ H Q s R En r => by
  obtain ⟨gP, ps, e1, e2, e3⟩ := R.mu P _ hM
  refine ⟨ps, e1, ⟨e2, fun pos cv z => let ⟨c, a, b⟩ := e3 pos cv z; ⟨c, a, R.ex _ _ b⟩⟩, fun ps' f c H1 k1 k2 k3 k4 k5 k6 k7 k8 => ?_⟩
  have fP : Z.F P = none := by
    cases q : Z.F P with
    | none => rfl
    | some o => rw [(R.fd P o q).2] at hM; cases hM
  obtain ⟨Gc, sg, gc, gold⟩ : ∃ Gc : Hp, Same G Gc ∧ Gc c = some (CodeO c (lamQ X)) ∧ ∀ b, b ≠ c ∨ H c ≠ none → Gc b = G b := by
    rcases k7 with z | ⟨pos, z⟩
    · exact ⟨upd G c (CodeO c (lamQ X)), same_new (R.gnone z), upd_same, fun b hb => hb.elim (fun q => upd_ne q) fun q => absurd z q⟩
    · obtain ⟨c2, a, b⟩ := e3 pos _ z
      cases a
      exact ⟨G, Same.refl G, b, fun _ _ => rfl⟩
  have inG : ∀ b, b ≠ c → Gc b = G b := fun b hb => gold b (.inl hb)
  have hne : ∀ b o, H b = some o → b ≠ P → H1 b = some o := fun b o e np => by
    by_cases ec : b = c
    · subst ec
      rcases k7 with z | ⟨pos, z⟩
      · rw [z] at e; cases e
      · obtain ⟨c2, a1, a2⟩ := e3 pos _ z
        cases a1
        rw [R.ex _ _ a2] at e
        rw [← e]
        exact k6
    · rw [k4 b np ec]; exact e
  have nf : ∀ b o, H1 b = some o → b ≠ f := fun b o e z => by rw [z, k8] at e; cases e
  have gf : Gc f = none := by
    by_cases ec : f = c
    · rw [ec, k6] at k8; cases k8
    · rw [inG f ec]
      cases q : G f with
      | none => rfl
      | some o =>
        have := hne f o (R.ex _ _ q) (fun z => by rw [z, gP] at q; cases q)
        rw [k8] at this; cases this
  have gout : ∀ b, G b = none → (H b ≠ none) → Gc b = none := fun b g hb => by
    by_cases ec : b = c
    · rw [gold b (.inr (by rw [← ec]; exact hb))]; exact g
    · rw [inG b ec]; exact g
  refine r _ (.ref f) (upd Gc f (LamO X k t f c)) M _ (sg.trans (same_new gf)) ⟨fun b o e => ?_, fun b o e => ?_, fun b o e => ?_, fun b o e => ?_⟩ (dat_fn.mpr ⟨f, c, rfl, upd_same, ?_⟩) h
  · by_cases ef : b = f
    · subst ef
      rw [upd_same] at e ⊢
      exact e
    · rw [upd_ne ef] at e ⊢
      by_cases ec : b = c
      · subst ec; rw [gc] at e; rw [← e]; exact k6
      · rw [inG b ec] at e
        exact hne b o (R.ex _ _ e) (fun z => by rw [z, gP] at e; cases e)
  · have e1 := hne b o (R.fr _ _ e) (fun z => by rw [z, fP] at e; cases e)
    rw [upd_ne (nf b o e1)]
    exact e1
  · have e0 := R.fr _ _ e
    have e1 := hne b o e0 (fun z => by rw [z, fP] at e; cases e)
    refine ⟨?_, (R.fd b o e).2⟩
    rw [upd_ne (nf b o e1)]
    exact gout b (R.fd b o e).1 (by rw [e0]; exact fun z => nomatch z)
  · obtain ⟨g, m⟩ := R.mu b o e
    obtain ⟨u, hu⟩ := m.there
    have gn : upd Gc f (LamO X k t f c) b = none := by
      have : b ≠ f := by
        by_cases eP : b = P
        · rw [eP]; exact nf P _ k3
        · exact nf b u (hne b u hu eP)
      rw [upd_ne this]
      exact gout b g (by rw [hu]; exact fun z => nomatch z)
    refine ⟨gn, ?_⟩
    by_cases eP : b = P
    · subst eP
      rw [hM] at e
      cases e
      refine ⟨ps', by rw [upd_ne (nf b _ k3)]; exact k3, k1, fun pos cv z => ?_⟩
      rcases k2 pos cv z with z | z
      · refine ⟨c, z, ?_⟩
        rw [upd_ne (nf c _ k6)]
        exact gc
      · obtain ⟨c2, a1, a2⟩ := e3 pos cv z
        exact ⟨c2, a1, (sg.trans (same_new gf)) _ _ a2⟩
    · have hb := hne b u hu eP
      exact (m.mono (sg.trans (same_new gf))).heap (by rw [upd_ne (nf b u hb), hb, hu])
  · rw [upd_ne (nf c _ k6)]
    exact gc
end
end DL
set_option Elab.async false
set_option linter.all false
set_option maxRecDepth 100000
set_option maxHeartbeats 2000000
/-! DL81: a comprehension whose element is known of the def's own state; defs that call what they get. -/
namespace DL
open PySem PySem.Spec PyProof.Rows L2 LamX
section
variable {X : Cx}
/-- [elt for tg in iter], the element told where the def's own Inv stands -/
theorem pe_lcI {elt tg iter : Expr} {scope : Scope} {own : List (Str × Nat)} {pos : Pos} {wi : TI} {g : TG} {te : TE} (hc : X.calm = true) (hN : X.N.Nodup) (hi : L2.PI X tg iter wi) (ok : BlkOk X.N X.env.scope scope own)
    (hg : ∀ (sz : Shared) (Hz : Hp) (C : Addr) (cl : List (Str × Addr)) (fp : List Addr), PG (X.blk sz Hz scope (compEnvC scope cl C X.env) fp) tg g)
    (he : ∀ (pins : List (Addr × PySem.Obj)) (σ : L2.St) (sz : Shared) (Hz : Hp) (C : Addr) (cl : List (Str × Addr)) (fp : List Addr), Inv X pins σ Hz sz → (∀ b ∈ fp, FpOk X pins Hz b) →
      ∀ (pi : List (Addr × PySem.Obj)) (s' : Shared) (σ' : L2.St) (H' : Hp) (Q : VK), Inv (X.blk sz Hz scope (compEnvC scope cl C X.env) fp) pi σ' H' s' → L2.wipe σ' (own.map (·.2)) = L2.wipe σ (own.map (·.2)) → te σ' H' Q →
        wpAny (model X.prog X.w) X.A (eval elt (compEnvC scope cl C X.env)) (EP (X.blk sz Hz scope (compEnvC scope cl C X.env) fp) pi σ' Q) (fun _ _ => False) s')
    (hs : ∀ x, foldedSetIterable iter X.env x = pure x := by intro _; rfl) : PE X (.ListComp elt [⟨tg, iter, [], 0⟩] scope pos) (tLc wi g tYes te (own.map (·.2))) := ⟨fun pins s σ H Q I hw => by
  have fre : ∀ y ∈ scope.names, y.2 = .free → ∃ c, X.env.cells.lookup y.1 = some c := fun y hy e => (ok.free y hy e).elim (fun z => I.ok.has _ (.inl z)) fun z => I.ok.has _ (.inr z)
  rw [eval_ListComp]
  refine wpAny_comprehension_free (use := none) rfl hs (closure_ok fre) ok.kind (fun y hy e => by rw [ok.uniq y hy, e]) (thn (hi.run pins s σ H _ I hw) fun xv sa ha => thn ha fun itv sb hb => ?_)
  obtain ⟨it, fp, tn, J, Hb, eit, Ib, T, stb, fpb, q⟩ := hb
  subst eit
  refine wpAny_newObj_type (newEnv_comp ?_) (by show 0 ≤ sizeLine; decide)
  obtain ⟨D, eD⟩ : ∃ D, sb.heap.objs.size = D := ⟨_, rfl⟩
  rw [eD]
  have fD : Hb D = none := Ib.hok.fresh (Nat.le_of_eq eD)
  obtain ⟨V, ⟨n0, v0⟩, turn⟩ := q D fD
  obtain ⟨sc, esc⟩ : ∃ sc : Shared, ({ sb with heap := sb.heap.push { cls := .type "list", data := .seq ([] : List Value).toArray } } : Shared) = sc := ⟨_, rfl⟩
  have hsc : sc.heap = sb.heap.push { cls := .type "list", data := .seq ([] : List Value).toArray } := by rw [← esc]
  have Ic : Inv X pins σ (upd Hb D (.lst [])) sc := by
    subst esc
    exact Ib.laid (t' := sb.toks) (fun b o e => Heap.get?_push_of_some _ e) (Nat.le_of_eq eD) ⟨Nat.zero_le _, [], 0, .nil, by subst eD; exact Heap.get?_push_size _ rfl⟩
  have fpc : ∀ b ∈ fp, FpOk X pins (upd Hb D (.lst [])) b ∧ b < sc.heap.objs.size := fun b hb => by
    obtain ⟨o, eo, _⟩ := T.obj _ _ stb b hb
    have lt := Heap.lt_size eo
    exact ⟨⟨by rw [upd_ne (Nat.ne_of_lt (by rw [← eD]; exact lt))]; exact (fpb b hb).1, (fpb b hb).2⟩, by rw [hsc, Heap.size_push]; exact Nat.lt_succ_of_lt lt⟩
  have stc : tn 0 sc.heap := T.keep _ _ _ stb fun b _ o e => by rw [hsc]; exact Heap.get?_push_of_some _ e
  have Iblk := block_start Ic ok hN fpc
  obtain ⟨Hc, eHc⟩ : ∃ Hc, upd Hb D (.lst []) = Hc := ⟨_, rfl⟩
  rw [eHc] at Ic Iblk v0 fpc
  have none_fp : ∀ b ∈ fp, Hc b = none := fun b hb => (fpc b hb).1.1
  obtain ⟨cl, ecl⟩ : ∃ cl, cellsFrom (sc.heap.objs.size + 1) scope.names (cloFrom X.env.cells scope.names []) = cl := ⟨_, rfl⟩
  obtain ⟨L, eL⟩ : ∃ L, sc.heap.objs.size = L := ⟨_, rfl⟩
  rw [ecl, eL] at Iblk
  rw [esc]
  show codeAny _ _ (.compStart (.ListComp elt [⟨tg, iter, [], 0⟩] scope pos) 0 (.ref it) (.ref D) (compEnvC scope (cellsFrom (sc.heap.objs.size + 1) scope.names (cloFrom X.env.cells scope.names [])) sc.heap.objs.size X.env)) (compPost (model X.prog X.w) X.A X.xe none _ (.ref D) sc.heap.objs.size) { sc with heap := pushCells (sc.heap.push { cls := .type "dict", data := .dict #[] }) scope.names }
  rw [ecl, eL]
  obtain ⟨sd, esd⟩ : ∃ sd : Shared, ({ sc with heap := pushCells (sc.heap.push { cls := .type "dict", data := .dict #[] }) scope.names } : Shared) = sd := ⟨_, rfl⟩
  rw [esd] at Iblk ⊢
  have std : tn 0 sd.heap := T.keep _ _ _ stc fun b _ o e => by rw [← esd]; exact pushCells_keeps _ _ _ _ (Heap.get?_push_of_some _ e)
  have wl : (compEnvC scope cl L X.env).locals = L := rfl
  obtain ⟨Y, eY⟩ : ∃ Y, X.blk sc Hc scope (compEnvC scope cl L X.env) fp = Y := ⟨_, rfl⟩
  have seen : ∀ {σ' : L2.St} {H' : Hp} {s' : Shared}, Inv (X.blk sc Hc scope (compEnvC scope cl L X.env) fp) [] σ' H' s' → (∀ b ∈ fp, H' b = none) → ∀ b ∈ fp, FpOk (X.blk sc Hc scope (compEnvC scope cl L X.env) fp) [] H' b := fun {σ' H' s'} I' hn b hb =>
    ⟨hn b hb, (I'.ok.exf b hb).1, I'.ok.exfs b hb, .inl hb, fun x c e => (I'.ok.exf b hb).2 x c e, fun p hp => by simp at hp⟩
  refine codeAny_compStart_list ?_ (T.self X.A 0 _ _ _ std ?_) <;>
  · refine compLoop_any (fun n s' => ∃ i H', Inv (X.blk sc Hc scope (compEnvC scope cl L X.env) fp) [] (L2.wipe σ (own.map (·.2))) H' s' ∧ tn i s'.heap ∧ (∀ b ∈ fp, H' b = none) ∧ V i n H') ?_ n0 ⟨0, Hc, Iblk, std, none_fp, v0⟩
    rintro n s5 ⟨i, H5, I5, st5, f5, v5⟩
    rcases turn i n H5 v5 with ⟨stop, qq⟩ | ⟨goes, Nx, nx, step⟩
    · refine thnF (T.done (X.blk sc Hc scope (compEnvC scope cl L X.env) fp) rfl rfl rfl hc i [] s5 _ H5 (fun _ _ => False) I5 (seen I5 f5) st5 stop) fun r s6 ⟨hr, I6⟩ => ?_
      subst hr
      have back : Inv X pins σ H5 s6 := Ic.call' (ch := fp) I6.os I6.base I6.hok I6.bare fun b hb => ⟨(fpc b hb).1.2.2.2.1, (fpc b hb).1.2.1, (fpc b hb).1.2.2.2.2.1, (fpc b hb).1.2.2.2.2.2⟩
      have nL : H5 L = none := I6.free
      obtain ⟨m, hm, _⟩ := I6.loc
      have ffp := Ic.fpOk (Nat.le_of_eq eL) nL
      refine ⟨m, hm, fun h'' sb => ?_⟩
      obtain ⟨f0, f1, f2, f3, f4, f5⟩ := ffp
      exact ⟨.ref D, H5, back.turned (t' := s6.toks) (fun b o hb e => (sb.2 b hb).trans e) f0 f1 f3 f4 f5, rfl, qq⟩
    · refine thnF (T.item (X.blk sc Hc scope (compEnvC scope cl L X.env) fp) rfl rfl rfl hc i [] s5 _ H5 (fun _ _ => False) I5 (seen I5 f5) st5 goes) fun r s6 ⟨u, hr, h6⟩ => ?_
      subst hr
      refine thnF h6 fun _ s7 ⟨x, H7, I7, r7, y7, st7, f7⟩ => ?_
      have I7p := I7.pinned (seen I7 f7) (T.obj _ _ st7)
      refine thnF ((hg sc Hc L cl fp).run _ s7 _ H7 x u _ I7p r7 (step x H7 y7)) fun _ s8 ⟨σ8, H8, I8, w8, q8⟩ => ?_
      refine thnF ((pts_nil (X := X.blk sc Hc scope (compEnvC scope cl L X.env) fp)).run _ s8 σ8 H8 _ I8 q8) fun b s9 ⟨H9, I9, q9⟩ => ?_
      have next : ∀ {s' : Shared} {H' : Hp}, Inv (X.blk sc Hc scope (compEnvC scope cl L X.env) fp) ([] ++ pinsAt fp s7.heap) σ8 H' s' → Nx H' → ∃ m, m < n ∧ ∃ i H', Inv (X.blk sc Hc scope (compEnvC scope cl L X.env) fp) [] (L2.wipe σ (own.map (·.2))) H' s' ∧ tn i s'.heap ∧ (∀ b ∈ fp, H' b = none) ∧ V i m H' := fun {s' H'} I' hnx => by
        obtain ⟨m, lt, v'⟩ := nx H' hnx
        have kept : ∀ b ∈ fp, ∀ o, s7.heap.get? b = some o → s'.heap.get? b = some o ∧ H' b = none := fun b hb o e => by
          obtain ⟨z1, z2, _⟩ := I'.pin (b, o) (List.mem_append_right _ (List.mem_append_right _ (mem_pinsAt hb e)))
          exact ⟨z1, z2⟩
        refine ⟨m, lt, i + 1, H', I'.unpinned.weak (by rw [← w8, wipe_length]) fun j v e => ?_, T.keep _ _ _ st7 fun b hb o e => (kept b hb o e).1, fun b hb => ?_, v'⟩
        · rw [← w8] at e
          exact (wipe_some e).1
        · obtain ⟨o, e, _⟩ := T.obj _ _ st7 b hb
          exact (kept b hb o e).2
      match b, q9 with
      | false, q9 =>
        simp only [Bool.false_eq_true, if_false] at q9 ⊢
        exact next I9 q9
      | true, q9 =>
        simp only [if_true] at q9 ⊢
        have ww : L2.wipe σ8 (own.map (·.2)) = L2.wipe σ (own.map (·.2)) := w8
        refine thnF (he pins σ sc Hc L cl fp Ic (fun b hb => (fpc b hb).1) _ s9 σ8 H9 _ I9 ww q9) fun z s10 ⟨yv, H10, I10, r10, acc, hD10, hz10, hnx⟩ => ?_
        exact app_ok (X := X.blk sc Hc scope (compEnvC scope cl L X.env) fp) I10 hD10 hz10 r10 fun s11 I11 => next I11 hnx⟩
end
end DL
set_option Elab.async false
set_option linter.all false
set_option maxRecDepth 100000
set_option maxHeartbeats 2000000
/-! DL82: defs that call what they get: their promise, their calls. -/
namespace DL
open PySem PySem.Spec PyProof.Rows L2 LamX
/-- what the call of a thing does: the store, the wish, the wish at exceptions -/
abbrev Bh := Mu → DQ → XK2 → Prop
/-- the def at g calls its one argument -/
structure DeedOk (P : Program) (w : World) (K : PySem.W.Frag) (mg : Str → Option Value) (base : Heap) (k : Nat) (N : List Str) (n a : Str) (st : Stmt) (g : Addr) (fd : FuncData) (spD : Bh → Mu → DQ → Prop) : Prop where
  F : Df K n n st [] g fd
  S : FnScope N [a] (defScope st)
  run : ∀ (cdg : Value) (A : Around) (outer : List Env) (s : Shared) (H : Hp) (E : XK) (act : (L2.St → XK) → TE) (d : DV) (B : Bh) (G Fr : Hp) (M : Mu) (Q2 : DQ), Room k (A.deeper (envOfC n (defScope st) s.heap.objs.size g cdg)) →
    (∀ (W : WX) (pn : List (Addr × PySem.Obj)) (xe : Value → Shared → Prop) (p1 p2 : Pos), Takes ((cxOf CX0 P w K mg base N n (defScope st) g cdg A outer s H E).nox.tr pn xe) W → PE ((cxOf CX0 P w K mg base N n (defScope st) g cdg A outer s H E).nox.tr pn xe) (.Call (.Name a p1) [] [] p2) (act (L2.WE W))) →
    (∀ (G1 : Hp) (ρ : Ro) (M1 : Mu) (W2 : WX2) (Wx : WX) (Q : DQ) (Y2 : XK2), Same G G1 → ρ[0]? = some (some d) → WxOk (Z_ P w K G1 Fr) W2 Wx → B M1 Q Y2 → (∀ C ns es M', Y2 C ns es M' → W2 C ns es ρ M') → DL.WE (Z_ P w K G1 Fr) (act (L2.WE Wx)) ρ M1 Q) →
    spD B M Q2 → ∃ t, PSs (cxOf CX0 P w K mg base N n (defScope st) g cdg A outer s H E).nox (defBody st) t ∧ WS (Z_ P w K G Fr) t { nx := fun _ M' => Q2 .n M', rt := Q2 } (start2 N [d]) M
def liftD (W : Wd) (spD : Bh → Mu → DQ → Prop) (X : Cx) (kl : Nat) (t : XK → TE) (σ0 : L2.St) (f c : Addr) : Hp → VK → Prop := fun H Q => ∃ G F M Q2 B, Rep W G M F H ∧ G f = some (LamO X kl t f c) ∧ G c = some (CodeO c (lamQ X)) ∧ spD B M Q2 ∧ RetOk W G F Q2 Q ∧
  ∀ (G1 : Hp) (M1 : Mu) (Q1 : DQ) (E2 : XK2) (E : XK) (H1 : Hp) (Q' : VK), Same G G1 → B M1 Q1 E2 → ExcOk W G1 F E2 E → Rep W G1 M1 F H1 → RetOk W G1 F Q1 Q' → t E σ0 H1 Q'
def tDeed (W : Wd) (spD : Bh → Mu → DQ → Prop) (X : Cx) (kl : Nat) (vs : List Nat) (tx : TA) : TE := fun σ H Q => tx σ H fun us H1 => ∃ f c t, us = [.ref f] ∧ liftD W spD X kl t (L2.wipe σ vs) f c H1 Q
section
variable {X : Cx} {k kl : Nat} {N : List Str} {n a : Str} {st : Stmt} {g : Addr} {fd : FuncData} {spD : Bh → Mu → DQ → Prop} {pins : List (Addr × PySem.Obj)} {σ σ0 : L2.St} {H : Hp} {s : Shared} {t : XK → TE} {f c : Addr} {Q : VK}
theorem deed_run {E : XK} (D : DeedOk X.prog X.w X.K X.mg X.base k N n a st g fd spD) (hb : L2.Binds X.K fd [a] []) (hr : Room (k + 1) X.A) (hk : kl + 1 ≤ k) (hN : N[0]? = some a) (hv : Vis (defScope st) a) (hd : (a == ("__debug__" : Str)) = false) (hcd : (a == ("__classdict__" : Str)) = false)
    (I : L2.Inv X pins σ0 H s) (h : liftD ⟨X.prog, X.w, X.K⟩ spD X kl t σ0 f c H Q) : codeAny (model X.prog X.w) X.A (.call (.ref g) ⟨[.ref f], []⟩) (L2.CR CX0 X.stack X.prog X.w H s Q E) s := by
  obtain ⟨G, Fr, M, Q2, B, R, gf, gc, q, r, real⟩ := h
  obtain ⟨oc, od, dV, kV, doc, pm, an, cdv, ct, osl, efd, lk, hcc, _, _⟩ := D.F.ex
  subst efd
  refine run_ofS (N := N) (ps := [a]) (us := [.ref f]) (vs := [.ref f]) lk hcc D.S hr I.env0 (hb s [.ref f] I.kIn rfl) (.cons rfl .nil) rfl fun hr' => ?_
  obtain ⟨t', h1, h2⟩ := D.run cdv X.A X.stack s H E (tAct X kl t σ0 f c 0) (.r f) B G Fr M Q2 hr' (fun W pn xe p1 p2 tk => pe_deedAct (CXg := CX0) (Eg := E) I tk (hr'.mono hk) hN hv hd hcd) (fun G1 ρ M1 W2 Wx Q Y2 s1 hρ hw hB hY G2 σ2 H2 Q' s2 R2 E2 r2 => by
    obtain ⟨v, e1, e2⟩ := E2.get 0 _ hρ
    cases dat_v.mp e2
    exact ⟨e1, R2.ex _ _ (s2 _ _ (s1 _ _ gf)), R2.ex _ _ (s2 _ _ (s1 _ _ gc)), real G2 M1 Q Y2 (L2.WE Wx σ2) H2 Q' (s1.trans s2) hB
      (fun C ns es d' G' M' H' s' R' x' q' => hw C ns es d' ρ σ2 G' M' H' (s2.trans s') R' (E2.mono s') x' (hY C ns es M' q')) R2 r2⟩) q
  exact ⟨t', h1.nox, h2 G _ H _ (Same.refl G) R (env_start (datL_cons' dat_v' datL_nil')) ⟨fun ρ' σ' G' M' H' s' R' _ q' => r _ _ G' M' H' s' R' dat_v' q', r, fun _ _ _ _ _ _ _ _ z => z.elim, fun _ _ _ _ _ _ _ _ z => z.elim⟩⟩
/-- n(e), e a lambda of this very def -/
theorem pe_deed {W : Wd} {e : Expr} {tx : TA} {p pos : Pos} (hW : (⟨X.prog, X.w, X.K⟩ : Wd) = W) (D : DeedOk X.prog X.w X.K X.mg X.base k N n a st g fd spD) (hr : Room (k + 1) X.A) (hg : Gl X n) (hm : X.mg n = some (.ref g)) (hkp : PySem.W.keepIn X.K (.ref g) = true) (hb : L2.Binds X.K fd [a] []) (ha : PA X [e] tx) (hk : kl + 1 ≤ k)
    (hN : N[0]? = some a) (hv : Vis (defScope st) a) (hdb : (n == ("__debug__" : Str)) = false := by decide) (hd : (a == ("__debug__" : Str)) = false := by decide) (hcd : (a == ("__classdict__" : Str)) = false := by decide)
    (he : starEach [e] X.env = (false, eval e X.env) :: starEach [] X.env := by rfl) (hpl : (backTo pos (starEach [] X.env)).any (·.1) = false := by rfl) :
    PE X (.Call (.Name n p) [e] [] pos) (tDeed W spD X kl [] tx) := ⟨fun pins s σ H Q I hw => by
  subst hW
  refine wpAny_Call_Name_kw (ld_glob I hg hm ?_ hdb)
  refine PySem.W.callWith_K (h₀ := X.base) I.ok.mod.kin hkp (thn (ha.run pos pins s σ H _ I hw) fun us s1 ⟨vs, H1, I1, r, f, c, t, ev, q⟩ => ⟨I1.kIn, ?_⟩) he hpl
  subst ev
  obtain rfl : us = [Value.ref f] := by
    cases r with
    | cons a b =>
      cases b
      cases a
      rfl
  · refine wpAny_call (codeAny_mono (deed_run (E := fun _ _ _ => False) D hb hr hk hN hv hd hcd I1 q) fun r s' hq => ?_)
    cases r with
    | error e => exact False.elim hq
    | ok fl =>
      cases fl with
      | ret u => exact I1.after hq
      | _ => exact False.elim hq⟩
/-- the same as a comprehension's element -/
theorem pe_lcDeed {W : Wd} {el tg iter : Expr} {scope : Scope} {own : List (Str × Nat)} {p pos po : Pos} {wi : TI} {gt : TG} {tx : TA} (hW : (⟨X.prog, X.w, X.K⟩ : Wd) = W) (hc : X.calm = true) (hX : X.N.Nodup) (hi : L2.PI X tg iter wi) (ok : BlkOk X.N X.env.scope scope own)
    (hg : ∀ (sz : Shared) (Hz : Hp) (C : Addr) (cl : List (Str × Addr)) (fp : List Addr), PG (X.blk sz Hz scope (compEnvC scope cl C X.env) fp) tg gt)
    (ha : ∀ (sz : Shared) (Hz : Hp) (C : Addr) (cl : List (Str × Addr)) (fp : List Addr), PA (X.blk sz Hz scope (compEnvC scope cl C X.env) fp) [el] tx)
    (D : DeedOk X.prog X.w X.K X.mg X.base k N n a st g fd spD) (hr : Room (k + 1) X.A) (hgl : ∀ (sz : Shared) (Hz : Hp) (C : Addr) (cl : List (Str × Addr)) (fp : List Addr), Gl (X.blk sz Hz scope (compEnvC scope cl C X.env) fp) n) (hm : X.mg n = some (.ref g)) (hkp : PySem.W.keepIn X.K (.ref g) = true) (hb : L2.Binds X.K fd [a] []) (hk : kl + 1 ≤ k)
    (hN : N[0]? = some a) (hv : Vis (defScope st) a) (hdb : (n == ("__debug__" : Str)) = false := by decide) (hd : (a == ("__debug__" : Str)) = false := by decide) (hcd : (a == ("__classdict__" : Str)) = false := by decide)
    (he : ∀ env, starEach [el] env = (false, eval el env) :: starEach [] env := by intro _; rfl) (hpl : ∀ env, (backTo po (starEach [] env)).any (·.1) = false := by intro _; rfl)
    (hs : ∀ x, foldedSetIterable iter X.env x = pure x := by intro _; rfl) :
    PE X (.ListComp (.Call (.Name n p) [el] [] po) [⟨tg, iter, [], 0⟩] scope pos) (tLc wi gt tYes (tDeed W spD X kl (own.map (·.2)) tx) (own.map (·.2))) := by
  subst hW
  refine pe_lcI hc hX hi ok hg (fun pins σ sz Hz C cl fp I hf pi s' σ' H' Q J ww hw => ?_) hs
  refine wpAny_Call_Name_kw (ld_glob (X := X.blk sz Hz scope (compEnvC scope cl C X.env) fp) J (hgl sz Hz C cl fp) hm ?_ hdb)
  refine PySem.W.callWith_K (h₀ := X.base) I.ok.mod.kin hkp (thn ((ha sz Hz C cl fp).run po pi s' σ' H' _ J hw) fun us s1 ⟨vs, H1, I1, r, f, c, t, ev, q⟩ => ⟨I1.kIn, ?_⟩) (he _) (hpl _)
  subst ev
  have back : L2.Inv X pins σ H1 s1 := I.call' (ch := fp) I1.os I1.base I1.hok I1.bare fun b hb => ⟨(hf b hb).2.2.2.1, (hf b hb).2.1, (hf b hb).2.2.2.2.1, (hf b hb).2.2.2.2.2⟩
  have b2 : L2.Inv X pins (L2.wipe σ' (own.map (·.2))) H1 s1 := by
    rw [ww]
    exact back.weak (wipe_length _ _) fun i v e => (wipe_some e).1
  obtain rfl : us = [Value.ref f] := by
    cases r with
    | cons a b =>
      cases b
      cases a
      rfl
  · refine wpAny_call (codeAny_mono (deed_run (E := fun _ _ _ => False) D hb hr hk hN hv hd hcd b2 q) fun r s' hq => ?_)
    cases r with
    | error e => exact False.elim hq
    | ok fl =>
      cases fl with
      | ret u => exact I1.after hq
      | _ => exact False.elim hq
end
section
variable {Z : Zn} {ρ : Ro} {M : Mu} {Q2 : DQ} {X : Cx} {kl : Nat} {spD : Bh → Mu → DQ → Prop} {vs : List Nat} {tx : TA}
theorem we_deed {W : Wd} (hW : Z.W = W) (h : DL.WA Z tx ρ M fun ds M1 => ∃ t, ds = [.fn (lamQ X) (LamO X kl t)] ∧ spD (fun M2 Q E2 => ∀ G1 E, Same Z.G G1 → XcOk (Z.at G1) E2 E → DL.WE (Z.at G1) (t E) (wipe2 ρ vs) M2 Q) M1 Q2) : DL.WE Z (tDeed W spD X kl vs tx) ρ M Q2 := fun G σ H Q s R En r =>
  h G σ H _ s R En fun ds us G1 M1 H1 s1 R1 x ⟨t, e, q⟩ => by
    subst e hW
    obtain ⟨y, e1, hy⟩ := one_of x
    obtain ⟨f, c, e2, gf, gc⟩ := dat_fn.mp hy
    subst e2
    refine ⟨f, c, t, e1, G1, Z.F, M1, Q2, _, R1, gf, gc, q, r.mono s1, fun G2 M2 Q1 E2 E H2 Q' s2 hB hE R2 r2 => ?_⟩
    exact hB G2 E ((s.trans s1).trans s2) hE G2 _ H2 Q' (Same.refl _) R2 ((En.mono (s1.trans s2)).wipe vs) r2
end
end DL
set_option Elab.async false
set_option linter.all false
set_option maxRecDepth 100000
set_option maxHeartbeats 2000000
/-! DL83: defs that make lambdas; the law's end with tables of code objects. -/
namespace DL
open PySem PySem.Spec PyProof.Rows L2 LamX
/-- a def whose code object stands at c -/
def DfC (K : PySem.W.Frag) (x qual : Str) (st : Stmt) (c f : Addr) (fd : FuncData) : Prop := ∃ (oc : Value) (od : Option Addr) (kV doc pm : Value) (an : Option Addr) (ct : Value) (osl : Array (Option Value)),
  fd = PySem.W.fnOf x qual (defArgs st) (defBody st) (defScope st) .none kV doc pm an (.ref c) ct ∧ K.lookup f = some ⟨oc, od, .func fd, osl⟩ ∧ PySem.W.codeIn K (.ref c) qual = true
section
variable {P : Program} {w : World} {K : PySem.W.Frag} {mg : Str → Option Value} {base : Heap} {x qual : Str} {st : Stmt} {c f : Addr} {fd : FuncData} {N ps : List Str} {k : Nat}
theorem okDC {sp2 : Sp2} (F : DfC K x qual st c f fd) (S : FnScope N ps (defScope st)) (len : ∀ ds M Q2 E2, sp2 ds M Q2 E2 → ds.length = ps.length)
    (hbody : ∀ (A : Around) (outer : List Env) (s : Shared) (H : Hp) (E : XK) (G Fr : Hp) (ds : List DV) (M : Mu) (Q2 : DQ) (E2 : XK2), Room k (A.deeper (envOfC qual (defScope st) s.heap.objs.size f (.ref c))) → sp2 ds M Q2 E2 →
      ∃ t, PSs (cxOf CX0 P w K mg base N qual (defScope st) f (.ref c) A outer s H E).nox (defBody st) t ∧ WS (Z_ P w K G Fr) t { nx := fun _ M' => Q2 .n M', rt := Q2 } (start2 N ds) M) :
    FnOk P w K mg base CX0 (k + 1) f fd ps (lift ⟨P, w, K⟩ sp2) := by
  obtain ⟨oc, od, kV, doc, pm, an, ct, osl, rfl, lk, hcc⟩ := F
  refine fn_of lk hcc S (lift_len len) fun A outer s H vs Q E hr h => ?_
  obtain ⟨G, Fr, ds, M, Q2, E2, R, x, q, r, ex⟩ := h
  obtain ⟨t, h1, h2⟩ := hbody A outer s H E G Fr ds M Q2 E2 hr q
  exact ⟨t, h1.nox, h2 G _ H _ (Same.refl G) R (env_start x) ⟨fun ρ' σ' G' M' H' s' R' _ q' => r _ _ G' M' H' s' R' dat_v' q', r, fun _ _ _ _ _ _ _ _ z => z.elim, fun _ _ _ _ _ _ _ _ z => z.elim⟩⟩
end
/-- the store at the law's beginning: the tables, all empty -/
def tabM (l : List (Addr × Str)) : Mu := fun b => (l.lookup b).map MO.tab
def spLT (K : PySem.W.Frag) (cs : List (Addr × Addr)) : Sp := fun vs H Q _ => ∃ (a : Addr) (ns : List Int), vs = [.ref a] ∧ SqL K H a (ns.map V.int) ∧ ns.length ≤ 63 ∧ (∀ p ∈ cs, H p.2 = some (.tbl #[])) ∧ ∀ H', Q (.bl true) H'
theorem lookup_map : ∀ {l : List (Addr × Str)} {b : Addr} {q : Str}, l.lookup b = some q → b ∈ l.map (·.1)
  | [], _, _, h => by simp at h
  | (a, z) :: l, b, q, h => by
    rw [List.lookup_cons] at h
    cases e : b == a with
    | true =>
      rw [beq_iff_eq] at e
      subst e
      exact List.mem_cons_self
    | false =>
      rw [e] at h
      exact List.mem_cons_of_mem _ (lookup_map h)
theorem okLawT {P : Program} {w : World} {K : PySem.W.Frag} {mg : Str → Option Value} {base : Heap} {x qual n : Str} {st : Stmt} {dvs : List V} {f : Addr} {fd : FuncData} {N : List Str} {k : Nat} {cs : List (Addr × Addr)} (l : List (Addr × Str)) (hl : l.map (·.1) = cs.map (·.2)) (F : Df K x qual st dvs f fd) (S : FnScope N [n] (defScope st))
    (hbody : ∀ (cdv : Value) (A : Around) (outer : List Env) (s : Shared) (H : Hp) (E : XK) (a : Addr) (ns : List Int), Room k (A.deeper (envOfC qual (defScope st) s.heap.objs.size f cdv)) → ∀ G : Hp, SqL K G a (ns.map V.int) → ns.length ≤ 63 →
      ∃ t, PSs (cxOf CX0 P w K mg base N qual (defScope st) f cdv A outer s H E).nox (defBody st) t ∧ WS (Z_ P w K G (fun _ => none)) t { nx := fun _ _ => False, rt := fun d _ => d = .b true } (start2 N [.r a]) (tabM l)) :
    FnOk P w K mg base CX0 (k + 1) f fd [n] (spLT K cs) := by
  refine F.ok S (fun vs H Q E h => ?_) fun cdv A outer s H vs Q E hr h => ?_
  · obtain ⟨a, ns, rfl, _⟩ := h
    rfl
  · obtain ⟨a, ns, rfl, h1, h2, hT, q⟩ := h
    have isT : ∀ b q, l.lookup b = some q → H b = some (.tbl #[]) := fun b q e => by
      have := lookup_map e
      rw [hl] at this
      obtain ⟨p, hp, rfl⟩ := List.mem_map.mp this
      exact hT p hp
    have hG : SqL K (fun b => match l.lookup b with | some _ => none | none => H b) a (ns.map V.int) := by
      have key : ∀ o, H a = some o → (∀ ps, o ≠ .tbl ps) → (match l.lookup a with | some _ => none | none => H a) = some o := fun o e ne => by
        cases z : l.lookup a with
        | none => exact e
        | some q =>
          have := isT a q z
          rw [e] at this
          exact absurd (Option.some.inj this) (ne _)
      rcases h1 with h1 | h1
      · rcases h1 with h1 | ⟨o, h1⟩
        · exact .inl (.inl (key _ h1 (fun ps z => nomatch z)))
        · exact .inl (.inr ⟨o, key _ h1 (fun ps z => nomatch z)⟩)
      · exact .inr h1
    obtain ⟨t, k1, k2⟩ := hbody cdv A outer s H E a ns hr _ hG h2
    refine ⟨t, k1.nox, k2 _ _ H _ (Same.refl _) ⟨fun b o e => ?_, fun _ _ z => (by cases z), fun _ _ z => (by cases z), fun b o e => ?_⟩ (env_start (datL_cons' dat_v' datL_nil')) ⟨fun _ _ _ _ _ _ _ _ z => z.elim, fun d v G' M' H' _ _ x e => ?_, fun _ _ _ _ _ _ _ _ z => z.elim, fun _ _ _ _ _ _ _ _ z => z.elim⟩⟩
    · cases z : l.lookup b with
      | none => simp only [z] at e; exact e
      | some q => simp only [z] at e; cases e
    · unfold tabM at e
      cases z : l.lookup b with
      | none => rw [z] at e; cases e
      | some q =>
        rw [z] at e
        cases e
        refine ⟨by simp only [z], #[], isT b q z, True.intro, fun pos cv k => ?_⟩
        have : codeAmong pos [] = some cv := k
        simp [codeAmong] at this
    · subst e
      rw [dat_v.mp x]
      exact q H'
theorem walkLT {l : PySem.W.OpenLaw} {q : Program} {loose : List Str} {XP : (Str → Option Value) → Heap → Prop} {YP : World → Heap → Prop} {d : DefRec} {K : Params → PySem.W.Frag} {k : Nat} {ts : List Addr} (hk : Room k callerA) (hn : l.most = some 63) (hdf : d.params.defaults = [])
    (hY : ∀ (w : World) (h : Heap), YP w h → (K w.params).In h ∧ ∀ P ∈ ts, h.get? P = some (PySem.W.tabObj #[]))
    (F : ∀ (w : World) (mg : Str → Option Value) (fa : Addr) (h : Heap), (K w.params).In h → h.Ns mainGlobals mg → mg d.name = some (.ref fa) →
      ∃ (fd : FuncData) (cs : List (Addr × Addr)), (∀ p ∈ cs, p.2 ∈ ts ∧ (K w.params).lookup p.2 = none ∧ PySem.W.codeHdIn (K w.params) p.1 p.2 = true) ∧ (∀ (s : Shared) (u : Value), BindsTo s fd ⟨[u], []⟩ [("_law_script", u)]) ∧
        ∀ base : Heap, (K w.params).In base → base.Ns mainGlobals mg → (∀ p ∈ cs, TabB base mg p.1 p.2) → FnOk l.prog w (K w.params) mg base CX0 k fa fd ["_law_script"] (spLT (K w.params) cs)) :
    PySem.W.WalkO q loose XP YP l.row.toRowW d [] (fun f vs => PySem.call f vs) :=
  walk_ofTs (n := 63) (k := k) (x := "_law_script") (CX := fun _ => CX0) (K := K) hn (by decide) hdf hk (fun w h y => (hY w h y).1) (fun w mg fa h y kin ns nm => by
    obtain ⟨fd, cs, h1, h2, h3⟩ := F w mg fa h kin ns nm
    refine ⟨fd, cs, _, fun p hp => (hY w h y).2 _ (h1 p hp).1, fun p hp => (h1 p hp).2.1, fun p hp => PySem.W.codeHd_of_K kin (h1 p hp).2.2, h2, fun H a ns hl _ hT hS => ⟨a, ns, rfl, hS, hl, hT, fun _ => rfl⟩, h3⟩) fun _ _ _ _ _ z => z
/-- the table that a code object names -/
def tabAd (K : PySem.W.Frag) (c : Addr) : Addr := match K.lookup c with
  | some ⟨_, _, .fields vs, _⟩ => (match (vs[11]? : Option Value) with | some (.ref P) => P | _ => 0)
  | _ => 0
def tabHd (K : PySem.W.Frag) (ts : List Addr) (c : Addr) : Bool := ts.contains (tabAd K c) && ((K.lookup (tabAd K c)).isNone && PySem.W.codeHdIn K c (tabAd K c))
theorem tabHd_ok {K : PySem.W.Frag} {ts : List Addr} {c : Addr} (h : tabHd K ts c = true) : tabAd K c ∈ ts ∧ K.lookup (tabAd K c) = none ∧ PySem.W.codeHdIn K c (tabAd K c) = true := by
  unfold tabHd at h
  rw [Bool.and_eq_true, Bool.and_eq_true] at h
  exact ⟨by simpa using h.1, by simpa using h.2.1, h.2.2⟩
end DL
set_option Elab.async false
set_option linter.all false
set_option maxRecDepth 100000
set_option maxHeartbeats 2000000
/-! DL84: data told of the same things are equal, empty dicts among them. -/
namespace DL
open PySem PySem.Spec PyProof.Rows L2
inductive Alike (K : PySem.W.Frag) (H : Hp) : Nat → V → V → Prop
  | same {n : Nat} {x : V} (h : okV x = true) : Alike K H n x x
  | emp {n : Nat} {p q : Addr} (h1 : Rd H p (.dK [])) (h2 : Rd H q (.dK [])) : Alike K H n (.ref p) (.ref q)
  | tup {n : Nat} {p q : Addr} {xs ys : List V} (h1 : SqT K H p xs) (h2 : SqT K H q ys) (e : xs.length = ys.length) (a : ∀ (i : Nat) x y, xs[i]? = some x → ys[i]? = some y → Alike K H n x y) : Alike K H (n + 1) (.ref p) (.ref q)
  | lst {n : Nat} {p q : Addr} {xs ys : List V} (h1 : SqL K H p xs) (h2 : SqL K H q ys) (e : xs.length = ys.length) (a : ∀ (i : Nat) x y, xs[i]? = some x → ys[i]? = some y → Alike K H n x y) : Alike K H (n + 1) (.ref p) (.ref q)
theorem dict0 {P : Program} {w : World} {h : Heap} {a : Addr} (d : h.DictOf (mixKind P w) a []) (P' : Program) (w' : World) : h.DictOf (mixKind P' w') a [] := by
  obtain ⟨o, es, ep, h1, h2, h3, h4, h5, h6⟩ := d
  have e : es.toList = [] := by
    cases q : es.toList with
    | nil => rfl
    | cons x l => rw [q] at h5; cases h5
  refine ⟨o, es, ep, h1, h2, h3, fun x hx => ?_, by rw [e]; exact .nil, List.nodup_nil⟩
  have := Array.mem_toList_iff.mpr hx
  rw [e] at this
  cases this
theorem at_both {xs ys : List V} {us ws : List Value} (r : Vals xs us) (r' : Vals ys ws) (e : xs.length = ys.length) (j : Nat) (j1 : j < us.toArray.size) (j2 : j < ws.toArray.size) : ∃ x y, xs[j]? = some x ∧ ys[j]? = some y ∧ RelV x us.toArray[j] ∧ RelV y ws.toArray[j] := by
  have l1 : j < us.length := by simpa using j1
  have l2 : j < ws.length := by simpa using j2
  have k1 : j < xs.length := by rw [r.length]; exact l1
  have k2 : j < ys.length := by rw [r'.length]; exact l2
  obtain ⟨u, e1, r1⟩ := r.get (List.getElem?_eq_getElem k1)
  obtain ⟨v, e2, r2⟩ := r'.get (List.getElem?_eq_getElem k2)
  rw [List.getElem?_eq_getElem l1] at e1
  rw [List.getElem?_eq_getElem l2] at e2
  cases e1
  cases e2
  exact ⟨_, _, List.getElem?_eq_getElem k1, List.getElem?_eq_getElem k2, r1, r2⟩
section
variable {X : Cx} {pins : List (Addr × PySem.Obj)} {σ : L2.St} {H : Hp} {s : Shared}
theorem Alike.eqAt (I : L2.Inv X pins σ H s) {n : Nat} {x y : V} (h : Alike X.K H n x y) : ∀ (A : Around) (u v : Value), A.units + n < cLine → RelV x u → RelV y v → SeqAt.EqAt A s u v true := by
  induction h with
  | same h => exact fun A u v _ r1 r2 => eqAt_rel h r1 r2
  | @emp n p q h1 h2 =>
    intro A u v hu r1 r2
    cases r1
    cases r2
    by_cases e : p = q
    · subst e; exact SeqAt.EqAt.same _
    · obtain ⟨_, s1, us, kv1, d1⟩ := h1.ok I.hok
      obtain ⟨_, s2, ws, kv2, d2⟩ := h2.ok I.hok
      cases kv1
      cases kv2
      exact SeqAt.EqAt.of_refs e fun prog w E Q hq => PySem.W.keq_eq s1 s2 (dict0 d1 prog w) (dict0 d2 prog w) (by omega) (fun _ => .nil) hq
  | @tup n p q xs ys h1 h2 e a ih =>
    intro A u v hu r1 r2
    cases r1
    cases r2
    by_cases ne : p = q
    · subst ne; exact SeqAt.EqAt.same _
    · obtain ⟨its, ra, ⟨o, ho, hc, m, hd⟩, _⟩ := I.tuple h1
      obtain ⟨jts, rb, ⟨o2, ho2, hc2, m2, hd2⟩, _⟩ := I.tuple h2
      have := SeqAt.RcAt.tuples (A := A) (s := s) (e := fun _ => true) ⟨o, ho, hc, m, hd⟩ ⟨o2, ho2, hc2, m2, hd2⟩ (by omega) fun j j1 j2 => by
        obtain ⟨x, y, e1, e2, q1, q2⟩ := at_both ra rb e j j1 j2
        exact ih j x y e1 e2 A.in1 _ _ (by rw [show ∀ B : Around, B.in1.units = B.units + 1 from fun _ => rfl]; omega) q1 q2
      have es : its.toArray.size = jts.toArray.size := by rw [List.size_toArray, List.size_toArray, ← ra.length, ← rb.length, e]
      have eb : ((List.range (min its.toArray.size jts.toArray.size)).all (fun _ => true) && its.toArray.size == jts.toArray.size) = true := by rw [es]; simp
      rw [eb] at this
      exact SeqAt.EqAt.of_refs ne this
  | @lst n p q xs ys h1 h2 e a ih =>
    intro A u v hu r1 r2
    cases r1
    cases r2
    by_cases ne : p = q
    · subst ne; exact SeqAt.EqAt.same _
    · obtain ⟨its, ra, ⟨o, m, ho, hc, _, hd⟩, _⟩ := I.list h1
      obtain ⟨jts, rb, ⟨o2, m2, ho2, hc2, _, hd2⟩, _⟩ := I.list h2
      have es : its.toArray.size = jts.toArray.size := by rw [List.size_toArray, List.size_toArray, ← ra.length, ← rb.length, e]
      have := SeqAt.RcAt.lists (A := A) (s := s) (e := fun _ => true) ⟨o, ho, hc, m, hd⟩ ⟨o2, ho2, hc2, m2, hd2⟩ es (by omega) fun j j1 j2 => by
        obtain ⟨x, y, e1, e2, q1, q2⟩ := at_both ra rb e j j1 j2
        exact ih j x y e1 e2 A.in1 _ _ (by rw [show ∀ B : Around, B.in1.units = B.units + 1 from fun _ => rfl]; omega) q1 q2
      have eb : ((List.range its.toArray.size).all (fun _ => true)) = true := by simp
      rw [eb] at this
      exact SeqAt.EqAt.of_refs ne this
/-- lists, tuples told of the same things: x == y, x != y -/
def rSame (K : PySem.W.Frag) (neg : Bool) : R2 := fun x y H Q => ∃ (n : Nat) (a b : Addr) (xs ys : List V), n ≤ 60 ∧ x = .ref a ∧ y = .ref b ∧ ((SqL K H a xs ∧ SqL K H b ys) ∨ (SqT K H a xs ∧ SqT K H b ys)) ∧ xs.length = ys.length ∧
  (∀ (i : Nat) x y, xs[i]? = some x → ys[i]? = some y → Alike K H n x y) ∧ Q (.bl (!neg)) H
theorem op_eqSame (hu : X.A.units + 64 < cLine) : OpR X (compareOp .Eq) (rSame X.K false) := by
  intro pins s σ H x y v u Q I rx ry h
  obtain ⟨n, a, b, xs, ys, hn, rfl, rfl, hor, e, al, q⟩ := h
  cases rx
  cases ry
  rcases hor with ⟨h1, h2⟩ | ⟨h1, h2⟩
  · obtain ⟨its, ra, ⟨o, m, ho, hc, _, hd⟩, _⟩ := I.list h1
    obtain ⟨jts, rb, ⟨o2, m2, ho2, hc2, _, hd2⟩, _⟩ := I.list h2
    have es : its.toArray.size = jts.toArray.size := by rw [List.size_toArray, List.size_toArray, ← ra.length, ← rb.length, e]
    have := SeqAt.RcAt.lists (A := X.A) (s := s) (e := fun _ => true) ⟨o, ho, hc, m, hd⟩ ⟨o2, ho2, hc2, m2, hd2⟩ es (by omega) fun j j1 j2 => by
      obtain ⟨x, y, e1, e2, q1, q2⟩ := at_both ra rb e j j1 j2
      exact (al j x y e1 e2).eqAt I X.A.in1 _ _ (by rw [show ∀ B : Around, B.in1.units = B.units + 1 from fun _ => rfl]; omega) q1 q2
    have eb : ((List.range its.toArray.size).all (fun _ => true)) = true := by simp
    rw [eb] at this
    exact this X.prog X.w X.xe _ ⟨.bl true, H, I, rfl, q⟩
  · obtain ⟨its, ra, ⟨o, ho, hc, m, hd⟩, _⟩ := I.tuple h1
    obtain ⟨jts, rb, ⟨o2, ho2, hc2, m2, hd2⟩, _⟩ := I.tuple h2
    have := SeqAt.RcAt.tuples (A := X.A) (s := s) (e := fun _ => true) ⟨o, ho, hc, m, hd⟩ ⟨o2, ho2, hc2, m2, hd2⟩ (by omega) fun j j1 j2 => by
      obtain ⟨x, y, e1, e2, q1, q2⟩ := at_both ra rb e j j1 j2
      exact (al j x y e1 e2).eqAt I X.A.in1 _ _ (by rw [show ∀ B : Around, B.in1.units = B.units + 1 from fun _ => rfl]; omega) q1 q2
    have es : its.toArray.size = jts.toArray.size := by rw [List.size_toArray, List.size_toArray, ← ra.length, ← rb.length, e]
    have eb : ((List.range (min its.toArray.size jts.toArray.size)).all (fun _ => true) && its.toArray.size == jts.toArray.size) = true := by rw [es]; simp
    rw [eb] at this
    exact this X.prog X.w X.xe _ ⟨.bl true, H, I, rfl, q⟩
theorem op_neSame (hu : X.A.units + 64 < cLine) : OpR X (compareOp .NotEq) (rSame X.K true) := by
  intro pins s σ H x y v u Q I rx ry h
  obtain ⟨n, a, b, xs, ys, hn, rfl, rfl, hor, e, al, q⟩ := h
  cases rx
  cases ry
  rcases hor with ⟨h1, h2⟩ | ⟨h1, h2⟩
  · obtain ⟨its, ra, ⟨o, m, ho, hc, _, hd⟩, _⟩ := I.list h1
    obtain ⟨jts, rb, ⟨o2, m2, ho2, hc2, _, hd2⟩, _⟩ := I.list h2
    have es : its.toArray.size = jts.toArray.size := by rw [List.size_toArray, List.size_toArray, ← ra.length, ← rb.length, e]
    have := SeqAt.RcNeAt.lists (A := X.A) (s := s) (e := fun _ => true) ⟨o, ho, hc, m, hd⟩ ⟨o2, ho2, hc2, m2, hd2⟩ es (by omega) fun j j1 j2 => by
      obtain ⟨x, y, e1, e2, q1, q2⟩ := at_both ra rb e j j1 j2
      exact (al j x y e1 e2).eqAt I X.A.in1 _ _ (by rw [show ∀ B : Around, B.in1.units = B.units + 1 from fun _ => rfl]; omega) q1 q2
    have eb : (!(List.range its.toArray.size).all (fun _ => true)) = false := by simp
    rw [eb] at this
    exact this X.prog X.w X.xe _ ⟨.bl false, H, I, rfl, q⟩
  · obtain ⟨its, ra, ⟨o, ho, hc, m, hd⟩, _⟩ := I.tuple h1
    obtain ⟨jts, rb, ⟨o2, ho2, hc2, m2, hd2⟩, _⟩ := I.tuple h2
    have := SeqAt.RcNeAt.tuples (A := X.A) (s := s) (e := fun _ => true) ⟨o, ho, hc, m, hd⟩ ⟨o2, ho2, hc2, m2, hd2⟩ (by omega) fun j j1 j2 => by
      obtain ⟨x, y, e1, e2, q1, q2⟩ := at_both ra rb e j j1 j2
      exact (al j x y e1 e2).eqAt I X.A.in1 _ _ (by rw [show ∀ B : Around, B.in1.units = B.units + 1 from fun _ => rfl]; omega) q1 q2
    have es : its.toArray.size = jts.toArray.size := by rw [List.size_toArray, List.size_toArray, ← ra.length, ← rb.length, e]
    have eb : (!((List.range (min its.toArray.size jts.toArray.size)).all (fun _ => true) && its.toArray.size == jts.toArray.size)) = false := by rw [es]; simp
    rw [eb] at this
    exact this X.prog X.w X.xe _ ⟨.bl false, H, I, rfl, q⟩
end
theorem k_eqS {X : Cx} {K : PySem.W.Frag} (e : X.K = K) (hu : X.A.units + 64 < cLine) : OpR X (compareOp .Eq) (rSame K false) := e ▸ op_eqSame hu
theorem k_neS {X : Cx} {K : PySem.W.Frag} (e : X.K = K) (hu : X.A.units + 64 < cLine) : OpR X (compareOp .NotEq) (rSame K true) := e ▸ op_neSame hu
/-! data of which two readings are alike -/
mutual
def DV.alk : DV → Nat → Bool
  | .v x, _ => okV x
  | .tup ds, n + 1 => alkL ds n
  | .lst ds, n + 1 => alkL ds n
  | .dk [] [], _ => true
  | _, _ => false
def alkL : List DV → Nat → Bool
  | [], _ => true
  | d :: ds, n => d.alk n && alkL ds n
end
section
variable {W : Wd} {Z : Zn} {G : Hp} {M : Mu} {Q2 : DQ} {d e : DV} {ds : List DV}
theorem alkL_get : ∀ {ds : List DV} {n i : Nat} {d : DV}, alkL ds n = true → ds[i]? = some d → d.alk n = true
  | [], n, i, d, _, e => by simp at e
  | d :: ds, n, 0, d', h, e => by
    simp only [alkL, Bool.and_eq_true] at h
    simp at e
    subst e
    exact h.1
  | d :: ds, n, i + 1, d', h, e => by
    simp only [alkL, Bool.and_eq_true] at h
    exact alkL_get (i := i) h.2 (by simpa using e)
theorem alike_of : ∀ (n : Nat) (d : DV) (x y : V), d.alk n = true → Dat W G d x → Dat W G d y → Alike W.K G n x y
  | n, .v x, y, z, h, h1, h2 => by
    rw [dat_v.mp h1, dat_v.mp h2]
    exact .same (by simpa [DV.alk] using h)
  | n + 1, .tup ds, y, z, h, h1, h2 => by
    obtain ⟨a, xs, rfl, s1, l1⟩ := dat_tup.mp h1
    obtain ⟨b, ys, rfl, s2, l2⟩ := dat_tup.mp h2
    have h' : alkL ds n = true := by simpa [DV.alk] using h
    refine .tup s1 s2 (by rw [l1.length, l2.length]) fun i x y e1 e2 => ?_
    obtain ⟨d1, k1, k2⟩ := l1.getV e1
    obtain ⟨d2, k3, k4⟩ := l2.getV e2
    rw [k1] at k3
    cases k3
    exact alike_of n d1 x y (alkL_get h' k1) k2 k4
  | n + 1, .lst ds, y, z, h, h1, h2 => by
    obtain ⟨a, xs, rfl, s1, l1⟩ := dat_lst.mp h1
    obtain ⟨b, ys, rfl, s2, l2⟩ := dat_lst.mp h2
    have h' : alkL ds n = true := by simpa [DV.alk] using h
    refine .lst (SqL.of s1) (SqL.of s2) (by rw [l1.length, l2.length]) fun i x y e1 e2 => ?_
    obtain ⟨d1, k1, k2⟩ := l1.getV e1
    obtain ⟨d2, k3, k4⟩ := l2.getV e2
    rw [k1] at k3
    cases k3
    exact alike_of n d1 x y (alkL_get h' k1) k2 k4
  | n, .dk ks ds, y, z, h, h1, h2 => by
    cases ks with
    | cons _ _ => simp [DV.alk] at h
    | nil =>
      cases ds with
      | cons _ _ => simp [DV.alk] at h
      | nil =>
        obtain ⟨a, xs, rfl, s1, _, l1⟩ := dat_dk.mp h1
        obtain ⟨b, ys, rfl, s2, _, l2⟩ := dat_dk.mp h2
        exact .emp s1 s2
  | 0, .tup ds, _, _, h, _, _ => by simp [DV.alk] at h
  | 0, .lst ds, _, _, h, _, _ => by simp [DV.alk] at h
  | n, .obj _ _ _, _, _, h, _, _ => by simp [DV.alk] at h
  | n, .dl _ _, _, _, h, _, _ => by simp [DV.alk] at h
  | n, .fn _ _, _, _, h, _, _ => by simp [DV.alk] at h
theorem Alike.mono {K : PySem.W.Frag} {G H : Hp} {n : Nat} {x y : V} (h : Alike K G n x y) (s : Same G H) : Alike K H n x y := by
  induction h with
  | same h => exact .same h
  | emp h1 h2 => exact .emp (Rd.same s h1) (Rd.same s h2)
  | tup h1 h2 e a ih => exact .tup (sqt_mono s h1) (sqt_mono s h2) e ih
  | lst h1 h2 e a ih => exact .lst (sql_mono s h1) (sql_mono s h2) e ih
theorem wr_sameL {neg : Bool} {n : Nat} (hn : n ≤ 60) (h : alkL ds n = true) (q : Q2 (.b (!neg)) M) : WR Z (rSame Z.W.K neg) (.lst ds) (.lst ds) M Q2 := fun G H vx vy Q s R dx dy r => by
  obtain ⟨a, xs, rfl, s1, l1⟩ := dat_lst.mp dx
  obtain ⟨b, ys, rfl, s2, l2⟩ := dat_lst.mp dy
  refine ⟨n, a, b, xs, ys, hn, rfl, rfl, .inl ⟨SqL.of (R.ex _ _ s1), SqL.of (R.ex _ _ s2)⟩, by rw [l1.length, l2.length], fun i x y e1 e2 => ?_, r _ _ G M H (Same.refl G) R dat_v' q⟩
  obtain ⟨d1, k1, k2⟩ := l1.getV e1
  obtain ⟨d2, k3, k4⟩ := l2.getV e2
  rw [k1] at k3
  cases k3
  exact (alike_of n d1 x y (alkL_get h k1) k2 k4).mono R.ex
theorem wr_sameT {neg : Bool} {n : Nat} (hn : n ≤ 60) (h : alkL ds n = true) (q : Q2 (.b (!neg)) M) : WR Z (rSame Z.W.K neg) (.tup ds) (.tup ds) M Q2 := fun G H vx vy Q s R dx dy r => by
  obtain ⟨a, xs, rfl, s1, l1⟩ := dat_tup.mp dx
  obtain ⟨b, ys, rfl, s2, l2⟩ := dat_tup.mp dy
  refine ⟨n, a, b, xs, ys, hn, rfl, rfl, .inr ⟨sqt_mono R.ex s1, sqt_mono R.ex s2⟩, by rw [l1.length, l2.length], fun i x y e1 e2 => ?_, r _ _ G M H (Same.refl G) R dat_v' q⟩
  obtain ⟨d1, k1, k2⟩ := l1.getV e1
  obtain ⟨d2, k3, k4⟩ := l2.getV e2
  rw [k1] at k3
  cases k3
  exact (alike_of n d1 x y (alkL_get h k1) k2 k4).mono R.ex
end
/-- how the lambdas of a def are named -/
def lamN (x : Str) : Str := x ++ ".<locals>." ++ "<lambda>"
/-- a comprehension over things told one by one -/
theorem comp_one {Z : Zn} {g : TG} {tt : TT} {te : TE} {ρ : Ro} {k : List DV → Mu → Prop} {d : DV} {ds acc : List DV} {M : Mu} (hl : acc.length < sizeLine) (h : ∀ F, DL.WG (Z.fr F) g d ρ M fun ρ2 M2 => DL.WT (Z.fr F) tt ρ2 M2 fun b M3 =>
    if b = true then DL.WE (Z.fr F) te ρ2 M3 fun y M4 => Comp Z g tt te ρ k ds (acc ++ [y]) M4 else Comp Z g tt te ρ k ds acc M3) : Comp Z g tt te ρ k (d :: ds) acc M := ⟨hl, h⟩
theorem comp_end {Z : Zn} {g : TG} {tt : TT} {te : TE} {ρ : Ro} {k : List DV → Mu → Prop} {acc : List DV} {M : Mu} (h : k acc M) : Comp Z g tt te ρ k [] acc M := h
end DL
set_option Elab.async false
set_option linter.all false
set_option maxRecDepth 100000
set_option maxHeartbeats 4000000
namespace Law
open PySem PySem.Spec PyProof.Rows L2 DL
def top (i : Nat) : Stmt := PySem.Challenge.pw_foldbough_k03_rows_put_in_and_taken_out.main.body.getD i (.Pass ⟨0, 0, 0, 0⟩)
abbrev s_is_name : Stmt := top 9
abbrev s_is_value : Stmt := top 10
abbrev s_is_row : Stmt := top 11
abbrev s_want_row : Stmt := top 12
abbrev s_are_columns : Stmt := top 13
abbrev s__law_well : Stmt := top 16
abbrev s__law_draw : Stmt := top 17
abbrev s__law_names : Stmt := top 18
abbrev s__law_base : Stmt := top 19
abbrev s__law_refused : Stmt := top 20
abbrev s__law_odd : Stmt := top 21
abbrev s__law_right : Stmt := top 22
abbrev s_law : Stmt := top 23
abbrev s_NoRow_o___init__ : Stmt := inClass (top 3) 0
abbrev s_Table_o___init__ : Stmt := inClass (top 14) 0
abbrev s_Table_o___len__ : Stmt := inClass (top 14) 1
abbrev s_Table_o___eq__ : Stmt := inClass (top 14) 2
abbrev s_Table_o_columns : Stmt := inClass (top 14) 4
abbrev s_Table_o_rows : Stmt := inClass (top 14) 5
abbrev s_Table_o_has : Stmt := inClass (top 14) 6
abbrev s_Table_o_with_row : Stmt := inClass (top 14) 7
abbrev s_Table_o_without_row : Stmt := inClass (top 14) 8
structure Ad where
  c_FoldError : Addr
  c_NoColumns : Addr
  c_NoRow : Addr
  c_Table : Addr
  f_is_name : Addr
  d_is_name : FuncData
  f_is_value : Addr
  d_is_value : FuncData
  f_is_row : Addr
  d_is_row : FuncData
  f_want_row : Addr
  d_want_row : FuncData
  f_are_columns : Addr
  d_are_columns : FuncData
  f__law_well : Addr
  d__law_well : FuncData
  f__law_draw : Addr
  d__law_draw : FuncData
  f__law_names : Addr
  d__law_names : FuncData
  f__law_base : Addr
  d__law_base : FuncData
  f__law_refused : Addr
  d__law_refused : FuncData
  f__law_odd : Addr
  d__law_odd : FuncData
  f__law_right : Addr
  d__law_right : FuncData
  tc__law_right : Addr
  tp__law_right : Addr
  f_law : Addr
  d_law : FuncData
  f_NoRow_o___init__ : Addr
  d_NoRow_o___init__ : FuncData
  f_Table_o___init__ : Addr
  d_Table_o___init__ : FuncData
  f_Table_o___len__ : Addr
  d_Table_o___len__ : FuncData
  f_Table_o___eq__ : Addr
  d_Table_o___eq__ : FuncData
  f_Table_o_columns : Addr
  d_Table_o_columns : FuncData
  f_Table_o_rows : Addr
  d_Table_o_rows : FuncData
  f_Table_o_has : Addr
  d_Table_o_has : FuncData
  f_Table_o_with_row : Addr
  d_Table_o_with_row : FuncData
  f_Table_o_without_row : Addr
  d_Table_o_without_row : FuncData
structure TBs (base : Heap) (mg : Str → Option Value) (a : Ad) : Prop where
  tb__law_right : LamX.TabB base mg a.tc__law_right a.tp__law_right
structure Tx (K : PySem.W.Frag) (mg : Str → Option Value) (a : Ad) : Prop where
  F_is_name : Df K "is_name" "is_name" s_is_name [] a.f_is_name a.d_is_name
  g_is_name : mg "is_name" = some (.ref a.f_is_name)
  k_is_name : PySem.W.keepIn K (.ref a.f_is_name) = true
  b_is_name : Binds K a.d_is_name ["thing"] []
  F_is_value : Df K "is_value" "is_value" s_is_value [] a.f_is_value a.d_is_value
  g_is_value : mg "is_value" = some (.ref a.f_is_value)
  k_is_value : PySem.W.keepIn K (.ref a.f_is_value) = true
  b_is_value : Binds K a.d_is_value ["thing"] []
  F_is_row : Df K "is_row" "is_row" s_is_row [] a.f_is_row a.d_is_row
  g_is_row : mg "is_row" = some (.ref a.f_is_row)
  k_is_row : PySem.W.keepIn K (.ref a.f_is_row) = true
  b_is_row : Binds K a.d_is_row ["thing", "many"] []
  F_want_row : Df K "want_row" "want_row" s_want_row [.int 0] a.f_want_row a.d_want_row
  g_want_row : mg "want_row" = some (.ref a.f_want_row)
  k_want_row : PySem.W.keepIn K (.ref a.f_want_row) = true
  b_want_row : Binds K a.d_want_row ["thing", "many", "at"] []
  bx1_want_row : ∃ ds, Vals [.int 0] ds ∧ Binds K a.d_want_row ["thing", "many", "at"] ds
  F_are_columns : Df K "are_columns" "are_columns" s_are_columns [] a.f_are_columns a.d_are_columns
  g_are_columns : mg "are_columns" = some (.ref a.f_are_columns)
  k_are_columns : PySem.W.keepIn K (.ref a.f_are_columns) = true
  b_are_columns : Binds K a.d_are_columns ["thing"] []
  F__law_well : Df K "_law_well" "_law_well" s__law_well [] a.f__law_well a.d__law_well
  g__law_well : mg "_law_well" = some (.ref a.f__law_well)
  k__law_well : PySem.W.keepIn K (.ref a.f__law_well) = true
  b__law_well : Binds K a.d__law_well ["_law_cell", "_law_k"] []
  F__law_draw : Df K "_law_draw" "_law_draw" s__law_draw [] a.f__law_draw a.d__law_draw
  g__law_draw : mg "_law_draw" = some (.ref a.f__law_draw)
  k__law_draw : PySem.W.keepIn K (.ref a.f__law_draw) = true
  b__law_draw : Binds K a.d__law_draw ["_law_well_here", "_law_top"] []
  F__law_names : Df K "_law_names" "_law_names" s__law_names [] a.f__law_names a.d__law_names
  g__law_names : mg "_law_names" = some (.ref a.f__law_names)
  k__law_names : PySem.W.keepIn K (.ref a.f__law_names) = true
  b__law_names : Binds K a.d__law_names ["_law_well_here", "_law_count"] []
  F__law_base : Df K "_law_base" "_law_base" s__law_base [] a.f__law_base a.d__law_base
  g__law_base : mg "_law_base" = some (.ref a.f__law_base)
  k__law_base : PySem.W.keepIn K (.ref a.f__law_base) = true
  b__law_base : Binds K a.d__law_base ["_law_well_here"] []
  F__law_refused : Df K "_law_refused" "_law_refused" s__law_refused [] a.f__law_refused a.d__law_refused
  g__law_refused : mg "_law_refused" = some (.ref a.f__law_refused)
  k__law_refused : PySem.W.keepIn K (.ref a.f__law_refused) = true
  b__law_refused : Binds K a.d__law_refused ["_law_deed"] []
  F__law_odd : Df K "_law_odd" "_law_odd" s__law_odd [] a.f__law_odd a.d__law_odd
  g__law_odd : mg "_law_odd" = some (.ref a.f__law_odd)
  k__law_odd : PySem.W.keepIn K (.ref a.f__law_odd) = true
  b__law_odd : Binds K a.d__law_odd ["_law_well_here", "_law_wide"] []
  lk__law_right : DfC K "_law_right" "_law_right" s__law_right a.tc__law_right a.f__law_right a.d__law_right
  F__law_right : Df K "_law_right" "_law_right" s__law_right [] a.f__law_right a.d__law_right
  g__law_right : mg "_law_right" = some (.ref a.f__law_right)
  k__law_right : PySem.W.keepIn K (.ref a.f__law_right) = true
  b__law_right : Binds K a.d__law_right ["_law_well_here"] []
  F_law : Df K "law" "law" s_law [] a.f_law a.d_law
  g_law : mg "law" = some (.ref a.f_law)
  k_law : PySem.W.keepIn K (.ref a.f_law) = true
  b_law : Binds K a.d_law ["_law_script"] []
  F_NoRow_o___init__ : Df K "__init__" "NoRow.__init__" s_NoRow_o___init__ [] a.f_NoRow_o___init__ a.d_NoRow_o___init__
  k_NoRow_o___init__ : PySem.W.keepIn K (.ref a.f_NoRow_o___init__) = true
  b_NoRow_o___init__ : Binds K a.d_NoRow_o___init__ ["self", "at"] []
  F_Table_o___init__ : Df K "__init__" "Table.__init__" s_Table_o___init__ [.non] a.f_Table_o___init__ a.d_Table_o___init__
  k_Table_o___init__ : PySem.W.keepIn K (.ref a.f_Table_o___init__) = true
  b_Table_o___init__ : Binds K a.d_Table_o___init__ ["self", "columns", "rows"] []
  bx1_Table_o___init__ : ∃ ds, Vals [.non] ds ∧ Binds K a.d_Table_o___init__ ["self", "columns", "rows"] ds
  F_Table_o___len__ : Df K "__len__" "Table.__len__" s_Table_o___len__ [] a.f_Table_o___len__ a.d_Table_o___len__
  k_Table_o___len__ : PySem.W.keepIn K (.ref a.f_Table_o___len__) = true
  b_Table_o___len__ : Binds K a.d_Table_o___len__ ["self"] []
  F_Table_o___eq__ : Df K "__eq__" "Table.__eq__" s_Table_o___eq__ [] a.f_Table_o___eq__ a.d_Table_o___eq__
  k_Table_o___eq__ : PySem.W.keepIn K (.ref a.f_Table_o___eq__) = true
  b_Table_o___eq__ : Binds K a.d_Table_o___eq__ ["self", "other"] []
  F_Table_o_columns : Df K "columns" "Table.columns" s_Table_o_columns [] a.f_Table_o_columns a.d_Table_o_columns
  k_Table_o_columns : PySem.W.keepIn K (.ref a.f_Table_o_columns) = true
  b_Table_o_columns : Binds K a.d_Table_o_columns ["self"] []
  m_Table_o_columns : Meth K a.c_Table "columns" a.f_Table_o_columns
  F_Table_o_rows : Df K "rows" "Table.rows" s_Table_o_rows [] a.f_Table_o_rows a.d_Table_o_rows
  k_Table_o_rows : PySem.W.keepIn K (.ref a.f_Table_o_rows) = true
  b_Table_o_rows : Binds K a.d_Table_o_rows ["self"] []
  m_Table_o_rows : Meth K a.c_Table "rows" a.f_Table_o_rows
  F_Table_o_has : Df K "has" "Table.has" s_Table_o_has [] a.f_Table_o_has a.d_Table_o_has
  k_Table_o_has : PySem.W.keepIn K (.ref a.f_Table_o_has) = true
  b_Table_o_has : Binds K a.d_Table_o_has ["self", "row"] []
  m_Table_o_has : Meth K a.c_Table "has" a.f_Table_o_has
  F_Table_o_with_row : Df K "with_row" "Table.with_row" s_Table_o_with_row [] a.f_Table_o_with_row a.d_Table_o_with_row
  k_Table_o_with_row : PySem.W.keepIn K (.ref a.f_Table_o_with_row) = true
  b_Table_o_with_row : Binds K a.d_Table_o_with_row ["self", "row"] []
  m_Table_o_with_row : Meth K a.c_Table "with_row" a.f_Table_o_with_row
  F_Table_o_without_row : Df K "without_row" "Table.without_row" s_Table_o_without_row [] a.f_Table_o_without_row a.d_Table_o_without_row
  k_Table_o_without_row : PySem.W.keepIn K (.ref a.f_Table_o_without_row) = true
  b_Table_o_without_row : Binds K a.d_Table_o_without_row ["self", "row"] []
  kp0_Table_o_without_row : KBn K a.d_Table_o_without_row ["self", "row"] 1 ["row"] (fun us ws => us ++ (pick [0] ws ++ [])) (fun us ws => us ++ (pick [0] ws ++ []))
  m_Table_o_without_row : Meth K a.c_Table "without_row" a.f_Table_o_without_row
  gc_FoldError : mg "FoldError" = some (.ref a.c_FoldError)
  sp_FoldError : PySem.W.specialIn K (.ref a.c_FoldError) "__getattribute__" = some (some (.builtin "type.__getattribute__"))
  rd_FoldError : PySem.W.readsIn K a.c_FoldError (.type "type") = true
  fc_FoldError : PySem.W.findCls K (.ref a.c_FoldError) (.type "type") "__init__" = some (.val (.builtin "ValueError.__init__"))
  gc_NoColumns : mg "NoColumns" = some (.ref a.c_NoColumns)
  xi_NoColumns : PySem.W.excIn K a.c_NoColumns [.type "ValueError", .type "Exception", .type "BaseException", .type "object"] "ValueError.__new__" = true
  kc_NoColumns : PySem.W.keepIn K (.ref a.c_NoColumns) = true
  xb_NoColumns : PySem.W.subIn K (.ref a.c_NoColumns) (.type "BaseException") = some true
  xt_NoColumns : PySem.W.typeIn K (.ref a.c_NoColumns) = some (.type "type")
  gc_NoRow : mg "NoRow" = some (.ref a.c_NoRow)
  ox_NoRow : OexC K a.c_NoRow
  iC_NoRow : PySem.W.findIn K (.ref a.c_NoRow) "__init__" = some (some (.ref a.f_NoRow_o___init__))
  tI_NoRow : PySem.W.typeIn K (.ref a.f_NoRow_o___init__) = some (.type "function")
  xc_NoRow : ExcC K a.c_NoRow
  xf_NoRow : XfC K a.c_NoRow
  gc_Table : mg "Table" = some (.ref a.c_Table)
  cl_Table : Cls K a.c_Table
  mk_Table : Mk K a.c_Table a.f_Table_o___init__
  fl_Table : PySem.W.findIn K (.ref a.c_Table) "__len__" = some (some (.ref a.f_Table_o___len__))
  il_Table : PySem.W.isFn K (.ref a.f_Table_o___len__) = true
  eq_Table : EqC K a.c_Table a.f_Table_o___eq__
  ex_NoRow_FoldError : PySem.W.exmOne K (.ref a.c_NoRow) (.ref a.c_FoldError) = some true
  ki_NoRow_NoColumns : PySem.W.kitOne K (.ref a.c_NoRow) (.ref a.c_NoColumns) = some false
  kt_NoRow_NoRow : PySem.W.kitOne K (.ref a.c_NoRow) (.ref a.c_NoRow) = some true
  kt_Table_Table : PySem.W.kitOne K (.ref a.c_Table) (.ref a.c_Table) = some true
  na_NoRow_o_at : NoAttr K a.c_NoRow "at"
  na_Table_o_held : NoAttr K a.c_Table "held"
  na_Table_o_named : NoAttr K a.c_Table "named"
  nf_Table_Table : PySem.W.notFirst K a.c_Table (.ref a.c_Table) = true
  v_LETTERS : ∃ u, mg "LETTERS" = some u ∧ RelV (.str "abcdefghijklmnopqrstuvwxyz") u
  v_LONGEST_NAME : ∃ u, mg "LONGEST_NAME" = some u ∧ RelV (.int 8) u
  v_MOST_COLUMNS : ∃ u, mg "MOST_COLUMNS" = some u ∧ RelV (.int 8) u
  z_all : mg "all" = none
  z_bool : mg "bool" = none
  z_enumerate : mg "enumerate" = none
  z_int : mg "int" = none
  z_isinstance : mg "isinstance" = none
  z_len : mg "len" = none
  z_list : mg "list" = none
  z_range : mg "range" = none
  z_set : mg "set" = none
  z_sorted : mg "sorted" = none
  z_str : mg "str" = none
  z_tuple : mg "tuple" = none
abbrev N_is_name : List Str := ["thing"]
theorem sc_is_name : FnScope N_is_name ["thing"] (defScope s_is_name) := ⟨rfl, rfl, rfl, by decide +kernel, rfl, by decide +kernel, by decide +kernel⟩
abbrev N_is_value : List Str := ["thing"]
theorem sc_is_value : FnScope N_is_value ["thing"] (defScope s_is_value) := ⟨rfl, rfl, rfl, by decide +kernel, rfl, by decide +kernel, by decide +kernel⟩
abbrev N_is_row : List Str := ["thing", "many", "one"]
theorem sc_is_row : FnScope N_is_row ["thing", "many"] (defScope s_is_row) := ⟨rfl, rfl, rfl, by decide +kernel, rfl, by decide +kernel, by decide +kernel⟩
abbrev N_want_row : List Str := ["thing", "many", "at"]
theorem sc_want_row : FnScope N_want_row ["thing", "many", "at"] (defScope s_want_row) := ⟨rfl, rfl, rfl, by decide +kernel, rfl, by decide +kernel, by decide +kernel⟩
abbrev N_are_columns : List Str := ["thing", "one"]
theorem sc_are_columns : FnScope N_are_columns ["thing"] (defScope s_are_columns) := ⟨rfl, rfl, rfl, by decide +kernel, rfl, by decide +kernel, by decide +kernel⟩
abbrev N__law_well : List Str := ["_law_cell", "_law_k"]
theorem sc__law_well : FnScope N__law_well ["_law_cell", "_law_k"] (defScope s__law_well) := ⟨rfl, rfl, rfl, by decide +kernel, rfl, by decide +kernel, by decide +kernel⟩
abbrev N__law_draw : List Str := ["_law_well_here", "_law_top", "_law_found", "_law_prime", "_law_twist"]
theorem sc__law_draw : FnScope N__law_draw ["_law_well_here", "_law_top"] (defScope s__law_draw) := ⟨rfl, rfl, rfl, by decide +kernel, rfl, by decide +kernel, by decide +kernel⟩
abbrev N__law_names : List Str := ["_law_well_here", "_law_count", "_law_letters", "_law_begin", "_law_apart", "_law_base_here", "_law_spot", "_law_more", "_law_found", "_law_k", "_law_letter"]
theorem sc__law_names : FnScope N__law_names ["_law_well_here", "_law_count"] (defScope s__law_names) := ⟨rfl, rfl, rfl, by decide +kernel, rfl, by decide +kernel, by decide +kernel⟩
abbrev N__law_base : List Str := ["_law_well_here", "_law_great"]
theorem sc__law_base : FnScope N__law_base ["_law_well_here"] (defScope s__law_base) := ⟨rfl, rfl, rfl, by decide +kernel, rfl, by decide +kernel, by decide +kernel⟩
abbrev N__law_refused : List Str := ["_law_deed", "_law_found", "e"]
theorem sc__law_refused : FnScope N__law_refused ["_law_deed"] (defScope s__law_refused) := ⟨rfl, rfl, rfl, by decide +kernel, rfl, by decide +kernel, by decide +kernel⟩
abbrev N__law_odd : List Str := ["_law_well_here", "_law_wide", "_law_line", "_law_at", "_law_odd_here", "_law_some"]
theorem sc__law_odd : FnScope N__law_odd ["_law_well_here", "_law_wide"] (defScope s__law_odd) := ⟨rfl, rfl, rfl, by decide +kernel, rfl, by decide +kernel, by decide +kernel⟩
abbrev N__law_right : List Str := ["_law_well_here", "_law_wide", "_law_names_here", "_law_base_here", "_law_rows", "_law_table", "_law_due", "_law_k", "_law_puts", "_law_odd_here", "_law_line", "_law_ahead", "_law_other", "_law_asks", "_law_j", "_law_one", "_law_ask"]
theorem sc__law_right : FnScope N__law_right ["_law_well_here"] (defScope s__law_right) := ⟨rfl, rfl, rfl, by decide +kernel, rfl, by decide +kernel, by decide +kernel⟩
abbrev N_law : List Str := ["_law_script", "_law_k", "_law_cell", "_law_table"]
theorem sc_law : FnScope N_law ["_law_script"] (defScope s_law) := ⟨rfl, rfl, rfl, by decide +kernel, rfl, by decide +kernel, by decide +kernel⟩
abbrev N_NoRow_o___init__ : List Str := ["self", "at"]
theorem sc_NoRow_o___init__ : FnScope N_NoRow_o___init__ ["self", "at"] (defScope s_NoRow_o___init__) := ⟨rfl, rfl, rfl, by decide +kernel, rfl, by decide +kernel, by decide +kernel⟩
abbrev N_Table_o___init__ : List Str := ["self", "columns", "rows", "at", "row"]
theorem sc_Table_o___init__ : FnScope N_Table_o___init__ ["self", "columns", "rows"] (defScope s_Table_o___init__) := ⟨rfl, rfl, rfl, by decide +kernel, rfl, by decide +kernel, by decide +kernel⟩
abbrev N_Table_o___len__ : List Str := ["self"]
theorem sc_Table_o___len__ : FnScope N_Table_o___len__ ["self"] (defScope s_Table_o___len__) := ⟨rfl, rfl, rfl, by decide +kernel, rfl, by decide +kernel, by decide +kernel⟩
abbrev N_Table_o___eq__ : List Str := ["self", "other"]
theorem sc_Table_o___eq__ : FnScope N_Table_o___eq__ ["self", "other"] (defScope s_Table_o___eq__) := ⟨rfl, rfl, rfl, by decide +kernel, rfl, by decide +kernel, by decide +kernel⟩
abbrev N_Table_o_columns : List Str := ["self"]
theorem sc_Table_o_columns : FnScope N_Table_o_columns ["self"] (defScope s_Table_o_columns) := ⟨rfl, rfl, rfl, by decide +kernel, rfl, by decide +kernel, by decide +kernel⟩
abbrev N_Table_o_rows : List Str := ["self"]
theorem sc_Table_o_rows : FnScope N_Table_o_rows ["self"] (defScope s_Table_o_rows) := ⟨rfl, rfl, rfl, by decide +kernel, rfl, by decide +kernel, by decide +kernel⟩
abbrev N_Table_o_has : List Str := ["self", "row"]
theorem sc_Table_o_has : FnScope N_Table_o_has ["self", "row"] (defScope s_Table_o_has) := ⟨rfl, rfl, rfl, by decide +kernel, rfl, by decide +kernel, by decide +kernel⟩
abbrev N_Table_o_with_row : List Str := ["self", "row"]
theorem sc_Table_o_with_row : FnScope N_Table_o_with_row ["self", "row"] (defScope s_Table_o_with_row) := ⟨rfl, rfl, rfl, by decide +kernel, rfl, by decide +kernel, by decide +kernel⟩
abbrev N_Table_o_without_row : List Str := ["self", "row", "one"]
theorem sc_Table_o_without_row : FnScope N_Table_o_without_row ["self", "row"] (defScope s_Table_o_without_row) := ⟨rfl, rfl, rfl, by decide +kernel, rfl, by decide +kernel, by decide +kernel⟩

section
variable {P : Program} {w : World} {K : PySem.W.Frag} {mg : Str → Option Value} {base : Heap} {a : Ad}
theorem ok_NoRow_o___init__ (T : Tx K mg a) : FnOk P w K mg base CX0 1 a.f_NoRow_o___init__ a.d_NoRow_o___init__ ["self", "at"] (spX1 a.c_NoRow "at") :=
  okInit1 (n := "") T.F_NoRow_o___init__ sc_NoRow_o___init__ rfl T.ox_NoRow T.na_NoRow_o_at fun cdv A outer s H E hr => (by exact (pss_cons (ps_expr (pe_finit rfl T.gc_FoldError T.sp_FoldError T.rd_FoldError T.fc_FoldError (pa_cons (pv 0) (pa_cons pe_str pa_nil)))) (pss_one (ps_ost (pv 0) (pv 1)))))

theorem ex_i {P : Int → Prop} {x : Int} (h : P x) : ∃ i, DV.i x = DV.i i ∧ P i := ⟨x, rfl, h⟩
theorem ws_stop {Z : Zn} {ρ : Ro} {M : Mu} {t : TS} {D2 : Ends2} (h : WS Z t D2 ρ M) : WS Z (tStop t) D2 ρ M := h
local macro_rules | `(tactic| walk_at "d") => `(tactic| repeat (first
  | ((with_reducible refine' ws_nrm ?k1 ?_); (case k1 => (dsimp only [wipe2, List.map, List.set]))) | ((with_reducible refine' we_nrm ?k1 ?_); (case k1 => (dsimp only [wipe2, List.map, List.set]))) | ((with_reducible refine' wt_nrm ?k1 ?_); (case k1 => (dsimp only [wipe2, List.map, List.set]))) | ((with_reducible refine' wgs_nrm ?k1 ?_); (case k1 => (dsimp only [wipe2, List.map, List.set]))) | ((with_reducible refine' wg_nrm ?k1 ?_); (case k1 => (dsimp only [wipe2, List.map, List.set])))
  | ((with_reducible refine' ws_nrmW ?k1 ?_); (case k1 => (dsimp only [wipe2, List.map, List.set]))) | ((with_reducible refine' wg_nrmW ?k1 ?_); (case k1 => (dsimp only [wipe2, List.map, List.set]))) | ((with_reducible refine' comp_nrm ?k1 ?_); (case k1 => (dsimp only [wipe2, List.map, List.set])))
  | with_reducible refine ws_seq ?_ | with_reducible refine ws_ret ?_ | with_reducible refine ws_drop ?_ | with_reducible refine ws_set ?_ | with_reducible refine ws_asg ?_ | with_reducible refine wg_sub ?_ | with_reducible refine ws_if ?_ | with_reducible refine ws_next ?_
  | with_reducible refine wt_test ?_ | with_reducible refine wt_B ?_ | with_reducible refine wt_and ?_ | with_reducible refine wt_or ?_ | with_reducible refine wt_not ?_
  | with_reducible refine we_c ?_ | with_reducible refine we_op ?_ | ((with_reducible refine' we_sset ?k1 ?_); (case k1 => exact rfl)) | with_reducible refine we_cb ?_ | with_reducible refine we_un ?_ | with_reducible refine we_andV ?_ | with_reducible refine we_orV ?_ | with_reducible refine we_notV ?_ | with_reducible refine we_if ?_ | with_reducible refine we_tup ?_
  | with_reducible refine we_chain ?_ | with_reducible refine wa_cons ?_ | with_reducible refine wa_nil ?_ | with_reducible refine we_sl ?_ | with_reducible refine wo_none ?_ | with_reducible refine wo_some ?_ | with_reducible refine ex_i ?_
  | ((with_reducible refine' we_var ?k1 ?_); (case k1 => exact rfl)) | with_reducible refine ex_b ?_ | ((with_reducible refine if_tt ?k1 ?_); (case k1 => exact rfl)) | ((with_reducible refine if_ff ?k1 ?_); (case k1 => exact rfl))))
local macro_rules | `(tactic| walk_at "w1") => `(tactic| first
  | with_reducible refine told_f ?_ | walk_at "w2")
local macro_rules | `(tactic| walk_at "u") => `(tactic| repeat walk_at "w2")
local macro_rules | `(tactic| walk_at "w2") => `(tactic| first
  | ((with_reducible refine' ws_nrm ?k1 ?_); (case k1 => (dsimp only [wipe2, List.map, List.set]))) | ((with_reducible refine' we_nrm ?k1 ?_); (case k1 => (dsimp only [wipe2, List.map, List.set]))) | ((with_reducible refine' wt_nrm ?k1 ?_); (case k1 => (dsimp only [wipe2, List.map, List.set]))) | ((with_reducible refine' wgs_nrm ?k1 ?_); (case k1 => (dsimp only [wipe2, List.map, List.set]))) | ((with_reducible refine' wg_nrm ?k1 ?_); (case k1 => (dsimp only [wipe2, List.map, List.set])))
  | ((with_reducible refine' ws_nrmW ?k1 ?_); (case k1 => (dsimp only [wipe2, List.map, List.set]))) | ((with_reducible refine' wg_nrmW ?k1 ?_); (case k1 => (dsimp only [wipe2, List.map, List.set]))) | ((with_reducible refine' comp_nrm ?k1 ?_); (case k1 => (dsimp only [wipe2, List.map, List.set])))
  | with_reducible refine wu_U ?_
  | ((with_reducible refine' we_var ?k1 ?_); (case k1 => exact rfl))
  | with_reducible refine we_c ?_ | with_reducible refine wa_cons ?_ | with_reducible refine wa_nil ?_ | with_reducible refine we_op ?_
  | with_reducible refine ws_seq ?_ | with_reducible refine ws_set ?_ | with_reducible refine ws_ret ?_ | with_reducible refine ws_drop ?_ | with_reducible refine ws_asg ?_ | with_reducible refine wg_sub ?_ | with_reducible refine ws_if ?_ | with_reducible refine ws_next ?_
  | with_reducible refine wt_test ?_ | with_reducible refine wt_B ?_ | with_reducible refine wt_and ?_ | with_reducible refine wt_or ?_ | with_reducible refine wt_not ?_
  | with_reducible refine we_lst ?_ | with_reducible refine we_lstMM ?_ | with_reducible refine we_dnewK ?_ | with_reducible refine ws_par ?_ | ((with_reducible refine' we_sset ?k1 ?_); (case k1 => exact rfl)) | with_reducible refine we_cb ?_ | with_reducible refine we_un ?_ | with_reducible refine we_andV ?_ | with_reducible refine we_orV ?_ | with_reducible refine we_notV ?_ | with_reducible refine we_if ?_ | with_reducible refine we_tup ?_
  | with_reducible refine we_chain ?_ | with_reducible refine we_sl ?_ | with_reducible refine wo_none ?_ | with_reducible refine wo_some ?_ | with_reducible refine ex_i ?_ | with_reducible refine ex_b ?_
  | with_reducible refine and_size (by with_unfolding_all exact rfl) ?_
  | with_reducible refine ⟨tyOk_str, ?_⟩ | with_reducible refine ⟨ty_l1, ?_⟩ | with_reducible refine ⟨ty_l0, ?_⟩
  | with_reducible refine wr_addI ?_ | ((with_reducible refine wr_addLM ?k1 ?_); (case k1 => first | omega | (simp <;> omega))) | ((with_reducible refine wr_addM1 (f := DV.s) ?k1 ?_); (case k1 => first | omega | (simp <;> omega))) | ((with_reducible refine wr_addM1 (f := rowD) ?k1 ?_); (case k1 => first | omega | (simp <;> omega))) | ((with_reducible refine wr_addM2 (f := DV.s) ?k1 ?_); (case k1 => first | omega | (simp <;> omega))) | ((with_reducible refine wr_addLL ?k1 ?_); (case k1 => exact rfl)) | with_reducible refine wr_I0 ?_
  | with_reducible refine wl_toN ?_ | with_reducible refine wl_fromN ?_ | ((with_reducible refine wl_toI ?k1 ?_); (case k1 => omega)) | ((with_reducible refine wl_fromI ?k1 ?_); (case k1 => omega)) | ((with_reducible refine wl_lastI ?k1 ?_); (case k1 => omega)) | ((with_reducible refine wl_midI ?k1 ?k2 ?_); (case k1 => omega); (case k2 => omega))
  | with_reducible refine wr_inSL ?_ | with_reducible refine wr_niSL ?_
  | with_reducible refine wr_neRows ?_ | with_reducible refine wr_eqRows ?_ | ((with_reducible refine wr_neStrs ?k1 ?_); (case k1 => assumption)) | ((with_reducible refine wr_eqStrs ?k1 ?_); (case k1 => assumption)) | ((with_reducible refine wr_neStrR ?k1 ?_); (case k1 => assumption))
  | ((with_reducible refine wr_eqS ?k1 ?_); (case k1 => exact rfl)) | ((with_reducible refine wr_neS ?k1 ?_); (case k1 => exact rfl)) | with_reducible refine wr_isN ?_ | with_reducible refine wr_notN ?_
  | ((with_reducible refine wr_P 100000000 ?k1 ?k2 ?_); (case k1 => decide); (case k2 => exact ⟨by decide, by decide, by decide⟩)) | ((with_reducible refine wr_P 1000000000000000 ?k1 ?k2 ?_); (case k1 => decide); (case k2 => exact ⟨by decide, by decide, by decide⟩))
  | ((with_reducible refine wr_P 1000000000000000000000000000000 ?k1 ?k2 ?_); (case k1 => decide); (case k2 => exact ⟨by decide, by decide, by decide⟩)) | ((with_reducible refine wr_P 1000000000000000000 ?k1 ?k2 ?_); (case k1 => decide); (case k2 => exact ⟨by decide, by decide, by decide⟩))
  | ((with_reducible refine wr_mulI ?k1 ?_); (case k1 => (unfold CMul; omega))) | ((with_reducible refine wr_M ?k1 ?_); (case k1 => first | (show (0 : Int) < _; omega) | exact ⟨by omega, by omega⟩))
  | with_reducible refine wr_aL0 ?_ | with_reducible refine wr_aL1 ?_ | with_reducible refine wr_aL2 ?_ | with_reducible refine wr_aL3 ?_ | with_reducible refine wr_aL4 ?_ | with_reducible refine wr_aL5 ?_ | with_reducible refine wr_aT0 ?_ | with_reducible refine wr_aT1 ?_ | with_reducible refine wr_aT2 ?_ | with_reducible refine wr_aT3 ?_ | with_reducible refine wr_aT4 ?_ | with_reducible refine wr_aT5 ?_ | with_reducible refine wr_aR0 ?_ | with_reducible refine wr_aR1 ?_ | with_reducible refine wr_aR2 ?_ | with_reducible refine wr_aR3 ?_ | with_reducible refine wr_aR4 ?_ | with_reducible refine wr_aR5 ?_
  | with_reducible refine wc_lenLM ?_ | with_reducible refine wc_lenUM ?_ | with_reducible refine wc_lenRM ?_ | with_reducible refine wc_lenL ?_ | with_reducible refine wc_lenU ?_ | with_reducible refine wc_lenR ?_ | with_reducible refine wc_listL ?_ | with_reducible refine wc_listU ?_ | with_reducible refine wc_listR ?_ | with_reducible refine wc_listML ?_ | with_reducible refine wc_tupL ?_ | with_reducible refine wc_tupU ?_ | with_reducible refine wc_tupR ?_
  | ((with_reducible refine' wc_isI ?k1 ?_); (case k1 => exact rfl)) | ((with_reducible refine' wc_isS ?k1 ?_); (case k1 => exact rfl)) | ((with_reducible refine' wc_isB ?k1 ?_); (case k1 => exact rfl)) | ((with_reducible refine' wc_isL ?k1 ?_); (case k1 => exact rfl)) | ((with_reducible refine' wc_isT ?k1 ?_); (case k1 => exact rfl))
  | with_reducible refine wc_intB ?_ | with_reducible refine wc_intI ?_
  | ((with_reducible refine wm_app1 ?k1 ?_); (case k1 => (simp <;> omega)))
  | with_reducible refine wg_name ?_ | with_reducible refine wt_yes ⟨rfl, ?_⟩ | with_reducible refine wt_yes ?_ | with_reducible refine wgs_cons ?_ | with_reducible refine wgs_nil ?_ | ((with_reducible refine wg_tup ?k1 ?_); (case k1 => exact rfl))
  | with_reducible refine ws_forML ?_ | with_reducible refine ws_forME ?_ | ((with_reducible refine we_lcML ?k1 ?_); (case k1 => first | exact gok_name (by decide) | exact gok_tup (gsok_name (by decide) (gsok_name (by decide) gsok_nil)))) | ((with_reducible refine' compM_nrm ?k1 ?_); (case k1 => (dsimp only [wipe2, List.map, List.set]))) | with_reducible refine ws_for ?_ | ((with_reducible refine we_lc ?k1 ?_); (case k1 => first | exact gok_name (by decide) | exact gok_tup (gsok_name (by decide) (gsok_name (by decide) gsok_nil)))) | with_reducible refine wi_rangeI ?_ | with_reducible refine wi_list ?_ | with_reducible refine wi_seq ?_ | with_reducible refine wi_enum ?_
  | with_reducible refine ⟨_, rfl, by omega, by omega, ?_⟩ | with_reducible refine ⟨_, rfl, ?_⟩ | with_reducible refine ⟨_, _, rfl, ?_⟩ | with_reducible refine ⟨_, .inl rfl, ?_⟩ | with_reducible refine ⟨_, .inr rfl, ?_⟩
  | with_reducible refine ws_forML ?_ | with_reducible refine ws_forME ?_
  | ((with_reducible refine' fld_of ?k1 ?k2 ?k3 ?k4 ?_); (case k1 => exact .inl rfl); (case k2 => assumption); (case k3 => assumption); (case k4 => exact rfl))
  | ((with_reducible refine' sfld_of ?k1 ?k2 ?k3 ?k4 ?_); (case k1 => first | exact updM_same | assumption); (case k2 => assumption); (case k3 => assumption); (case k4 => exact rfl))
  | ((with_reducible refine' we_callX ?k1 ?_); (case k1 => first | exact xcF | assumption)) | ((with_reducible refine' we_callXD ?k1 ?_); (case k1 => first | exact xcF | assumption)) | ((with_reducible refine' we_methX ?k1 ?_); (case k1 => first | exact xcF | assumption)) | ((with_reducible refine' we_methXD ?k1 ?_); (case k1 => first | exact xcF | assumption)) | ((with_reducible refine' we_callY ?k1 ?_); (case k1 => assumption)) | ((with_reducible refine' we_methY0 ?k1 ?_); (case k1 => assumption)) | ((with_reducible refine' we_methY ?k1 ?_); (case k1 => assumption))
  | with_reducible refine we_bm ?_ | with_reducible refine we_bm0 ?_ | with_reducible refine we_fld ?_ | with_reducible refine ws_fld ?_
  | ((with_reducible refine' obj_of ?k1 ?k2 ?_); (case k1 => exact .inl rfl); (case k2 => exact rfl))
  | ((with_reducible refine ask_of ?_); first
    | ((with_reducible refine draw1 ?k1 ?k2 ?k3 ?_); (case k1 => omega); (case k2 => omega); (case k3 => omega))
    | ((with_reducible refine draw2 ?k0 ?k1 ?k2 ?k3 ?_); (case k0 => assumption); (case k1 => omega); (case k2 => omega); (case k3 => omega))
    | ((with_reducible refine draw3 ?k0 ?k00 ?k1 ?k2 ?k3 ?_); (case k0 => assumption); (case k00 => assumption); (case k1 => omega); (case k2 => omega); (case k3 => omega))
    | refine ⟨_, rfl, ?_⟩ | refine ⟨_, _, rfl, ?_⟩ | refine ⟨_, _, _, rfl, ?_⟩ | skip)
  | ((with_reducible refine if_ttD ?k1 ?_); (case k1 => first | omega | with_reducible rfl)) | ((with_reducible refine if_ffD ?k1 ?_); (case k1 => omega)) | ((with_reducible refine if_ttN ?k1 ?_); (case k1 => omega)) | ((with_reducible refine if_ffN ?k1 ?_); (case k1 => first | omega | with_reducible rfl))
  | ((with_reducible refine if_tt ?k1 ?_); (case k1 => exact rfl)) | ((with_reducible refine if_ff ?k1 ?_); (case k1 => exact rfl)))
local macro_rules | `(tactic| walk_at "w") => `(tactic| repeat walk_at "w1")


/-! ### kinds -/
theorem kd_tupE {M : Mu} {d : DV} (h : kdM M d = some .tuple) : ∃ es, d = .tup es := by
  unfold kdM at h
  split at h
  all_goals first | cases h | skip
  · split at h <;> cases h
  · exact ⟨_, rfl⟩
def KnR (M : Mu) (d : DV) : Prop := Kn M d ∧ ∀ es, d = .tup es → es.length ≤ 1000 ∧ ∀ e ∈ es, Kn M e
theorem KnR.row {M : Mu} {r : List Int} (h : r.length ≤ 1000) : KnR M (rowD r) := ⟨Kn.tup, fun es e => by
  have : r.map DV.i = es := by injection e
  subst this
  refine ⟨by simpa using h, fun e he => ?_⟩
  obtain ⟨i, _, rfl⟩ := List.mem_map.mp he
  exact Kn.i⟩
theorem kd_lstE {M : Mu} {d : DV} (h : kdM M d = some .list) : ∃ es, LstOf M d es := by
  unfold kdM at h
  split at h
  all_goals first | cases h | skip
  · split at h
    · exact ⟨_, .inr ⟨_, rfl, by assumption⟩⟩
    · cases h
  · exact ⟨_, .inl rfl⟩
theorem sMap_inj {xs ys : List Str} (h : xs.map DV.s = ys.map DV.s) : xs = ys := by rw [← strsD_map xs, h, strsD_map]
theorem rMap_inj {xs ys : List (List Int)} (h : xs.map rowD = ys.map rowD) : xs = ys := by rw [← rowsD_map xs, h, rowsD_map]
theorem kd_str {M : Mu} {d : DV} (h : kdM M d = some .str) : ∃ z, d = .s z := by
  unfold kdM at h
  split at h
  all_goals first | cases h | skip
  · exact ⟨_, rfl⟩
  · split at h <;> cases h
def tabD (C : Addr) (zs : List Str) (rows : List (List Int)) : DV := .obj C ["named", "held"] [.lst (zs.map DV.s), .lst (rows.map rowD)]
def KnC (M : Mu) (d : DV) : Prop := Kn M d ∧ ∀ es, LstOf M d es → es.length ≤ 1000 ∧ ∀ e ∈ es, Kn M e
def KnT (M : Mu) (d : DV) : Prop := Kn M d ∧ ∀ es, LstOf M d es → es.length ≤ 1000 ∧ ∀ e ∈ es, KnR M e
/-! ### is_value, is_name -/
def sp_is_value : Sp2 := fun ds M Q2 _ => ∃ d k, ds = [d] ∧ kdM M d = some k ∧ Q2 (.b (decide (k = .int))) M
theorem ok_is_value (T : Tx K mg a) : FnOk P w K mg base CX0 3 a.f_is_value a.d_is_value ["thing"] (lift ⟨P, w, K⟩ (sp_is_value)) := by
  refine okD T.F_is_value sc_is_value (fun ds M Q2 E2 h => by obtain ⟨d, k, rfl, _⟩ := h; rfl) fun cdv A outer s H E G Fr ds M Q2 E2 hr h => ⟨_, (pss_one (ps_ret (pe_and (pe_callB (k_isi (K := K) rfl) rfl T.z_isinstance bt_isinstance (pa_cons (pv 0) (pa_cons (pe_bltn (v := .ty "int") rfl T.z_int bt_int rfl) pa_nil))) (pe_one (pe_not (pe_callB (k_isi (K := K) rfl) rfl T.z_isinstance bt_isinstance (pa_cons (pv 0) (pa_cons (pe_bltn (v := .ty "bool") rfl T.z_bool bt_bool rfl) pa_nil)))))))), ?_⟩
  obtain ⟨d, k, rfl, hk, q⟩ := h
  refine ws_start (ρ' := [some _]) rfl ?_
  walk_at "d"
  refine wc_isK .int hk ?_
  walk_at "d"
  cases k <;> walk_at "d" <;> first | exact q | (refine wc_isK .bool hk ?_; walk_at "d"; exact q)
theorem kd_int {M : Mu} {d : DV} {k : Kd} (h : kdM M d = some k) : decide (k = .int) = isIntD d := by
  unfold kdM at h
  split at h
  all_goals first | (cases h; rfl) | (cases h; done) | skip
  split at h
  · cases h; rfl
  · cases h
def sp_is_name : Sp2 := fun ds M Q2 _ => ∃ d, ds = [d] ∧ Kn M d ∧ Q2 (.b (isNameD d)) M
theorem ok_is_name (T : Tx K mg a) : FnOk P w K mg base CX0 3 a.f_is_name a.d_is_name ["thing"] (lift ⟨P, w, K⟩ (sp_is_name)) := by
  refine okD T.F_is_name sc_is_name (fun ds M Q2 E2 h => by obtain ⟨d, rfl, _⟩ := h; rfl) fun cdv A outer s H E G Fr ds M Q2 E2 hr h => ⟨_, (pss_one (ps_ret (pe_and (pe_callB (k_isi (K := K) rfl) rfl T.z_isinstance bt_isinstance (pa_cons (pv 0) (pa_cons (pe_bltn (v := .ty "str") rfl T.z_str bt_str rfl) pa_nil))) (pe_and (pe_chain op_le op_le pe_int (pe_callB (k_len (K := K) rfl) rfl T.z_len bt_len (pa_cons (pv 0) pa_nil)) (pe_glob rfl T.v_LONGEST_NAME.choose_spec.1 T.v_LONGEST_NAME.choose_spec.2)) (pe_one (pe_cmpR (k_eq (K := K) rfl (hu64 hr)) (k_bm (K := K) rfl PySem.F.plainAttrs_str PySem.F.slot_str_strip PySem.F.type_str_strip mt_stripA (pv 0) (pa_cons (pe_glob rfl T.v_LETTERS.choose_spec.1 T.v_LETTERS.choose_spec.2) pa_nil)) pe_str (nomark _))))))), ?_⟩
  obtain ⟨d, rfl, ⟨⟨k, hk⟩, hz⟩, q⟩ := h
  refine ws_start (ρ' := [some _]) rfl ?_
  walk_at "d"
  refine wc_isK .str hk ?_
  walk_at "d"
  by_cases e : k = .str
  · subst e
    obtain ⟨z, rfl⟩ := kd_str hk
    have hz : z.length ≤ sizeLine := le_size (Nat.le_trans (hz z rfl) (by decide))
    replace q : Q2 (.b (nameB z)) M := q
    walk_at "d"
    refine wc_lenT hz ?_
    refine wr_I0 ?_
    refine ex_b (if_b (fun h1 => ?_) fun h1 => ?_)
    · walk_at "d"
      refine wr_I0 ?_
      refine ex_b (if_b (fun h2 => ?_) fun h2 => ?_)
      · walk_at "d"
        refine we_bm ?_
        walk_at "d"
        refine ⟨tyOk_str, ?_⟩
        walk_at "d"
        refine wm_strip hz ?_
        walk_at "d"
        refine wr_eqS rfl ?_
        unfold nameB at q
        rw [h1, h2] at q
        exact q
      · unfold nameB at q
        rw [h1, h2] at q
        exact q
    · unfold nameB at q
      rw [h1] at q
      exact ex_b (iteF q)
  · have e2 : subK k .str = false := by cases k <;> first | rfl | exact absurd rfl e
    have e3 : isNameD d = false := by
      unfold isNameD
      split
      · cases hk; exact absurd rfl e
      · rfl
    rw [e2]
    rw [e3] at q
    walk_at "d"
    exact q
/-! ### rows -/
def sp_is_row : Sp2 := fun ds M Q2 _ => ∃ d m, ds = [d, .i m] ∧ KnR M d ∧ Q2 (.b (isRowD d m)) M
theorem ok_is_row (T : Tx K mg a) : FnOk P w K mg base CX0 6 a.f_is_row a.d_is_row ["thing", "many"] (lift ⟨P, w, K⟩ (sp_is_row)) := by
  refine okD T.F_is_row sc_is_row (fun ds M Q2 E2 h => by obtain ⟨d, m, rfl, _⟩ := h; rfl) fun cdv A outer s H E G Fr ds M Q2 E2 hr h => ⟨_, (pss_one (ps_ret (pe_and (pe_callB (k_isi (K := K) rfl) rfl T.z_isinstance bt_isinstance (pa_cons (pv 0) (pa_cons (pe_bltn (v := .ty "tuple") rfl T.z_tuple bt_tuple rfl) pa_nil))) (pe_and (pe_cmpR (k_eq (K := K) rfl (hu64 hr)) (pe_callB (k_len (K := K) rfl) rfl T.z_len bt_len (pa_cons (pv 0) pa_nil)) (pv 1) (nomark _)) (pe_one (pe_callB (k_all (K := K) rfl rfl) rfl T.z_all bt_all (pa_cons (pe_lc (own := [("one", 2)]) (g := gName 2) rfl sc_is_row.nd (k_seq (K := K) rfl (pv 0)) (blkOk_by (N := N_is_row) (own := [("one", 2)]) (sc := defScope s_is_row) (by first | decide +kernel | kernel_rfl)) (fun _ _ _ _ _ => (pg_name (i := 2) sc_is_row.nd rfl (Or.inl rfl))) (fun _ _ _ _ _ => pts_nil) (fun _ _ _ _ _ => (pe_call (ok_is_value (P := P) (w := w) (K := K) (base := base) T) (hr.mono (by decide)) rfl T.g_is_value T.k_is_value T.b_is_value .nil passZ (pa_cons (pv 2) pa_nil)))) pa_nil))))))), ?_⟩
  obtain ⟨d, m, rfl, ⟨⟨⟨k, hk⟩, _⟩, hd⟩, q⟩ := h
  refine ws_start (ρ' := [some _, some _, none]) rfl ?_
  walk_at "d"
  refine wc_isK .tuple hk ?_
  walk_at "d"
  by_cases e : k = .tuple
  · subst e
    obtain ⟨es, rfl⟩ := kd_tupE hk
    obtain ⟨hz, hes⟩ := hd es rfl
    replace q : Q2 (.b (decide (((es.length : Nat) : Int) = m) && es.all isIntD)) M := q
    walk_at "w"
    have eV : decide (V.int ((es.length : Nat) : Int) = V.int m) = decide (((es.length : Nat) : Int) = m) := by
      by_cases h : ((es.length : Nat) : Int) = m
      · rw [decide_eq_true h, h, decide_eq_true rfl]
      · rw [decide_eq_false h, decide_eq_false fun e => h (by injection e)]
    rw [eV]
    refine if_b (fun h1 => ?_) fun h1 => ?_
    · rw [h1] at q
      walk_at "d"
      refine we_lc (gok_name (by decide)) (wi_seq ?_)
      walk_at "d"
      refine ⟨es, .inr rfl, comp_map (fun e => .b (isIntD e)) es [] (by simp; exact Nat.le_trans hz (by decide)) (fun d hd F k2 hk2 => ?_) ?_⟩
      · walk_at "w"
        obtain ⟨⟨k, hk⟩, _⟩ := hes d hd
        exact ⟨d, k, rfl, hk, by rw [kd_int hk]; exact hk2⟩
      · walk_at "d"
        refine wc_all (bs := es.map isIntD) (.inl (by simp)) ?_
        have e2 : (es.map isIntD).all id = es.all isIntD := by simp [Function.comp_def]
        rw [e2]
        exact q
    · rw [h1] at q
      exact q
  · have e2 : subK k .tuple = false := by cases k <;> first | rfl | exact absurd rfl e
    have e3 : isRowD d m = false := by
      unfold isRowD
      split
      · cases hk; exact absurd rfl e
      · rfl
    rw [e2]
    rw [e3] at q
    walk_at "d"
    exact q
def sp_want_row (a : Ad) : Sp2 := fun ds M Q2 E2 => ∃ d m at_, ds = [d, .i m, at_] ∧ KnR M d ∧ (isRowD d m = true → Q2 .n M) ∧ (isRowD d m = false → E2 a.c_NoRow ["at"] [at_] M)
theorem ok_want_row (T : Tx K mg a) : FnOk P w K mg base (L2.CX P w) 9 a.f_want_row a.d_want_row ["thing", "many", "at"] (lift ⟨P, w, K⟩ (sp_want_row a)) := by
  refine okDX T.F_want_row sc_want_row (fun ds M Q2 E2 h => by obtain ⟨d, m, at_, rfl, _⟩ := h; rfl) fun cdv A outer s H E G Fr ds M Q2 E2 hr h hx => ⟨_, (pss_one (ps_if (pt_not (pt_val (pe_call (ok_is_row (P := P) (w := w) (K := K) (base := base) T) (hr.mono (by decide)) rfl T.g_is_row T.k_is_row T.b_is_row .nil passZ (pa_cons (pv 0) (pa_cons (pv 1) pa_nil))))) (pss_one (ps_raise rfl (takes_of rfl rfl rfl rfl) (pmk_oex T.ox_NoRow T.iC_NoRow T.tI_NoRow (ok_NoRow_o___init__ (P := P) (w := w) (K := K) (base := base) T) (hr.mono (by decide)) T.b_NoRow_o___init__ .nil passZ rfl T.gc_NoRow (pa_cons (pv 2) pa_nil)))) pss_nil)), ?_⟩
  obtain ⟨d, m, at_, rfl, hd, q1, q2⟩ := h
  refine ws_start (ρ' := [some _, some _, some _]) rfl ?_
  walk_at "w"
  refine ⟨hd, ?_⟩
  cases e : isRowD d m with
  | true =>
    walk_at "w"
    exact q1 e
  | false =>
    walk_at "w"
    refine ws_raise1 (wx_of hx) ?_
    walk_at "w"
    exact q2 e
def sp_are_columns : Sp2 := fun ds M Q2 _ => ∃ d, ds = [d] ∧ Kn M d ∧ (∀ es, LstOf M d es → es.length ≤ 1000 ∧ ∀ e ∈ es, Kn M e) ∧ Q2 (.b (colsM M d).isSome) M
theorem ok_are_columns (T : Tx K mg a) : FnOk P w K mg base CX0 6 a.f_are_columns a.d_are_columns ["thing"] (lift ⟨P, w, K⟩ (sp_are_columns)) := by
  refine okD T.F_are_columns sc_are_columns (fun ds M Q2 E2 h => by obtain ⟨d, rfl, _⟩ := h; rfl) fun cdv A outer s H E G Fr ds M Q2 E2 hr h => ⟨_, (pss_cons (ps_if (PW.pt (pw_or (pt_not (pt_val (pe_callB (k_isi (K := K) rfl) rfl T.z_isinstance bt_isinstance (pa_cons (pv 0) (pa_cons (pe_bltn (v := .ty "list") rfl T.z_list bt_list rfl) pa_nil))))) (pw_or (pt_cmpR op_gt (pe_callB (k_len (K := K) rfl) rfl T.z_len bt_len (pa_cons (pv 0) pa_nil)) (pe_glob rfl T.v_MOST_COLUMNS.choose_spec.1 T.v_MOST_COLUMNS.choose_spec.2) (nomark _)) (pw_or1 (pt_not (pt_val (pe_callB (k_all (K := K) rfl rfl) rfl T.z_all bt_all (pa_cons (pe_lc (own := [("one", 1)]) (g := gName 1) rfl sc_are_columns.nd (k_lsM (K := K) rfl (pv 0)) (blkOk_by (N := N_are_columns) (own := [("one", 1)]) (sc := defScope s_are_columns) (by first | decide +kernel | kernel_rfl)) (fun _ _ _ _ _ => (pg_name (i := 1) sc_are_columns.nd rfl (Or.inl rfl))) (fun _ _ _ _ _ => pts_nil) (fun _ _ _ _ _ => (pe_call (ok_is_name (P := P) (w := w) (K := K) (base := base) T) (hr.mono (by decide)) rfl T.g_is_name T.k_is_name T.b_is_name .nil passZ (pa_cons (pv 1) pa_nil)))) pa_nil)))))))) (pss_one (ps_ret pe_bl)) pss_nil) (pss_one (ps_ret (pe_cmpR (k_eq (K := K) rfl (hu64 hr)) (k_lenS (K := K) rfl rfl rfl T.z_len rfl T.z_set (pv 0)) (pe_callB (k_len (K := K) rfl) rfl T.z_len bt_len (pa_cons (pv 0) pa_nil)) (nomark _))))), ?_⟩
  obtain ⟨d, rfl, ⟨⟨k, hk⟩, _⟩, hd, q⟩ := h
  refine ws_start (ρ' := [some _, none]) rfl ?_
  walk_at "d"
  refine wc_isK .list hk ?_
  walk_at "d"
  by_cases e : k = .list
  · subst e
    obtain ⟨es, l⟩ := kd_lstE hk
    obtain ⟨hz, hes⟩ := hd es l
    replace q : Q2 (.b (areCols es)) M := by
      unfold colsM at q
      rw [lstM_of.mpr l] at q
      cases h : areCols es <;> simpa [h] using q
    walk_at "w"
    refine wc_lenQ (.inl l) ?_
    walk_at "w"
    refine if_d (fun h8 => ?_) fun h8 => ?_
    · have e8 : areCols es = false := by simp [areCols]; omega
      rw [e8] at q
      walk_at "w"
      exact q
    replace h8 : es.length ≤ 8 := by omega
    walk_at "w"
    refine ⟨es, l, ?_⟩
    walk_at "w"
    refine comp_mapM (fun e => .b (isNameD e)) l es [] (by simp; exact Nat.le_trans hz (by decide)) (fun d' hd' F k2 hk2 => ?_) ?_
    · walk_at "w"
      exact ⟨hes d' hd', hk2⟩
    walk_at "w"
    refine wc_all (bs := es.map isNameD) (.inl (by simp)) ?_
    have e2 : (es.map isNameD).all id = es.all isNameD := by simp [Function.comp_def]
    rw [e2]
    walk_at "w"
    cases ha : es.all isNameD with
    | false =>
      have e9 : areCols es = false := by simp [areCols, ha]
      rw [e9] at q
      walk_at "w"
      exact q
    | true =>
      have en := names_map ha
      walk_at "w"
      refine we_lenS ?_
      walk_at "w"
      refine ⟨strsD es, by rw [← en]; exact l, by have := congrArg List.length en; rw [List.length_map] at this; omega, ?_⟩
      walk_at "w"
      refine wc_lenQ (.inl l) ?_
      walk_at "w"
      have e9 : areCols es = decide (V.int ((uniq (strsD es)).length : Nat) = V.int (es.length : Nat)) := by
        have hl : es.length = (strsD es).length := by have := congrArg List.length en; rw [List.length_map] at this; exact this
        unfold areCols
        rw [ha, decide_eq_true h8, hl]
        by_cases hn : (strsD es).Nodup
        · rw [decide_eq_true hn, uniq_nodup hn, decide_eq_true rfl]; rfl
        · rw [decide_eq_false hn, decide_eq_false fun e => hn (uniq_len.mp (by injection e with e; omega))]; rfl
      rw [e9] at q
      exact q
  · have e2 : subK k .list = false := by cases k <;> first | rfl | exact absurd rfl e
    have e3 : colsM M d = none := by
      unfold colsM
      cases h : lstM M d with
      | none => rfl
      | some es =>
        have := kd_of (lstM_of.mp h)
        rw [hk] at this
        cases this
        exact absurd rfl e
    rw [e2]
    rw [e3] at q
    walk_at "d"
    exact q
/-! ### Table -/
def sp_init (a : Ad) : Sp2 := fun ds M Q2 E2 => ∃ x d e, ds = [.r x, d, e] ∧ M x = some (.ins a.c_Table [] []) ∧ KnC M d ∧ KnT M e ∧ (colsM M d = none → E2 a.c_NoColumns [] [] M) ∧
  ∀ zs, colsM M d = some zs → (∀ j, rowsM M (zs.length : Nat) e = .inl j → E2 a.c_NoRow ["at"] [.i (j : Nat)] M) ∧
    ∀ rows, rowsM M (zs.length : Nat) e = .inr rows → rows.length < 64 ∧ Q2 .n (updM M x (.ins a.c_Table ["named", "held"] [.lst (zs.map DV.s), .lst ((sset rows).map rowD)]))
theorem ok_Table_o___init__ (T : Tx K mg a) : FnOk P w K mg base (L2.CX P w) 12 a.f_Table_o___init__ a.d_Table_o___init__ ["self", "columns", "rows"] (lift ⟨P, w, K⟩ (sp_init a)) := by
  refine okDX T.F_Table_o___init__ sc_Table_o___init__ (fun ds M Q2 E2 h => by obtain ⟨x, d, e, rfl, _⟩ := h; rfl) fun cdv A outer s H E G Fr ds M Q2 E2 hr h hx => ⟨_, (pss_cons (ps_if (pt_not (pt_val (pe_call (ok_are_columns (P := P) (w := w) (K := K) (base := base) T) (hr.mono (by decide)) rfl T.g_are_columns T.k_are_columns T.b_are_columns .nil passZ (pa_cons (pv 1) pa_nil)))) (pss_one (ps_raise rfl (takes_of rfl rfl rfl rfl) (pmk_own PySem.F.excBase_ValueError T.xi_NoColumns T.gc_NoColumns T.kc_NoColumns (raises_own T.xb_NoColumns T.xt_NoColumns) rfl))) pss_nil) (pss_cons (ps_if (pt_cmpR op_isNA (pv 2) pe_non (nomark _)) (pss_one (ps_set (i := 2) sc_Table_o___init__.nd rfl (Or.inl rfl) (pe_lst pa_nil))) pss_nil) (pss_cons (ps_if (pt_not (pt_val (pe_callB (k_isi (K := K) rfl) rfl T.z_isinstance bt_isinstance (pa_cons (pv 2) (pa_cons (pe_bltn (v := .ty "list") rfl T.z_list bt_list rfl) pa_nil))))) (pss_one (ps_raise rfl (takes_of rfl rfl rfl rfl) (pmk_oex T.ox_NoRow T.iC_NoRow T.tI_NoRow (ok_NoRow_o___init__ (P := P) (w := w) (K := K) (base := base) T) (hr.mono (by decide)) T.b_NoRow_o___init__ .nil passZ rfl T.gc_NoRow (pa_cons pe_int pa_nil)))) pss_nil) (pss_cons (ps_for (passes_of rfl) rfl (k_enumM (K := K) rfl rfl T.z_enumerate (pa_cons (pv 2) pa_nil)) (k_gtup (K := K) rfl rfl (pgs_cons (pg_name (i := 3) sc_Table_o___init__.nd rfl (Or.inl rfl)) (pgs_cons (pg_name (i := 4) sc_Table_o___init__.nd rfl (Or.inl rfl)) pgs_nil))) (pss_one (ps_expr (pe_call (ok_want_row (P := P) (w := w) (K := K) (base := base) T) (hr.mono (by decide)) rfl T.g_want_row T.k_want_row T.b_want_row .nil (passE (takes_of rfl rfl rfl rfl) fun _ _ _ _ h => h) (pa_cons (pv 4) (pa_cons (pe_callB (k_len (K := K) rfl) rfl T.z_len bt_len (pa_cons (pv 1) pa_nil)) (pa_cons (pv 3) pa_nil))))))) (pss_cons (k_sfld (K := K) rfl (pv 0) (pe_callTy (k_list (K := K) rfl) rfl T.z_list bt_list (pa_cons (pv 1) pa_nil)) rfl) (pss_one (k_sfld (K := K) rfl (pv 0) (pe_callB (k_sortG (P := P) (w := w) (K := K) rfl rfl rfl rfl) rfl T.z_sorted bt_sorted (pa_cons (pe_callTy (k_setT (P := P) (w := w) (K := K) rfl rfl rfl rfl (hu64 hr)) rfl T.z_set bt_set (pa_cons (pv 2) pa_nil)) pa_nil)) rfl))))))), ?_⟩
  obtain ⟨x, d, e, rfl, hm, hd, he, q1, q2⟩ := h
  have cl_Table := T.cl_Table
  have na_Table_named := T.na_Table_o_named
  have na_Table_held := T.na_Table_o_held
  refine ws_start (ρ' := [some _, some _, some _, none, none]) rfl ?_
  walk_at "w"
  refine ⟨hd.1, hd.2, ?_⟩
  walk_at "w"
  cases ec : colsM M d with
  | none =>
    walk_at "w"
    exact ws_raise0 (wx_of hx) (q1 ec)
  | some zs =>
    obtain ⟨q3, q4⟩ := q2 zs ec
    obtain ⟨lc, ho⟩ := colsM_some ec
    refine if_ff rfl (ws_next ?_)
    refine ws_seq (ws_cut (fun ρ' M' => M' = M ∧ ∃ e', ρ' = [some (.r x), some d, some e', none, none] ∧ rowsM M (zs.length : Nat) e' = rowsM M (zs.length : Nat) e ∧ KnT M e' ∧ isNonD e' = false) ?_ ?_)
    · walk_at "w"
      cases en : isNonD e with
      | true =>
        have : e = .n := by
          unfold isNonD at en
          split at en
          · rw [of_decide_eq_true en]
          · cases en
        subst this
        walk_at "w"
        exact ⟨rfl, _, rfl, rfl, ⟨Kn.lst, fun es l => by
          rcases l with l | ⟨_, l, _⟩
          · cases l; simp
          · cases l⟩, rfl⟩
      | false =>
        walk_at "w"
        exact ⟨rfl, e, rfl, rfl, he, en⟩
    rintro ρ' M' ⟨rfl, e', rfl, er, he', en'⟩
    rw [← er] at q3 q4
    obtain ⟨⟨⟨k, hk⟩, _⟩, hes⟩ := he'
    walk_at "w"
    refine wc_isK .list hk ?_
    walk_at "w"
    by_cases ek : k = .list
    · subst ek
      obtain ⟨es, l⟩ := kd_lstE hk
      obtain ⟨hz, hes⟩ := hes es l
      walk_at "w"
      refine ⟨e', es, rfl, l, ?_⟩
      refine loop_KI [3, 4] (fun i => ∀ (k : Nat) d, k < i → es[k]? = some d → isRowD d (zs.length : Nat) = true) l (fun k d hk => absurd hk (by omega)) (fun i d' hi hI => ?_) fun hI => ?_
      · obtain ⟨r, hr', rfl⟩ := enumD_get hi
        refine wg_tup rfl ?_
        walk_at "w"
        refine wc_lenQ (.inl lc) ?_
        walk_at "w"
        refine ⟨hes r (List.mem_of_getElem? hr'), fun hb => ?_, fun hb => ?_⟩
        · refine ⟨by dsimp only [wipe2, List.set], rfl, fun k d hk he => ?_⟩
          by_cases e : k = i
          · subst e
            rw [hr'] at he
            cases he
            rw [List.length_map] at hb
            exact hb
          · exact hI k d (by omega) he
        · refine q3 i ?_
          rw [List.length_map] at hb
          unfold rowsM
          split
          · cases en'
          · rw [lstM_of.mpr l]
            simp only [badAt_some hI hr' hb, Nat.zero_add]
      · rw [enumD_len] at hI
        have er2 : rowsM M' (zs.length : Nat) e' = .inr (rowsD es) := by
          unfold rowsM
          split
          · cases en'
          · rw [lstM_of.mpr l]
            simp only [badAt_all hI]
        obtain ⟨h64, q⟩ := q4 _ er2
        obtain ⟨ers, hrl⟩ := badAt_none (badAt_all (j := 0) hI)
        walk_at "w"
        refine wc_listQ (.inl lc) ?_
        walk_at "w"
        refine ⟨rowsD es, zs.length, ?_, h64, fun r hr => Int.ofNat_inj.mp (hrl r hr), ?_⟩
        · rw [← ers]
          exact l.upd hm (fun _ h => by cases h)
        walk_at "w"
        rw [updM_upd]
        exact q
    · have e2 : subK k .list = false := by cases k <;> first | rfl | exact absurd rfl ek
      rw [e2]
      walk_at "w"
      refine ws_raise1 (wx_of hx) ?_
      walk_at "w"
      refine q3 0 ?_
      unfold rowsM
      split
      · cases en'
      · cases h : lstM M' e' with
        | none => rfl
        | some es =>
          have := kd_of (lstM_of.mp h)
          rw [hk] at this
          cases this
          exact absurd rfl ek
theorem lst_back {M : Mu} {x : Addr} {o : MO} {d : DV} {es : List DV} (h : M x = none) (ho : ∀ ds, o ≠ .lst ds) (l : LstOf (updM M x o) d es) : LstOf M d es := lstM_of.mp (by rw [← lstM_new h ho]; exact lstM_of.mpr l)
/-- Table(..) -/
theorem we_tab {a : Ad} {Z : Zn} {ρ : Ro} {M : Mu} {tx : TA} {Q2 : DQ} {E : XK} {E2 : XK2} {dvs : List V} (hx : XcOk Z E2 E) (h : WA Z tx ρ M fun es M1 => ∃ d e, es ++ dvs.map DV.v = [d, e] ∧ KnC M1 d ∧ KnT M1 e ∧ (colsM M1 d = none → E2 a.c_NoColumns [] [] M1) ∧
    ∀ zs, colsM M1 d = some zs → (∀ j, rowsM M1 (zs.length : Nat) e = .inl j → E2 a.c_NoRow ["at"] [.i (j : Nat)] M1) ∧ ∀ rows, rowsM M1 (zs.length : Nat) e = .inr rows → rows.length < 64 ∧ Q2 (tabD a.c_Table zs (sset rows)) M1) :
    WE Z (tMake a.c_Table (lift Z.W (sp_init a)) dvs E tx) ρ M Q2 := we_makeF hx.weak (h.imp fun es M1 ⟨d, e, ee, hd, he, q1, q2⟩ x h0 => by
      have no : ∀ ds, MO.ins a.c_Table [] [] ≠ .lst ds := fun _ h => by cases h
      rw [ee]
      refine ⟨x, d, e, rfl, updM_same, ⟨hd.1.new h0, fun es l => ?_⟩, ⟨he.1.new h0, fun es l => ?_⟩, fun ec => ⟨M1, MLe.dropN h0, q1 (by rw [← ec, colsM_new h0 no])⟩, fun zs ec => ⟨fun j er => ⟨M1, MLe.dropN h0, (q2 zs (by rw [← ec, colsM_new h0 no])).1 j (by rw [← er, rowsM_new h0 no])⟩, fun rows er => ?_⟩⟩
      · obtain ⟨h1, h2⟩ := hd.2 es (lst_back h0 no l)
        exact ⟨h1, fun e he => (h2 e he).new h0⟩
      · obtain ⟨h1, h2⟩ := he.2 es (lst_back h0 no l)
        exact ⟨h1, fun e he => ⟨(h2 e he).1.new h0, fun es' ee' => ⟨((h2 e he).2 es' ee').1, fun e' he' => (((h2 e he).2 es' ee').2 e' he').new h0⟩⟩⟩
      · obtain ⟨h64, q⟩ := (q2 zs (by rw [← ec, colsM_new h0 no])).2 rows (by rw [← er, rowsM_new h0 no])
        refine ⟨h64, rfl, _, updM_same, trivial, ?_⟩
        rw [updM_upd, delM_updM h0]
        exact q)
theorem KnC.names {M : Mu} {d : DV} {zs : List Str} (l : LstOf M d (zs.map DV.s)) (h : okNames zs) : KnC M d := ⟨⟨⟨.list, kd_of l⟩, fun z e => by
    subst e; rcases l with l | ⟨_, l, _⟩ <;> cases l⟩, fun es l' => by
  have := (lstM_of.mpr l).symm.trans (lstM_of.mpr l')
  cases this
  refine ⟨by have := h.1; simp; omega, fun e he => ?_⟩
  obtain ⟨z, hz, rfl⟩ := List.mem_map.mp he
  exact Kn.s (by have := name_len (h.2.1 z hz); omega)⟩
theorem KnT.rows {M : Mu} {d : DV} {rows : List (List Int)} (l : LstOf M d (rows.map rowD)) (h : rows.length ≤ 1000) (hw : ∀ r ∈ rows, r.length ≤ 1000) : KnT M d := ⟨⟨⟨.list, kd_of l⟩, fun z e => by
    subst e; rcases l with l | ⟨_, l, _⟩ <;> cases l⟩, fun es l' => by
  have := (lstM_of.mpr l).symm.trans (lstM_of.mpr l')
  cases this
  refine ⟨by simpa using h, fun e he => ?_⟩
  obtain ⟨r, hr, rfl⟩ := List.mem_map.mp he
  exact KnR.row (hw r hr)⟩
/-- .. of names and rows -/
theorem we_tabR {a : Ad} {Z : Zn} {ρ : Ro} {M : Mu} {tx : TA} {Q2 : DQ} {E : XK} {E2 : XK2} (hx : XcOk Z E2 E) (h : WA Z tx ρ M fun es M1 => ∃ d e zs rows, es = [d, e] ∧ LstOf M1 d (zs.map DV.s) ∧ LstOf M1 e (rows.map rowD) ∧ okNames zs ∧ rows.length < 64 ∧ (∀ r ∈ rows, r.length = zs.length) ∧ Q2 (tabD a.c_Table zs (sset rows)) M1) :
    WE Z (tMake a.c_Table (lift Z.W (sp_init a)) [] E tx) ρ M Q2 := we_tab hx (h.imp fun es M1 ⟨d, e, zs, rows, ee, l1, l2, hn, h64, hw, q⟩ => by
      refine ⟨d, e, by rw [List.map_nil, List.append_nil]; exact ee, KnC.names l1 hn, KnT.rows l2 (by omega) (fun r hr => by have := hn.1; have := hw r hr; omega), fun ec => ?_, fun zs' ec => ?_⟩
      · rw [colsM_ok l1 hn] at ec
        cases ec
      · rw [colsM_ok l1 hn] at ec
        cases ec
        have er := rowsM_ok (m := (zs.length : Nat)) l2 fun r hr => by rw [hw r hr]
        rw [er]
        exact ⟨fun j h => (by cases h), fun rows' h => (by cases h; exact ⟨h64, q⟩)⟩)
def sp_rows (a : Ad) : Sp2 := fun ds M Q2 _ => ∃ zs rows, ds = [tabD a.c_Table zs rows] ∧ Q2 (.lst (rows.map rowD)) M
theorem ok_Table_o_rows (T : Tx K mg a) : FnOk P w K mg base CX0 3 a.f_Table_o_rows a.d_Table_o_rows ["self"] (lift ⟨P, w, K⟩ (sp_rows a)) := by
  refine okD T.F_Table_o_rows sc_Table_o_rows (fun ds M Q2 E2 h => by obtain ⟨zs, rows, rfl, _⟩ := h; rfl) fun cdv A outer s H E G Fr ds M Q2 E2 hr h => ⟨_, (pss_one (ps_ret (pe_callTy (k_list (K := K) rfl) rfl T.z_list bt_list (pa_cons (k_fld (K := K) rfl (pv 0) rfl) pa_nil)))), ?_⟩
  obtain ⟨zs, rows, rfl, q⟩ := h
  have cl_Table := T.cl_Table
  have na_Table_held := T.na_Table_o_held
  refine ws_start (ρ' := [some _]) rfl ?_
  walk_at "w"
  exact q
def sp_columns (a : Ad) : Sp2 := fun ds M Q2 _ => ∃ zs rows, ds = [tabD a.c_Table zs rows] ∧ Q2 (.lst (zs.map DV.s)) M
theorem ok_Table_o_columns (T : Tx K mg a) : FnOk P w K mg base CX0 3 a.f_Table_o_columns a.d_Table_o_columns ["self"] (lift ⟨P, w, K⟩ (sp_columns a)) := by
  refine okD T.F_Table_o_columns sc_Table_o_columns (fun ds M Q2 E2 h => by obtain ⟨zs, rows, rfl, _⟩ := h; rfl) fun cdv A outer s H E G Fr ds M Q2 E2 hr h => ⟨_, (pss_one (ps_ret (pe_callTy (k_list (K := K) rfl) rfl T.z_list bt_list (pa_cons (k_fld (K := K) rfl (pv 0) rfl) pa_nil)))), ?_⟩
  obtain ⟨zs, rows, rfl, q⟩ := h
  have cl_Table := T.cl_Table
  have na_Table_named := T.na_Table_o_named
  refine ws_start (ρ' := [some _]) rfl ?_
  walk_at "w"
  exact q
def sp_len (a : Ad) : Sp2 := fun ds M Q2 _ => ∃ zs rows, ds = [tabD a.c_Table zs rows] ∧ Q2 (.i (rows.length : Nat)) M
theorem ok_Table_o___len__ (T : Tx K mg a) : FnOk P w K mg base CX0 3 a.f_Table_o___len__ a.d_Table_o___len__ ["self"] (lift ⟨P, w, K⟩ (sp_len a)) := by
  refine okD T.F_Table_o___len__ sc_Table_o___len__ (fun ds M Q2 E2 h => by obtain ⟨zs, rows, rfl, _⟩ := h; rfl) fun cdv A outer s H E G Fr ds M Q2 E2 hr h => ⟨_, (pss_one (ps_ret (pe_callB (k_len (K := K) rfl) rfl T.z_len bt_len (pa_cons (k_fld (K := K) rfl (pv 0) rfl) pa_nil)))), ?_⟩
  obtain ⟨zs, rows, rfl, q⟩ := h
  have cl_Table := T.cl_Table
  have na_Table_held := T.na_Table_o_held
  refine ws_start (ρ' := [some _]) rfl ?_
  walk_at "w"
  exact q
structure Tab (zs : List Str) (rows : List (List Int)) : Prop where
  ok : okNames zs
  sk : ∀ z ∈ zs, PyData.strOk z = true
  ris : Rising rows
  few : rows.length < 64
  wid : ∀ r ∈ rows, r.length = zs.length
/-- two tables -/
def sp_eq (a : Ad) : Sp2 := fun ds M Q2 _ => ∃ zs rows ys rs, ds = [tabD a.c_Table zs rows, tabD a.c_Table ys rs] ∧ (∀ z ∈ zs, PyData.strOk z = true) ∧ (∀ z ∈ ys, PyData.strOk z = true) ∧ Q2 (.b (decide (zs = ys ∧ rows = rs))) M
theorem ok_Table_o___eq__ (T : Tx K mg a) : FnOk P w K mg base CX0 3 a.f_Table_o___eq__ a.d_Table_o___eq__ ["self", "other"] (lift ⟨P, w, K⟩ (sp_eq a)) := by
  refine okD T.F_Table_o___eq__ sc_Table_o___eq__ (fun ds M Q2 E2 h => by obtain ⟨zs, rows, ys, rs, rfl, _⟩ := h; rfl) fun cdv A outer s H E G Fr ds M Q2 E2 hr h => ⟨_, (pss_one (ps_ret (pe_and (pe_callB (k_isi (K := K) rfl) rfl T.z_isinstance bt_isinstance (pa_cons (pv 1) (pa_cons (pe_glob (v := .ref a.c_Table) rfl T.gc_Table rfl) pa_nil))) (pe_and (pe_cmpR (k_eq (K := K) rfl (hu64 hr)) (k_fld (K := K) rfl (pv 0) rfl) (k_fld (K := K) rfl (pv 1) rfl) (nomark _)) (pe_one (pe_cmpR (k_eq (K := K) rfl (hu64 hr)) (k_fld (K := K) rfl (pv 0) rfl) (k_fld (K := K) rfl (pv 1) rfl) (nomark _))))))), ?_⟩
  obtain ⟨zs, rows, ys, rs, rfl, hz, hy, q⟩ := h
  have cl_Table := T.cl_Table
  have na_Table_named := T.na_Table_o_named
  have na_Table_held := T.na_Table_o_held
  refine ws_start (ρ' := [some _, some _]) rfl ?_
  walk_at "w"
  refine wc_isi (.own _) (tyD_obj T.eq_Table (.inl rfl)) T.kt_Table_Table ?_
  walk_at "w"
  refine wr_eqB (d := .lst (zs.map DV.s)) (e := .lst (ys.map DV.s)) (.inl rfl) (.inl rfl) (plnL_strs hz) (plnL_strs hy) (by show depL _ + 1 ≤ 64; rw [depL_strs]; decide) (by show depL _ + 1 ≤ 64; rw [depL_strs]; decide) fun b hb => ?_
  walk_at "w"
  have hb' : b = true ↔ zs = ys := hb.trans ⟨fun h => sMap_inj (by injection h), fun h => by rw [h]⟩
  refine if_b (fun e => ?_) fun e => ?_
  · have ez := hb'.mp e
    walk_at "w"
    have hd : ∀ rows : List (List Int), (DV.lst (rows.map rowD)).dep ≤ 64 := fun rows => by
      have := depL_rows (rows := rows)
      show depL _ + 1 ≤ 64
      omega
    refine wr_eqB (d := .lst (rows.map rowD)) (e := .lst (rs.map rowD)) (.inl rfl) (.inl rfl) plnL_rows plnL_rows (hd _) (hd _) fun c hc => ?_
    have hc' : c = true ↔ rows = rs := hc.trans ⟨fun h => rMap_inj (by injection h), fun h => by rw [h]⟩
    have : c = decide (zs = ys ∧ rows = rs) := by
      by_cases h : rows = rs
      · rw [hc'.mpr h, decide_eq_true ⟨ez, h⟩]
      · rw [decide_eq_false fun h' => h h'.2]
        cases c
        · rfl
        · exact absurd (hc'.mp rfl) h
    rw [this]
    exact q
  · have : decide (zs = ys ∧ rows = rs) = false := decide_eq_false fun h => by rw [hb'.mpr h.1] at e; cases e
    rw [this] at q
    exact q


theorem rMap_inj1 {x y : List Int} (h : rowD x = rowD y) : x = y := by
  injection h with h
  rw [← intsD_map x, h, intsD_map]
/-! ### rows put in, taken out, asked -/
def sp_has (a : Ad) : Sp2 := fun ds M Q2 E2 => ∃ zs rows d, ds = [tabD a.c_Table zs rows, d] ∧ Tab zs rows ∧ KnR M d ∧ (isRowD d (zs.length : Nat) = false → E2 a.c_NoRow ["at"] [.i 0] M) ∧ ∀ r, d = rowD r → r.length = zs.length → Q2 (.b (decide (r ∈ rows))) M
theorem ok_Table_o_has (T : Tx K mg a) : FnOk P w K mg base (L2.CX P w) 12 a.f_Table_o_has a.d_Table_o_has ["self", "row"] (lift ⟨P, w, K⟩ (sp_has a)) := by
  refine okDX T.F_Table_o_has sc_Table_o_has (fun ds M Q2 E2 h => by obtain ⟨zs, rows, d, rfl, _⟩ := h; rfl) fun cdv A outer s H E G Fr ds M Q2 E2 hr h hx => ⟨_, (pss_cons (ps_expr (pe_call (ok_want_row (P := P) (w := w) (K := K) (base := base) T) (hr.mono (by decide)) rfl T.g_want_row T.k_want_row T.bx1_want_row.choose_spec.2 T.bx1_want_row.choose_spec.1 (passE (takes_of rfl rfl rfl rfl) fun _ _ _ _ h => h) (pa_cons (pv 1) (pa_cons (pe_callB (k_len (K := K) rfl) rfl T.z_len bt_len (pa_cons (k_fld (K := K) rfl (pv 0) rfl) pa_nil)) pa_nil)))) (pss_one (ps_ret (pe_cmpR (k_in (K := K) rfl (hu65 hr)) (pv 1) (k_fld (K := K) rfl (pv 0) rfl) rfl)))), ?_⟩
  obtain ⟨zs, rows, d, rfl, tb, kd, q1, q2⟩ := h
  have cl_Table := T.cl_Table
  have na_Table_named := T.na_Table_o_named
  have na_Table_held := T.na_Table_o_held
  refine ws_start (ρ' := [some _, some _]) rfl ?_
  have h8 := tb.ok.1
  walk_at "w"
  refine ⟨kd, fun e => ?_, q1⟩
  obtain ⟨r, rfl, lr⟩ := isRowD_of e
  walk_at "w"
  refine wr_inB (d := rowD r) (ds := rows.map rowD) (.inl rfl) (.inl rfl) plnL_int plnL_rows (by show depL _ + 1 ≤ 64; rw [depL_int]; decide) (Nat.le_trans depL_rows (by decide)) fun b hb => ?_
  have e : b = decide (r ∈ rows) := by
    have : (rowD r ∈ rows.map rowD) ↔ r ∈ rows := ⟨fun h => by
      obtain ⟨x, hx, ex⟩ := List.mem_map.mp h
      have : x = r := rMap_inj1 ex
      rw [← this]; exact hx, fun h => List.mem_map.mpr ⟨r, h, rfl⟩⟩
    rw [this] at hb
    by_cases h : r ∈ rows
    · rw [hb.mpr h, decide_eq_true h]
    · rw [decide_eq_false h]
      cases b
      · rfl
      · exact absurd (hb.mp rfl) h
  rw [e]
  exact q2 r rfl (by omega)
def sp_with (a : Ad) : Sp2 := fun ds M Q2 E2 => ∃ zs rows d, ds = [tabD a.c_Table zs rows, d] ∧ Tab zs rows ∧ rows.length + 1 < 64 ∧ KnR M d ∧ (isRowD d (zs.length : Nat) = false → E2 a.c_NoRow ["at"] [.i 0] M) ∧ ∀ r, d = rowD r → r.length = zs.length → Q2 (tabD a.c_Table zs (sset (rows ++ [r]))) M
theorem ok_Table_o_with_row (T : Tx K mg a) : FnOk P w K mg base (L2.CX P w) 15 a.f_Table_o_with_row a.d_Table_o_with_row ["self", "row"] (lift ⟨P, w, K⟩ (sp_with a)) := by
  refine okDX T.F_Table_o_with_row sc_Table_o_with_row (fun ds M Q2 E2 h => by obtain ⟨zs, rows, d, rfl, _⟩ := h; rfl) fun cdv A outer s H E G Fr ds M Q2 E2 hr h hx => ⟨_, (pss_cons (ps_expr (pe_call (ok_want_row (P := P) (w := w) (K := K) (base := base) T) (hr.mono (by decide)) rfl T.g_want_row T.k_want_row T.bx1_want_row.choose_spec.2 T.bx1_want_row.choose_spec.1 (passE (takes_of rfl rfl rfl rfl) fun _ _ _ _ h => h) (pa_cons (pv 1) (pa_cons (pe_callB (k_len (K := K) rfl) rfl T.z_len bt_len (pa_cons (k_fld (K := K) rfl (pv 0) rfl) pa_nil)) pa_nil)))) (pss_one (ps_ret (pe_make T.mk_Table (ok_Table_o___init__ (P := P) (w := w) (K := K) (base := base) T) (hr.mono (by decide)) rfl T.gc_Table T.b_Table_o___init__ .nil (passE (takes_of rfl rfl rfl rfl) fun _ _ _ _ h => h) (pa_cons (k_fld (K := K) rfl (pv 0) rfl) (pa_cons (pe_op (k_add (K := K) rfl) (k_fld (K := K) rfl (pv 0) rfl) (pe_lst (pa_cons (pv 1) pa_nil))) pa_nil)))))), ?_⟩
  obtain ⟨zs, rows, d, rfl, tb, h64, kd, q1, q2⟩ := h
  have cl_Table := T.cl_Table
  have na_Table_named := T.na_Table_o_named
  have na_Table_held := T.na_Table_o_held
  refine ws_start (ρ' := [some _, some _]) rfl ?_
  have h8 := tb.ok.1
  walk_at "w"
  refine ⟨kd, fun e => ?_, q1⟩
  obtain ⟨r, rfl, lr⟩ := isRowD_of e
  walk_at "w"
  refine we_tabR hx ?_
  walk_at "w"
  refine ⟨_, _, zs, rows ++ [r], rfl, .inl rfl, .inl rfl, tb.ok, by simp; omega, fun x hx => ?_, q2 r rfl (by omega)⟩
  rcases List.mem_append.mp hx with h | h
  · exact tb.wid x h
  · rw [List.mem_singleton.mp h]
    omega
def sp_without (a : Ad) : Sp2 := fun ds M Q2 E2 => ∃ zs rows d, ds = [tabD a.c_Table zs rows, d] ∧ Tab zs rows ∧ KnR M d ∧ (isRowD d (zs.length : Nat) = false → E2 a.c_NoRow ["at"] [.i 0] M) ∧ ∀ r, d = rowD r → r.length = zs.length → Q2 (tabD a.c_Table zs (rows.filter fun x => decide (x ≠ r))) M
theorem ok_Table_o_without_row (T : Tx K mg a) : FnOk P w K mg base (L2.CX P w) 15 a.f_Table_o_without_row a.d_Table_o_without_row ["self", "row"] (lift ⟨P, w, K⟩ (sp_without a)) := by
  refine okDX T.F_Table_o_without_row sc_Table_o_without_row (fun ds M Q2 E2 h => by obtain ⟨zs, rows, d, rfl, _⟩ := h; rfl) fun cdv A outer s H E G Fr ds M Q2 E2 hr h hx => ⟨_, (pss_cons (ps_expr (pe_call (ok_want_row (P := P) (w := w) (K := K) (base := base) T) (hr.mono (by decide)) rfl T.g_want_row T.k_want_row T.bx1_want_row.choose_spec.2 T.bx1_want_row.choose_spec.1 (passE (takes_of rfl rfl rfl rfl) fun _ _ _ _ h => h) (pa_cons (pv 1) (pa_cons (pe_callB (k_len (K := K) rfl) rfl T.z_len bt_len (pa_cons (k_fld (K := K) rfl (pv 0) rfl) pa_nil)) pa_nil)))) (pss_one (ps_ret (pe_make T.mk_Table (ok_Table_o___init__ (P := P) (w := w) (K := K) (base := base) T) (hr.mono (by decide)) rfl T.gc_Table T.b_Table_o___init__ .nil (passE (takes_of rfl rfl rfl rfl) fun _ _ _ _ h => h) (pa_cons (k_fld (K := K) rfl (pv 0) rfl) (pa_cons (pe_lc (own := [("one", 2)]) (g := gName 2) rfl sc_Table_o_without_row.nd (k_ls (K := K) rfl (k_fld (K := K) rfl (pv 0) rfl)) (blkOk_by (N := N_Table_o_without_row) (own := [("one", 2)]) (sc := defScope s_Table_o_without_row) (by first | decide +kernel | kernel_rfl)) (fun _ _ _ _ _ => (pg_name (i := 2) sc_Table_o_without_row.nd rfl (Or.inl rfl))) (fun _ _ _ _ _ => (pts_one (pt_cmpR (k_ne (K := K) rfl (hu64 hr)) (pv 2) (pv 1) (nomark _)))) (fun _ _ _ _ _ => (pv 2))) pa_nil)))))), ?_⟩
  obtain ⟨zs, rows, d, rfl, tb, kd, q1, q2⟩ := h
  have cl_Table := T.cl_Table
  have na_Table_named := T.na_Table_o_named
  have na_Table_held := T.na_Table_o_held
  refine ws_start (ρ' := [some _, some _, none]) rfl ?_
  have h8 := tb.ok.1
  have h64 := tb.few
  walk_at "w"
  refine ⟨kd, fun e => ?_, q1⟩
  obtain ⟨r, rfl, lr⟩ := isRowD_of e
  walk_at "w"
  refine we_tabR hx ?_
  walk_at "w"
  refine comp_filT rowD rowD (fun x => decide (x ≠ r)) rows [] (le_size (by simp; omega)) (fun x hx F k2 hk2 => ?_) ?_
  · walk_at "w"
    refine wr_neB (d := rowD x) (e := rowD r) (.inl rfl) (.inl rfl) plnL_int plnL_int (by show depL _ + 1 ≤ 64; rw [depL_int]; decide) (by show depL _ + 1 ≤ 64; rw [depL_int]; decide) fun b hb => ?_
    have e : b = decide (x ≠ r) := by
      by_cases h : x = r
      · subst h
        cases b
        · simp
        · exact absurd rfl (hb.mp rfl)
      · rw [decide_eq_true h]
        exact hb.mpr fun k => h (rMap_inj1 k)
    walk_at "w"
    refine ⟨e, rfl, fun h => ?_⟩
    walk_at "w"
    exact hk2 h
  rw [List.nil_append]
  walk_at "w"
  have ris : Rising (rows.filter fun x => decide (x ≠ r)) := List.Pairwise.filter _ tb.ris
  refine ⟨_, _, zs, rows.filter fun x => decide (x ≠ r), rfl, .inl rfl, .inl rfl, tb.ok, Nat.lt_of_le_of_lt (List.length_filter_le _ _) h64, fun x hx => tb.wid x (List.mem_filter.mp hx).1, ?_⟩
  rw [sset_rising ris]
  exact q2 r rfl (by omega)


/-! ### wells -/
def sp_well : Sp2 := fun ds M Q2 _ => ∃ c k : Int, ds = [.i c, .i k] ∧ ∀ p, M p = none → Q2 (.r p) (updM M p (wl 0))
theorem ok__law_well (T : Tx K mg a) : FnOk P w K mg base CX0 3 a.f__law_well a.d__law_well ["_law_cell", "_law_k"] (lift ⟨P, w, K⟩ (sp_well)) := by
  refine okD T.F__law_well sc__law_well (fun ds M Q2 E2 h => by obtain ⟨c, k, rfl, _⟩ := h; rfl) fun cdv A outer s H E G Fr ds M Q2 E2 hr h => ⟨_, (pss_one (ps_ret (pe_lstM (pa_cons (pe_op op_mulA (pv 0) (pe_callTy call_intQ rfl T.z_int bt_int (pa_cons (pe_cmpR op_ge (pv 0) (pe_op op_pow pe_int pe_int) (nomark _)) pa_nil))) (pa_cons (pe_op op_mod (pe_op (k_add (K := K) rfl) (pe_op op_mod (pv 0) pe_int) (pe_op op_mulA pe_int (pv 1))) pe_int) (pa_cons pe_int pa_nil)))))), ?_⟩
  obtain ⟨c, k, rfl, q⟩ := h
  refine ws_start (ρ' := [some _, some _]) rfl ?_
  refine ws_weakR ?_
  walk_at "w"
  refine fun p hp => ⟨_, MLe.upd (.close ⟨_, _, _, rfl, ?_, ?_, Int.le_refl _, Int.le_refl _⟩), q p hp⟩
  · exact Int.emod_nonneg _ (by decide)
  · exact Int.emod_lt_of_pos _ (by decide)
theorem ok__law_draw (T : Tx K mg a) : FnOk P w K mg base CX0 3 a.f__law_draw a.d__law_draw ["_law_well_here", "_law_top"] (lift ⟨P, w, K⟩ (sp_draw)) := by
  refine okD T.F__law_draw sc__law_draw (fun ds M Q2 E2 h => by obtain ⟨p, top, n, rfl, _⟩ := h; rfl) fun cdv A outer s H E G Fr ds M Q2 E2 hr h => ⟨_, (pss_cons (ps_if (pt_cmpR op_gt (pe_ix (k_ix (K := K) rfl) (pv 0) pe_int (fun _ _ => rfl)) pe_int (nomark _)) (pss_cons (ps_set (i := 2) sc__law_draw.nd rfl (Or.inl rfl) (pe_op op_mod (pe_ix (k_ix (K := K) rfl) (pv 0) pe_int (fun _ _ => rfl)) (pv 1))) (pss_cons (ps_asg (pe_op op_fdiv (pe_ix (k_ix (K := K) rfl) (pv 0) pe_int (fun _ _ => rfl)) (pv 1)) (pg_sub (pv 0) pe_int set_list)) (pss_one (ps_ret (pv 2))))) pss_nil) (pss_cons (ps_asg (pe_op (k_add (K := K) rfl) (pe_ix (k_ix (K := K) rfl) (pv 0) pe_int (fun _ _ => rfl)) pe_int) (pg_sub (pv 0) pe_int set_list)) (pss_cons (ps_set (i := 3) sc__law_draw.nd rfl (Or.inl rfl) (pe_ix (k_ix (K := K) rfl) (pe_lst (pa_cons pe_int (pa_cons pe_int (pa_cons pe_int (pa_cons pe_int (pa_cons pe_int pa_nil)))))) (pe_op op_mod (pe_ix (k_ix (K := K) rfl) (pv 0) pe_int (fun _ _ => rfl)) pe_int) (fun _ _ => rfl))) (pss_cons (ps_set (i := 4) sc__law_draw.nd rfl (Or.inl rfl) (pe_op op_mod (pe_op op_pow (pe_op (k_add (K := K) rfl) (pe_op (k_add (K := K) rfl) (pe_ix (k_ix (K := K) rfl) (pv 0) pe_int (fun _ _ => rfl)) (pe_op op_mulA pe_int (pe_ix (k_ix (K := K) rfl) (pv 0) pe_int (fun _ _ => rfl)))) pe_int) pe_int) (pv 3))) (pss_cons (ps_set (i := 4) sc__law_draw.nd rfl (Or.inl rfl) (pe_op op_mod (pe_op op_mulA (pe_op (k_add (K := K) rfl) (pv 4) (pe_ix (k_ix (K := K) rfl) (pv 0) pe_int (fun _ _ => rfl))) (pe_op (k_add (K := K) rfl) (pe_op op_fdiv (pv 4) pe_int) pe_int)) (pv 3))) (pss_one (ps_ret (pe_op op_mod (pe_op op_fdiv (pv 4) pe_int) (pv 1))))))))), ?_⟩
  obtain ⟨p, top, n, rfl, hm, hn, ht', ht2', q⟩ := h
  refine ws_start (ρ' := [some _, some _, none, none, none]) rfl ?_
  refine ws_weakR (ws_open hm fun ds0 hds => ?_)
  obtain ⟨A0, B, C, rfl, hB, hB2, hC, hC2⟩ := hds
  walk_at "d"
  refine wr_atL (.inr ⟨p, rfl, updM_same⟩) (e := .i A0) rfl ?_
  walk_at "d"
  refine wr_I0 ?_
  refine ex_b (if_b (fun h1 => ?_) fun h1 => ?_)
  · walk_at "d"
    refine wr_atL (.inr ⟨p, rfl, updM_same⟩) (e := .i A0) rfl ?_
    walk_at "d"
    refine wr_I ht' ?_
    walk_at "d"
    refine wr_atL (.inr ⟨p, rfl, updM_same⟩) (e := .i A0) rfl ?_
    walk_at "d"
    refine wr_I ⟨ht', ht2'⟩ ?_
    walk_at "d"
    refine wset_list updM_same (j := 0) rfl ?_
    walk_at "d"
    have g0 := Int.emod_nonneg A0 (by omega : top ≠ 0)
    have g1 := Int.emod_lt_of_pos A0 ht'
    obtain ⟨r, hr'⟩ := nat_of g0
    rw [updM_upd, hr']
    exact ⟨_, MLe.upd (.close ⟨A0 / top, B, C, rfl, hB, hB2, hC, by omega⟩), q r (by omega)⟩
  · walk_at "d"
    refine wr_atL (.inr ⟨p, rfl, updM_same⟩) (e := .i C) rfl ?_
    walk_at "d"
    refine wr_addI ?_
    walk_at "d"
    refine wset_list updM_same (j := 2) rfl ?_
    rw [updM_upd]
    walk_at "d"
    refine we_lst ?_
    walk_at "d"
    refine ⟨by show 5 ≤ sizeLine; decide, ?_⟩
    walk_at "d"
    refine wr_atL (.inr ⟨p, rfl, updM_same⟩) (e := .i (C + 1)) rfl ?_
    walk_at "d"
    refine wr_I (by decide) ?_
    have key : ∃ x : Int, atI [DV.i 2147483629, .i 2147483587, .i 2147483579, .i 2147483563, .i 2147483549] ((C + 1) % 5) = some (.i x) ∧ 0 < x ∧ x ≤ 2147483629 := by
      have h0 : 0 ≤ (C + 1) % 5 := Int.emod_nonneg _ (by decide)
      have h5 : (C + 1) % 5 < 5 := Int.emod_lt_of_pos _ (by decide)
      generalize (C + 1) % 5 = t at h0 h5
      have : t = 0 ∨ t = 1 ∨ t = 2 ∨ t = 3 ∨ t = 4 := by omega
      rcases this with rfl | rfl | rfl | rfl | rfl <;> exact ⟨_, rfl, by decide, by decide⟩
    obtain ⟨x, hx1, hx2, hx3⟩ := key
    refine wr_atL (.inl rfl) hx1 ?_
    walk_at "d"
    refine wr_atL (.inr ⟨p, rfl, updM_same⟩) (e := .i B) rfl ?_
    walk_at "d"
    refine wr_atL (.inr ⟨p, rfl, updM_same⟩) (e := .i (C + 1)) rfl ?_
    refine wr_mulI (.inl ⟨by decide, by decide⟩) ?_
    refine wr_addI ?_
    walk_at "d"
    refine wr_addI ?_
    walk_at "d"
    refine wr_I ⟨by decide, by decide, by omega⟩ ?_
    walk_at "d"
    refine wr_I hx2 ?_
    walk_at "d"
    refine wr_atL (.inr ⟨p, rfl, updM_same⟩) (e := .i (C + 1)) rfl ?_
    refine wr_addI ?_
    walk_at "d"
    refine wr_I ⟨by decide, by decide⟩ ?_
    walk_at "d"
    refine wr_addI ?_
    refine wr_mulI (.inl ?_) ?_
    · have g0 := Int.emod_nonneg ((B + 6701 * (C + 1) + 3) ^ (5 : Int).toNat) (by omega : x ≠ 0)
      have g1 := Int.emod_lt_of_pos ((B + 6701 * (C + 1) + 3) ^ (5 : Int).toNat) hx2
      constructor <;> omega
    walk_at "d"
    refine wr_I hx2 ?_
    walk_at "d"
    refine wr_I ⟨by decide, by decide⟩ ?_
    walk_at "d"
    refine wr_I ht' ?_
    generalize (((B + 6701 * (C + 1) + 3) ^ (5 : Int).toNat % x + (C + 1)) * ((B + 6701 * (C + 1) + 3) ^ (5 : Int).toNat % x / 1013 + 40693) % x / 11) = A1
    have g0 := Int.emod_nonneg A1 (by omega : top ≠ 0)
    have g1 := Int.emod_lt_of_pos A1 ht'
    obtain ⟨r, hr'⟩ := nat_of g0
    rw [hr']
    exact ⟨_, MLe.upd (.close ⟨A0, B, C + 1, rfl, hB, hB2, by omega, by push_cast; omega⟩), q r (by omega)⟩
def sp_names : Sp2 := fun ds M Q2 _ => ∃ (p : Addr) (c : Int) (n : Nat), ds = [.r p, .i c] ∧ M p = some (wl n) ∧ n ≤ 100000000 ∧ 0 ≤ c ∧ c ≤ 26 ∧
  ∀ (q : Addr) (m : Nat) (zs : List Str), q ≠ p → M q = none → m ≤ n + 11 → Nms zs → zs.length = c.toNat → Q2 (.r q) (updM (updM M p (wl m)) q (.lst (zs.map DV.s)))
theorem updM_self {M : Mu} {p : Addr} {o : MO} (h : M p = some o) : updM M p o = M := by
  funext b
  by_cases e : b = p
  · subst e; rw [updM_same, h]
  · rw [updM_ne e]
theorem ok__law_names (T : Tx K mg a) : FnOk P w K mg base CX0 6 a.f__law_names a.d__law_names ["_law_well_here", "_law_count"] (lift ⟨P, w, K⟩ (sp_names)) := by
  refine okD T.F__law_names sc__law_names (fun ds M Q2 E2 h => by obtain ⟨p, c, n, rfl, _⟩ := h; rfl) fun cdv A outer s H E G Fr ds M Q2 E2 hr h => ⟨_, (pss_cons (ps_set (i := 2) sc__law_names.nd rfl (Or.inr rfl) pe_str) (pss_cons (ps_set (i := 3) sc__law_names.nd rfl (Or.inl rfl) (pe_call (ok__law_draw (P := P) (w := w) (K := K) (base := base) T) (hr.mono (by decide)) rfl T.g__law_draw T.k__law_draw T.b__law_draw .nil passZ (pa_cons (pv 0) (pa_cons pe_int pa_nil)))) (pss_cons (ps_set (i := 4) sc__law_names.nd rfl (Or.inl rfl) (pe_ix (k_ix (K := K) rfl) (pe_lst (pa_cons pe_int (pa_cons pe_int (pa_cons pe_int (pa_cons pe_int (pa_cons pe_int (pa_cons pe_int (pa_cons pe_int (pa_cons pe_int pa_nil))))))))) (pe_call (ok__law_draw (P := P) (w := w) (K := K) (base := base) T) (hr.mono (by decide)) rfl T.g__law_draw T.k__law_draw T.b__law_draw .nil passZ (pa_cons (pv 0) (pa_cons pe_int pa_nil))) (fun _ _ => rfl))) (pss_cons (ps_set (i := 5) sc__law_names.nd rfl (Or.inl rfl) (k_bm (K := K) rfl PySem.F.plainAttrs_str PySem.F.slot_str_join PySem.F.type_str_join (k_join (K := K) rfl) pe_str (pa_cons (pe_lc (own := [("_law_k", 9)]) (g := gName 9) rfl sc__law_names.nd (pi_range1 rfl T.z_range (pa_cons pe_int pa_nil)) (blkOk_by (N := N__law_names) (own := [("_law_k", 9)]) (sc := defScope s__law_names) (by first | decide +kernel | kernel_rfl)) (fun _ _ _ _ _ => (pg_name (i := 9) sc__law_names.nd rfl (Or.inl rfl))) (fun _ _ _ _ _ => pts_nil) (fun _ _ _ _ _ => (pe_ix (k_ix (K := K) rfl) (pv 2) (pe_call (ok__law_draw (P := P) (w := w) (K := K) (base := base) T) (hr.mono (by decide)) rfl T.g__law_draw T.k__law_draw T.b__law_draw .nil passZ (pa_cons (pv 0) (pa_cons pe_int pa_nil))) (fun _ _ => rfl)))) pa_nil))) (pss_cons (ps_set (i := 6) sc__law_names.nd rfl (Or.inl rfl) (pe_call (ok__law_draw (P := P) (w := w) (K := K) (base := base) T) (hr.mono (by decide)) rfl T.g__law_draw T.k__law_draw T.b__law_draw .nil passZ (pa_cons (pv 0) (pa_cons pe_int pa_nil)))) (pss_cons (ps_set (i := 7) sc__law_names.nd rfl (Or.inl rfl) (pe_call (ok__law_draw (P := P) (w := w) (K := K) (base := base) T) (hr.mono (by decide)) rfl T.g__law_draw T.k__law_draw T.b__law_draw .nil passZ (pa_cons (pv 0) (pa_cons (pe_op op_sub pe_int (pv 6)) pa_nil)))) (pss_cons (ps_set (i := 8) sc__law_names.nd rfl (Or.inl rfl) (pe_lstM pa_nil)) (pss_cons (ps_for PassesOwn.never rfl (pi_range1 rfl T.z_range (pa_cons (pv 1) pa_nil)) (pg_name (i := 9) sc__law_names.nd rfl (Or.inl rfl)) (pss_cons (ps_set (i := 10) sc__law_names.nd rfl (Or.inl rfl) (pe_ix (k_ix (K := K) rfl) (pv 2) (pe_op op_mod (pe_op (k_add (K := K) rfl) (pv 3) (pe_op op_mulA (pv 4) (pv 9))) pe_int) (fun _ _ => rfl))) (pss_one (ps_expr (k_bm (K := K) rfl PySem.F.plainAttrs_list PySem.F.slot_list_append PySem.F.type_list_append mt_append (pv 8) (pa_cons (pe_op (k_add (K := K) rfl) (pe_op (k_add (K := K) rfl) (pe_slice (k_sl (K := K) rfl) (pv 5) po_none (po_some (pv 6))) (pv 10)) (pe_slice (k_sl (K := K) rfl) (pv 5) (po_some (pv 6)) (po_some (pe_op (k_add (K := K) rfl) (pv 6) (pv 7))))) pa_nil)))))) (pss_one (ps_ret (pv 8))))))))))), ?_⟩
  obtain ⟨p, c, n, rfl, hm, hn, hc0, hc26, q⟩ := h
  refine ws_start (ρ' := [some _, some _, none, none, none, none, none, none, none, none, none]) rfl ?_
  obtain ⟨count, rfl⟩ := nat_of hc0
  have hc : count ≤ 26 := by omega
  rw [← updM_self hm]
  walk_at "w"
  intro b hb
  walk_at "w"
  intro j2 hj2
  obtain ⟨ap, ha1, ha2⟩ := aparts (n := j2) (by omega)
  refine wr_atL (.inl rfl) ha1 ?_
  walk_at "w"
  refine comp_W (fun c => DV.s ⟨#[c]⟩) (fun _ c => isL c) 1 (by decide) (fun i F hi => ?_) fun cs m hl hcs hm => ?_
  · walk_at "w"
    intro r hr
    refine wr_atS (by rw [letters_len]; decide) (letters_get (by omega)) ?_
    exact ⟨r + 97, _, rfl, ⟨by omega, by omega⟩, Nat.le_refl _, rfl⟩
  replace hcs : ∀ c ∈ cs, isL c := fun c hc => by
    obtain ⟨i, hi, rfl⟩ := List.getElem_of_mem hc
    exact hcs i _ (List.getElem?_eq_getElem hi)
  replace hl : cs.length = 7 := hl
  replace hm : m ≤ n + 9 := by omega
  walk_at "w"
  have e0 : cs.map (fun c => DV.s ⟨#[c]⟩) = (cs.map fun c => (⟨#[c]⟩ : Str)).map DV.s := by rw [List.map_map]; rfl
  refine wm_join (ys := cs.map fun c => (⟨#[c]⟩ : Str)) (.inl (by rw [e0])) ?_ ?_
  · have : ((cs.map fun c => (⟨#[c]⟩ : Str)).map (·.length)).sum = 7 := by
      rw [List.map_map, ← hl]
      clear hl hcs e0
      induction cs with
      | nil => rfl
      | cons c cs ih =>
        rw [List.map_cons, List.sum_cons, ih]
        show 1 + cs.length = cs.length + 1
        omega
    rw [this, List.length_map, hl]
    decide
  have e1 : Txt.join (Str.ofString "") (cs.map fun c => (⟨#[c]⟩ : Str)) = ⟨cs.toArray⟩ := join_chars cs
  rw [e1]
  walk_at "w"
  intro spot hs
  walk_at "w"
  intro more hmo
  walk_at "w"
  intro q' hq'
  obtain ⟨nqp, hq0⟩ := updM_none hq'
  walk_at "w"
  refine loop_K [9, 10] (fun j => updM (updM M p (wl (m + 1 + 1))) q' (.lst ((nmsL cs spot more b ap j).map DV.s))) (fun i j => j = i) (b0 := 0) rfl (fun i d j hi hI => ?_) fun j hI => ?_
  · subst hI
    obtain ⟨hi1, rfl⟩ := rangeD_get hi
    replace hi1 : j < count := by simpa using hi1
    have hap : ap ≤ 17 := by
      simp only [List.mem_cons, List.not_mem_nil, or_false] at ha2
      omega
    walk_at "w"
    have e2 : (((b : Nat) : Int) + ((ap : Nat) : Int) * ((j : Nat) : Int)) % 26 = (((b + ap * j) % 26 : Nat) : Int) := by push_cast; rfl
    rw [e2]
    refine wr_atS (by rw [letters_len]; decide) (letters_get (Nat.mod_lt _ (by decide))) ?_
    walk_at "w"
    refine wl_AS (by rw [str_len, hl]; decide) ?_
    rw [cut_to]
    walk_at "w"
    have s1 : (⟨#[(b + ap * j) % 26 + 97]⟩ : Str) = ⟨[ltr b ap j].toArray⟩ := rfl
    have z7 : 100 ≤ sizeLine := by decide
    rw [s1]
    have hsp : spot ≤ 7 := by omega
    have hmo : more ≤ 7 - spot := by omega
    have l1 : (cs.take spot).length = spot := by rw [List.length_take, hl]; omega
    have l2 : ((cs.drop spot).take more).length = more := by rw [List.length_take, List.length_drop, hl]; omega
    refine wr_addS (by rw [str_len, str_len, l1]; exact Nat.le_trans (by simp; omega) z7) ?_
    rw [str_app]
    walk_at "w"
    refine wl_AS (by rw [str_len, hl]; decide) ?_
    rw [cut_mid _ _ _ (by rw [hl]; omega)]
    refine wr_addS (by rw [str_len, str_len, List.length_append, l1, l2]; exact Nat.le_trans (by simp; omega) z7) ?_
    rw [str_app]
    walk_at "d"
    refine wm_app1 (by rw [List.length_map, nmsL_len]; omega) ?_
    refine ⟨by dsimp only [wipe2, List.set], j + 1, rfl, ?_⟩
    rw [nmsL_succ, List.map_append]
    rfl
  · subst hI
    walk_at "w"
    rw [rangeD_len]
    exact q q' _ _ nqp hq0 (by omega) (nmsL_ok hl hcs (by omega) (by omega) ha2 (by simpa using hc)) (by rw [nmsL_len])
theorem names1 {M : Mu} {Q2 : DQ} {E2 : XK2} {p : Addr} {c : Int} {n : Nat} (hn : n ≤ 100000000) (h0 : 0 ≤ c) (h1 : c ≤ 26)
    (h : ∀ (q : Addr) (m : Nat) (zs : List Str), q ≠ p → M q = none → m ≤ n + 11 → Nms zs → zs.length = c.toNat → Q2 (.r q) (updM (updM M p (wl m)) q (.lst (zs.map DV.s)))) : sp_names [.r p, .i c] (updM M p (wl n)) Q2 E2 :=
  ⟨p, c, n, rfl, updM_same, hn, h0, h1, fun q m zs h1 h2 h3 h4 h5 => by
    rw [updM_upd]
    exact h q m zs h1 (by rw [updM_ne h1] at h2; exact h2) h3 h4 h5⟩
theorem names1F {M : Mu} {Q2 : DQ} {E2 : XK2} {p : Addr} {c : Int} {n : Nat} (hn : n ≤ 100000000) (h0 : 0 ≤ c) (h1 : c ≤ 26)
    (h : ∀ (m : Nat) (zs : List Str), m ≤ n + 11 → Nms zs → zs.length = c.toNat → Q2 (.lst (zs.map DV.s)) (updM M p (wl m))) : sp_names [.r p, .i c] (updM M p (wl n)) (fun d M1 => ∃ a mo, d = .r a ∧ M1 a = some mo ∧ mo.solid ∧ Q2 mo.frz (delM M1 a)) E2 :=
  names1 hn h0 h1 fun q m zs h1 h2 h3 h4 h5 => ⟨q, _, rfl, updM_same, trivial, by
    rw [delM_updM (by rw [updM_ne h1]; exact h2)]
    exact h m zs h3 h4 h5⟩
def sp_base : Sp2 := fun ds M Q2 _ => ∃ (p : Addr) (n : Nat), ds = [.r p] ∧ M p = some (wl n) ∧ n ≤ 100000000 ∧ ∀ v : Int, Q2 (.i v) (updM M p (wl (n + 4)))
theorem base1 {M : Mu} {Q2 : DQ} {E2 : XK2} {p : Addr} {n : Nat} (hn : n ≤ 100000000) (h : ∀ v : Int, Q2 (.i v) (updM M p (wl (n + 4)))) : sp_base [.r p] (updM M p (wl n)) Q2 E2 := ⟨p, n, rfl, updM_same, hn, fun v => by rw [updM_upd]; exact h v⟩
theorem ok__law_base (T : Tx K mg a) : FnOk P w K mg base CX0 6 a.f__law_base a.d__law_base ["_law_well_here"] (lift ⟨P, w, K⟩ (sp_base)) := by
  refine okD T.F__law_base sc__law_base (fun ds M Q2 E2 h => by obtain ⟨p, n, rfl, _⟩ := h; rfl) fun cdv A outer s H E G Fr ds M Q2 E2 hr h => ⟨_, (pss_cons (ps_set (i := 1) sc__law_base.nd rfl (Or.inl rfl) (pe_op (k_add (K := K) rfl) (pe_op (k_add (K := K) rfl) (pe_op op_mulA (pe_call (ok__law_draw (P := P) (w := w) (K := K) (base := base) T) (hr.mono (by decide)) rfl T.g__law_draw T.k__law_draw T.b__law_draw .nil passZ (pa_cons (pv 0) (pa_cons (pe_op op_pow pe_int pe_int) pa_nil))) (pe_op op_pow pe_int pe_int)) (pe_op op_mulA (pe_call (ok__law_draw (P := P) (w := w) (K := K) (base := base) T) (hr.mono (by decide)) rfl T.g__law_draw T.k__law_draw T.b__law_draw .nil passZ (pa_cons (pv 0) (pa_cons (pe_op op_pow pe_int pe_int) pa_nil))) (pe_op op_pow pe_int pe_int))) (pe_call (ok__law_draw (P := P) (w := w) (K := K) (base := base) T) (hr.mono (by decide)) rfl T.g__law_draw T.k__law_draw T.b__law_draw .nil passZ (pa_cons (pv 0) (pa_cons (pe_op op_pow pe_int pe_int) pa_nil))))) (pss_one (ps_ret (pe_ix (k_ix (K := K) rfl) (pe_lst (pa_cons pe_int (pa_cons (pe_un un_neg pe_int) (pa_cons (pv 1) (pa_cons (pe_op op_sub pe_int (pv 1)) pa_nil))))) (pe_call (ok__law_draw (P := P) (w := w) (K := K) (base := base) T) (hr.mono (by decide)) rfl T.g__law_draw T.k__law_draw T.b__law_draw .nil passZ (pa_cons (pv 0) (pa_cons pe_int pa_nil))) (fun _ _ => rfl))))), ?_⟩
  obtain ⟨p, n, rfl, hm, hn, q⟩ := h
  refine ws_start (ρ' := [some _, none]) rfl ?_
  rw [← updM_self hm]
  walk_at "w"
  intro r1 h1
  walk_at "w"
  intro r2 h2
  walk_at "w"
  intro r3 h3
  walk_at "w"
  intro r4 h4
  refine wr_pickI (.inl rfl) (by omega) (by simpa using h4) fun e he => ?_
  obtain ⟨v, rfl⟩ : ∃ v : Int, e = .i v := by
    simp only [List.mem_cons, List.not_mem_nil, or_false] at he
    rcases he with rfl | rfl | rfl | rfl <;> exact ⟨_, rfl⟩
  exact q v


/-! ### _law_refused -/
def spRef (a : Ad) : Bh → Mu → DQ → Prop := fun B M Q2 => B M (fun _ M1 => M1 = M ∧ Q2 (.b false) M) (fun C ns es M1 => M1 = M ∧ C = a.c_NoRow ∧ ns = [("at" : Str)] ∧ es = [.i 0] ∧ Q2 (.b true) M)
theorem dk__law_refused (T : Tx K mg a) : DeedOk P w K mg base 61 N__law_refused "_law_refused" "_law_deed" s__law_refused a.f__law_refused a.d__law_refused (spRef a) := by
  refine ⟨T.F__law_refused, sc__law_refused, fun cdg A outer s H E act d B G Fr M Q2 hr hact hwe h => ⟨_, (pss_cons (ps_set (i := 1) sc__law_refused.nd rfl (Or.inl rfl) pe_bl) (pss_cons (ps_tryA (K := K) (i := 2) (Wout := fun _ _ _ _ => False) rfl rfl rfl sc__law_refused.nd rfl rfl ⟨rfl, by decide, Or.inl T.gc_FoldError⟩ takes0 (fun W pn xe tk _ => (pss_one (ps_expr (hact W pn xe _ _ tk)))) (fun ae oe cls d pn hz hf => (pss_one (ps_if (PW.pt (pw_and (pt_val (pe_callB (call_isX hz hf) rfl T.z_isinstance bt_isinstance (pa_cons (pv 2) (pa_cons (pe_glob (v := .ref a.c_NoRow) rfl T.gc_NoRow rfl) pa_nil)))) (pw_and1 (pt_not (pt_val (pe_callB (call_isX hz hf) rfl T.z_isinstance bt_isinstance (pa_cons (pv 2) (pa_cons (pe_glob (v := .ref a.c_NoColumns) rfl T.gc_NoColumns rfl) pa_nil)))))))) (pss_one (ps_set (i := 1) sc__law_refused.nd rfl (Or.inl rfl) (pe_and (pe_cmpR (k_eq (K := K) rfl (have hh := hu64 hr; hh)) (pe_xf T.xf_NoRow T.na_NoRow_o_at hz hf (pv 2)) pe_int (nomark _)) (pe_one (pe_not (pe_callB (k_isi (K := K) rfl) rfl T.z_isinstance bt_isinstance (pa_cons (pe_xf T.xf_NoRow T.na_NoRow_o_at hz hf (pv 2)) (pa_cons (pe_bltn (v := .ty "bool") rfl T.z_bool bt_bool rfl) pa_nil)))))))) pss_nil)))) (pss_one (ps_ret (pv 1))))), ?_⟩⟩
  refine ws_start (ρ' := [some _, none, none]) rfl ?_
  walk_at "w"
  refine ws_tryA (fun C ns es ρ' M' => ρ' = [some d, some (.b false), none] ∧ M' = M ∧ C = a.c_NoRow ∧ ns = [("at" : Str)] ∧ es = [.i 0] ∧ Q2 (.b true) M) ?_ ?_
  · intro G1 Wx s1 hw
    walk_at "w"
    refine (hwe G1 _ M _ Wx _ _ s1 rfl hw h fun C ns es M' ⟨e1, e2⟩ => ⟨rfl, e1, e2⟩).imp fun d' M1 ⟨e1, q⟩ => ?_
    subst e1
    walk_at "w"
    exact q
  · intro C ns es ρ' M' hW
    obtain ⟨rfl, rfl, rfl, rfl, rfl, q⟩ := hW
    refine ⟨T.ex_NoRow_FoldError, fun G1 d' ae s1 hx => ?_⟩
    walk_at "w"
    refine wc_isX T.xc_NoRow hx (.own _) T.kt_NoRow_NoRow ?_
    walk_at "w"
    refine wc_isX T.xc_NoRow hx (.own _) T.ki_NoRow_NoColumns ?_
    walk_at "w"
    refine we_xf hx ?_
    walk_at "w"
    refine ⟨rfl, rfl, .i 0, xd_some hx, rfl, ?_⟩
    walk_at "w"
    refine we_xf hx ?_
    walk_at "w"
    refine ⟨rfl, rfl, .i 0, xd_some hx, rfl, ?_⟩
    walk_at "w"
    exact q

def sp_odd : Sp2 := fun ds M Q2 _ => ∃ (p : Addr) (n wide : Nat) (M0 : Mu), ds = [.r p, .i (wide : Nat)] ∧ M = updM M0 p (wl n) ∧ n ≤ 100000 ∧ 1 ≤ wide ∧ wide ≤ 4 ∧ ∀ (m : Nat) (d : DV), m ≤ n + 3 → (∀ M, KnR M d) → isRowD d (wide : Nat) = false → Q2 d (updM M0 p (wl m))
theorem knTup {es : List DV} (h : es.length ≤ 1000) (k : ∀ e ∈ es, ∀ M, Kn M e) (M : Mu) : KnR M (.tup es) := ⟨Kn.tup, fun es' e => by
  cases e
  exact ⟨h, fun e he => k e he M⟩⟩
theorem knOne {d : DV} (k : ∀ M, Kn M d) (h : ∀ es, d ≠ .tup es) (M : Mu) : KnR M d := ⟨k M, fun es e => absurd e (h es)⟩
def odd5 : List DV := [.b true, .n, .s "3", .tup [.i 3], .lst [.i 3]]
theorem odd5_ok {d : DV} (h : d ∈ odd5) : (∀ M, Kn M d) ∧ isIntD d = false := by
  simp only [odd5, List.mem_cons, List.not_mem_nil, or_false] at h
  rcases h with rfl | rfl | rfl | rfl | rfl
  · exact ⟨fun _ => Kn.b, rfl⟩
  · exact ⟨fun _ => Kn.n, rfl⟩
  · exact ⟨fun _ => Kn.s (by decide), rfl⟩
  · exact ⟨fun _ => Kn.tup, rfl⟩
  · exact ⟨fun _ => Kn.lst, rfl⟩
theorem mem_rep3 {l : List DV} {wide : Nat} (h : ∀ e ∈ l, e ∈ List.replicate wide (DV.i 3)) {e : DV} (he : e ∈ l) (M : Mu) : Kn M e := by
  rw [List.eq_of_mem_replicate (h e he)]
  exact Kn.i
theorem ok__law_odd (T : Tx K mg a) : FnOk P w K mg base CX0 6 a.f__law_odd a.d__law_odd ["_law_well_here", "_law_wide"] (lift ⟨P, w, K⟩ (sp_odd)) := by
  refine okD T.F__law_odd sc__law_odd (fun ds M Q2 E2 h => by obtain ⟨p, n, wide, M0, rfl, _⟩ := h; rfl) fun cdv A outer s H E G Fr ds M Q2 E2 hr h => ⟨_, (pss_cons (ps_set (i := 2) sc__law_odd.nd rfl (Or.inl rfl) (pe_op (k_mulT (K := K) rfl) (pe_tup (pa_cons pe_int pa_nil)) (pv 1))) (pss_cons (ps_set (i := 3) sc__law_odd.nd rfl (Or.inl rfl) (pe_call (ok__law_draw (P := P) (w := w) (K := K) (base := base) T) (hr.mono (by decide)) rfl T.g__law_draw T.k__law_draw T.b__law_draw .nil passZ (pa_cons (pv 0) (pa_cons (pv 1) pa_nil)))) (pss_cons (ps_set (i := 4) sc__law_odd.nd rfl (Or.inl rfl) (pe_ix (k_ix (K := K) rfl) (pe_lst (pa_cons pe_bl (pa_cons pe_non (pa_cons pe_str (pa_cons (pe_tup (pa_cons pe_int pa_nil)) (pa_cons (pe_lst (pa_cons pe_int pa_nil)) pa_nil)))))) (pe_call (ok__law_draw (P := P) (w := w) (K := K) (base := base) T) (hr.mono (by decide)) rfl T.g__law_draw T.k__law_draw T.b__law_draw .nil passZ (pa_cons (pv 0) (pa_cons pe_int pa_nil))) (fun _ _ => rfl))) (pss_cons (ps_set (i := 5) sc__law_odd.nd rfl (Or.inl rfl) (pe_lst (pa_cons (pe_op (k_addT (K := K) rfl) (pe_slice (k_slT (K := K) rfl) (pv 2) po_none (po_some (pv 3))) (pe_slice (k_slT (K := K) rfl) (pv 2) (po_some (pe_op (k_add (K := K) rfl) (pv 3) pe_int)) po_none)) (pa_cons (pe_op (k_addT (K := K) rfl) (pv 2) (pe_tup (pa_cons pe_int pa_nil))) (pa_cons (pe_callTy (k_list (K := K) rfl) rfl T.z_list bt_list (pa_cons (pv 2) pa_nil)) (pa_cons (pe_op (k_addT (K := K) rfl) (pe_op (k_addT (K := K) rfl) (pe_slice (k_slT (K := K) rfl) (pv 2) po_none (po_some (pv 3))) (pe_tup (pa_cons (pv 4) pa_nil))) (pe_slice (k_slT (K := K) rfl) (pv 2) (po_some (pe_op (k_add (K := K) rfl) (pv 3) pe_int)) po_none)) (pa_cons pe_non (pa_cons pe_int (pa_cons pe_str (pa_cons pe_dnewK pa_nil)))))))))) (pss_one (ps_ret (pe_ix (k_ix (K := K) rfl) (pv 5) (pe_call (ok__law_draw (P := P) (w := w) (K := K) (base := base) T) (hr.mono (by decide)) rfl T.g__law_draw T.k__law_draw T.b__law_draw .nil passZ (pa_cons (pv 0) (pa_cons pe_int pa_nil))) (fun _ _ => rfl)))))))), ?_⟩
  obtain ⟨p, n, wide, M0, rfl, rfl, hn, hw1, hw4, q⟩ := h
  refine ws_start (ρ' := [some _, some _, none, none, none, none]) rfl ?_
  walk_at "w"
  refine wr_tupMul (by omega) (by omega) ?_
  rw [show ((wide : Nat) : Int).toNat = wide by omega]
  walk_at "w"
  intro at_ hat
  walk_at "w"
  intro r1 hr1
  refine wr_pickI (.inl rfl) (by omega) (by simp; omega) fun o ho => ?_
  obtain ⟨ok1, ok2⟩ := odd5_ok (show o ∈ odd5 from ho)
  walk_at "w"
  refine wl_tupT ?_
  rw [cut_toN]
  walk_at "w"
  refine wl_tupT ?_
  rw [show ((at_ : Nat) : Int) + 1 = ((at_ + 1 : Nat) : Int) by omega, cut_fromN]
  refine wr_tupAdd (by simp; omega) ?_
  walk_at "w"
  refine wr_tupAdd (by simp; omega) ?_
  walk_at "w"
  refine wl_tupT ?_
  rw [cut_toN]
  walk_at "w"
  refine wr_tupAdd (by simp; omega) ?_
  walk_at "w"
  refine wl_tupT ?_
  rw [show ((at_ : Nat) : Int) + 1 = ((at_ + 1 : Nat) : Int) by omega, cut_fromN]
  refine wr_tupAdd (by simp; omega) ?_
  walk_at "w"
  intro r2 hr2
  refine wr_pickI (.inl rfl) (by omega) (by simp; omega) fun e he => ?_
  have hat' : at_ < wide := by omega
  have t1 : ∀ e ∈ (List.replicate wide (DV.i 3)).take at_, e ∈ List.replicate wide (DV.i 3) := fun e h => List.mem_of_mem_take h
  have t2 : ∀ e ∈ (List.replicate wide (DV.i 3)).drop (at_ + 1), e ∈ List.replicate wide (DV.i 3) := fun e h => List.mem_of_mem_drop h
  have t3 : ∀ e ∈ List.replicate wide (DV.i 3), e ∈ List.replicate wide (DV.i 3) := fun e h => h
  suffices h : (∀ M, KnR M e) ∧ isRowD e (wide : Nat) = false from q _ e (by omega) h.1 h.2
  simp only [List.mem_cons, List.not_mem_nil, or_false] at he
  rcases he with rfl | rfl | rfl | rfl | rfl | rfl | rfl | rfl
  · refine ⟨knTup (by simp; omega) fun e he M => ?_, ?_⟩
    · rcases List.mem_append.mp he with he | he
      · exact mem_rep3 t1 he M
      · exact mem_rep3 t2 he M
    · show (decide _ && _) = false
      rw [decide_eq_false (by simp; omega)]
      rfl
  · refine ⟨knTup (by simp; omega) fun e he M => ?_, ?_⟩
    · rcases List.mem_append.mp he with he | he
      · exact mem_rep3 t3 he M
      · rw [List.mem_singleton.mp he]
        exact Kn.i
    · show (decide _ && _) = false
      rw [decide_eq_false (by simp; omega)]
      rfl
  · exact ⟨knOne (fun _ => Kn.lst) fun es h => (by cases h), rfl⟩
  · refine ⟨knTup (by simp; omega) fun e he M => ?_, ?_⟩
    · rcases List.mem_append.mp he with he | he
      · rcases List.mem_append.mp he with he | he
        · exact mem_rep3 t1 he M
        · rw [List.mem_singleton.mp he]
          exact ok1 M
      · exact mem_rep3 t2 he M
    · unfold isRowD
      simp [ok2]
  · exact ⟨knOne (fun _ => Kn.n) fun es h => (by cases h), rfl⟩
  · exact ⟨knOne (fun _ => Kn.i) fun es h => (by cases h), rfl⟩
  · exact ⟨knOne (fun _ => Kn.s (by decide)) fun es h => (by cases h), rfl⟩
  · exact ⟨knOne (fun _ => Kn.dk) fun es h => (by cases h), rfl⟩

/-! ### _law_right -/
theorem tab_put {zs : List Str} {rows : List (List Int)} {r : List Int} (tb : Tab zs rows) (h : rows.length + 1 < 64) (lr : r.length = zs.length) : Tab zs (sset (rows ++ [r])) :=
  ⟨tb.ok, tb.sk, rising_sset _, Nat.lt_of_le_of_lt (sset_len _) (by rw [List.length_append]; exact h), fun x hx => by
    rcases List.mem_append.mp (mem_sset.mp hx) with h | h
    · exact tb.wid x h
    · rw [List.mem_singleton.mp h]; exact lr⟩
theorem tab_out {zs : List Str} {rows : List (List Int)} {p : List Int → Bool} (tb : Tab zs rows) : Tab zs (rows.filter p) :=
  ⟨tb.ok, tb.sk, List.Pairwise.filter _ tb.ris, Nat.lt_of_le_of_lt (List.length_filter_le _ _) tb.few, fun x hx => tb.wid x (List.mem_filter.mp hx).1⟩
def sp_right (a : Ad) : Sp2 := fun ds M Q2 _ => ∃ (p : Addr) (M0 : Mu), ds = [.r p] ∧ M = updM M0 p (wl 0) ∧ M0 p = none ∧ M0 a.tp__law_right = some (.tab (lamN "_law_right")) ∧ ∀ M1, (∀ q, M0 q ≠ none → M1 q = M0 q) → Q2 (.b true) M1
theorem ok__law_right (T : Tx K mg a) (B : TBs base mg a) : FnOk P w K mg base CX0 65 a.f__law_right a.d__law_right ["_law_well_here"] (lift ⟨P, w, K⟩ (sp_right a)) := by
  refine okDC T.lk__law_right sc__law_right (fun ds M Q2 E2 h => by obtain ⟨p, M0, rfl, _⟩ := h; rfl) fun A outer s H E G Fr ds M Q2 E2 hr h => ⟨_, (pss_cons (ps_set (i := 1) sc__law_right.nd rfl (Or.inr rfl) (pe_op (k_add (K := K) rfl) pe_int (pe_call (ok__law_draw (P := P) (w := w) (K := K) (base := base) T) (hr.mono (by decide)) rfl T.g__law_draw T.k__law_draw T.b__law_draw .nil passZ (pa_cons (pv 0) (pa_cons pe_int pa_nil))))) (pss_cons (ps_set (i := 2) sc__law_right.nd rfl (Or.inl rfl) (pe_call (ok__law_names (P := P) (w := w) (K := K) (base := base) T) (hr.mono (by decide)) rfl T.g__law_names T.k__law_names T.b__law_names .nil passZ (pa_cons (pv 0) (pa_cons (pv 1) pa_nil)))) (pss_cons (ps_set (i := 3) sc__law_right.nd rfl (Or.inr rfl) (pe_call (ok__law_base (P := P) (w := w) (K := K) (base := base) T) (hr.mono (by decide)) rfl T.g__law_base T.k__law_base T.b__law_base .nil passZ (pa_cons (pv 0) pa_nil))) (pss_cons (ps_setLc (i := 4) (own := [("_law_k", 7)]) (g := gName 7) rfl sc__law_right.nd rfl rfl (sw_true rfl rfl rfl (by decide +kernel)) (pi_range1 rfl T.z_range (pa_cons (pe_call (ok__law_draw (P := P) (w := w) (K := K) (base := base) T) (hr.mono (by decide)) rfl T.g__law_draw T.k__law_draw T.b__law_draw .nil passZ (pa_cons (pv 0) (pa_cons pe_int pa_nil))) pa_nil)) (blkOk_by (N := N__law_right) (own := [("_law_k", 7)]) (sc := defScope s__law_right) (by first | decide +kernel | kernel_rfl)) (fun _ _ _ _ _ => (pg_name (i := 7) sc__law_right.nd rfl (Or.inl rfl))) (fun _ _ _ _ _ => pts_nil) (fun _ _ _ _ _ => (pe_callTy (k_tup (K := K) rfl) rfl T.z_tuple bt_tuple (pa_cons (pe_lc (own := [("_law_j", 14)]) (g := gName 14) rfl sc__law_right.nd (pi_range1 rfl T.z_range (pa_cons (pv 1) pa_nil)) (by first | exact blkOk_by (by decide +kernel) | exact blkOk_by (by kernel_rfl)) (fun _ _ _ _ _ => (pg_name (i := 14) sc__law_right.nd rfl (Or.inl rfl))) (fun _ _ _ _ _ => pts_nil) (fun _ _ _ _ _ => (pe_op (k_add (K := K) rfl) (pv 3) (pe_call (ok__law_draw (P := P) (w := w) (K := K) (base := base) T) (hr.mono (by decide)) rfl T.g__law_draw T.k__law_draw T.b__law_draw .nil passZ (pa_cons (pv 0) (pa_cons pe_int pa_nil)))))) pa_nil)))) (pss_cons (ps_set (i := 5) sc__law_right.nd rfl (Or.inl rfl) (pe_make T.mk_Table (ok_Table_o___init__ (P := P) (w := w) (K := K) (base := base) T) (hr.mono (by decide)) rfl T.gc_Table T.b_Table_o___init__ .nil passF (pa_cons (pv 2) (pa_cons (pv 4) pa_nil)))) (pss_cons (ps_set (i := 6) sc__law_right.nd rfl (Or.inl rfl) (pe_callB (k_sortG (P := P) (w := w) (K := K) rfl rfl rfl rfl) rfl T.z_sorted bt_sorted (pa_cons (pe_callTy (k_setT (P := P) (w := w) (K := K) rfl rfl rfl rfl (hu64 hr)) rfl T.z_set bt_set (pa_cons (pv 4) pa_nil)) pa_nil))) (pss_cons (ps_for PassesOwn.never rfl (pi_range1 rfl T.z_range (pa_cons (pe_op (k_add (K := K) rfl) pe_int (pe_call (ok__law_draw (P := P) (w := w) (K := K) (base := base) T) (hr.mono (by decide)) rfl T.g__law_draw T.k__law_draw T.b__law_draw .nil passZ (pa_cons (pv 0) (pa_cons pe_int pa_nil)))) pa_nil)) (pg_name (i := 7) sc__law_right.nd rfl (Or.inl rfl)) (pss_cons (ps_set (i := 8) sc__law_right.nd rfl (Or.inl rfl) (pe_cmpR (k_eq (K := K) rfl (hu64 hr)) (pe_call (ok__law_draw (P := P) (w := w) (K := K) (base := base) T) (hr.mono (by decide)) rfl T.g__law_draw T.k__law_draw T.b__law_draw .nil passZ (pa_cons (pv 0) (pa_cons pe_int pa_nil))) pe_int (nomark _))) (pss_cons (ps_set (i := 9) sc__law_right.nd rfl (Or.inr rfl) (pe_call (ok__law_odd (P := P) (w := w) (K := K) (base := base) T) (hr.mono (by decide)) rfl T.g__law_odd T.k__law_odd T.b__law_odd .nil passZ (pa_cons (pv 0) (pa_cons (pv 1) pa_nil)))) (pss_cons (ps_set (i := 10) sc__law_right.nd rfl (Or.inr rfl) (pe_callTy (k_tup (K := K) rfl) rfl T.z_tuple bt_tuple (pa_cons (pe_lc (own := [("_law_j", 14)]) (g := gName 14) rfl sc__law_right.nd (pi_range1 rfl T.z_range (pa_cons (pv 1) pa_nil)) (blkOk_by (N := N__law_right) (own := [("_law_j", 14)]) (sc := defScope s__law_right) (by first | decide +kernel | kernel_rfl)) (fun _ _ _ _ _ => (pg_name (i := 14) sc__law_right.nd rfl (Or.inl rfl))) (fun _ _ _ _ _ => pts_nil) (fun _ _ _ _ _ => (pe_op (k_add (K := K) rfl) (pv 3) (pe_call (ok__law_draw (P := P) (w := w) (K := K) (base := base) T) (hr.mono (by decide)) rfl T.g__law_draw T.k__law_draw T.b__law_draw .nil passZ (pa_cons (pv 0) (pa_cons pe_int pa_nil)))))) pa_nil))) (pss_cons (ps_stop (ps_set (i := 11) sc__law_right.nd rfl (Or.inl rfl) (pe_callTy (k_list (K := K) rfl) rfl T.z_list bt_list (pa_cons (pv 6) pa_nil)))) (pss_cons (ps_stop (ps_if (pt_val (pv 8)) (pss_cons (ps_set (i := 12) sc__law_right.nd rfl (Or.inr rfl) (pe_meth (pv 5) T.cl_Table T.m_Table_o_with_row (ok_Table_o_with_row (P := P) (w := w) (K := K) (base := base) T) (hr.mono (by decide)) T.b_Table_o_with_row .nil passF (pa_cons (pv 10) pa_nil))) (pss_one (ps_set (i := 6) sc__law_right.nd rfl (Or.inl rfl) (pe_callB (k_sortG (P := P) (w := w) (K := K) rfl rfl rfl rfl) rfl T.z_sorted bt_sorted (pa_cons (pe_callTy (k_setT (P := P) (w := w) (K := K) rfl rfl rfl rfl (hu64 hr)) rfl T.z_set bt_set (pa_cons (pe_op (k_add (K := K) rfl) (pv 6) (pe_lst (pa_cons (pv 10) pa_nil))) pa_nil)) pa_nil))))) (pss_cons (ps_set (i := 12) sc__law_right.nd rfl (Or.inr rfl) (pe_methP (pv 5) T.cl_Table T.m_Table_o_without_row (ok_Table_o_without_row (P := P) (w := w) (K := K) (base := base) T) (hr.mono (by decide)) T.kp0_Table_o_without_row passF (pk_cons (pv 10) pk_nil))) (pss_one (ps_setLc (i := 6) (own := [("_law_one", 15)]) (g := gName 15) rfl sc__law_right.nd rfl rfl (sw_true rfl rfl rfl (by decide +kernel)) (k_ls (K := K) rfl (pv 6)) (blkOk_by (N := N__law_right) (own := [("_law_one", 15)]) (sc := defScope s__law_right) (by first | decide +kernel | kernel_rfl)) (fun _ _ _ _ _ => (pg_name (i := 15) sc__law_right.nd rfl (Or.inl rfl))) (fun _ _ _ _ _ => (pts_one (pt_cmpR (k_ne (K := K) rfl (hu64 hr)) (pv 15) (pv 10) (nomark _)))) (fun _ _ _ _ _ => (pv 15))))))) (pss_cons (ps_stop (ps_if (PW.pt (pw_or (pt_cmpR (k_ne (K := K) rfl (hu64 hr)) (pe_meth0 (pv 5) T.cl_Table T.m_Table_o_rows (ok_Table_o_rows (P := P) (w := w) (K := K) (base := base) T) (hr.mono (by decide)) T.b_Table_o_rows .nil passZ) (pv 11) (nomark _)) (pw_or (pt_cmpR (k_ne (K := K) rfl (hu64 hr)) (pe_meth0 (pv 12) T.cl_Table T.m_Table_o_rows (ok_Table_o_rows (P := P) (w := w) (K := K) (base := base) T) (hr.mono (by decide)) T.b_Table_o_rows .nil passZ) (pv 6) (nomark _)) (pw_or (pt_cmpR (k_ne (K := K) rfl (hu64 hr)) (pe_meth0 (pv 12) T.cl_Table T.m_Table_o_columns (ok_Table_o_columns (P := P) (w := w) (K := K) (base := base) T) (hr.mono (by decide)) T.b_Table_o_columns .nil passZ) (pv 2) (nomark _)) (pw_or1 (pt_cmpR (k_ne (K := K) rfl (hu64 hr)) (pe_meth (pv 12) T.cl_Table T.m_Table_o_has (ok_Table_o_has (P := P) (w := w) (K := K) (base := base) T) (hr.mono (by decide)) T.b_Table_o_has .nil passF (pa_cons (pv 10) pa_nil)) (pv 8) (nomark _))))))) (pss_one (ps_ret pe_bl)) pss_nil)) (pss_cons (ps_set (i := 13) sc__law_right.nd rfl (Or.inl rfl) (pe_lstM (pa_cons (pe_lam (k := 60) B.tb__law_right rfl ⟨LamX.lamS_by (by show LamX.lamSB (defScope s__law_right) _ = true; decide +kernel), fun _ _ _ _ _ => rfl, fun A outer s H E f c' hr => (pe_meth (pv 12) T.cl_Table T.m_Table_o_with_row (ok_Table_o_with_row (P := P) (w := w) (K := K) (base := base) T) (hr.mono (by decide)) T.b_Table_o_with_row .nil (passE (takes_of rfl rfl rfl rfl) fun _ _ _ _ h => h) (pa_cons (pv 9) pa_nil))⟩ rfl) pa_nil))) (pss_cons (ps_expr (k_bm (K := K) rfl PySem.F.plainAttrs_list PySem.F.slot_list_append PySem.F.type_list_append mt_append (pv 13) (pa_cons (pe_lam (k := 60) B.tb__law_right rfl ⟨LamX.lamS_by (by show LamX.lamSB (defScope s__law_right) _ = true; decide +kernel), fun _ _ _ _ _ => rfl, fun A outer s H E f c' hr => (pe_meth (pv 12) T.cl_Table T.m_Table_o_without_row (ok_Table_o_without_row (P := P) (w := w) (K := K) (base := base) T) (hr.mono (by decide)) T.b_Table_o_without_row .nil (passE (takes_of rfl rfl rfl rfl) fun _ _ _ _ h => h) (pa_cons (pv 9) pa_nil))⟩ rfl) pa_nil))) (pss_cons (ps_expr (k_bm (K := K) rfl PySem.F.plainAttrs_list PySem.F.slot_list_append PySem.F.type_list_append mt_append (pv 13) (pa_cons (pe_lam (k := 60) B.tb__law_right rfl ⟨LamX.lamS_by (by show LamX.lamSB (defScope s__law_right) _ = true; decide +kernel), fun _ _ _ _ _ => rfl, fun A outer s H E f c' hr => (pe_meth (pv 12) T.cl_Table T.m_Table_o_has (ok_Table_o_has (P := P) (w := w) (K := K) (base := base) T) (hr.mono (by decide)) T.b_Table_o_has .nil (passE (takes_of rfl rfl rfl rfl) fun _ _ _ _ h => h) (pa_cons (pv 9) pa_nil))⟩ rfl) pa_nil))) (pss_cons (ps_stop (ps_if (PW.pt (pw_or (pt_cmpR (k_neS (K := K) rfl (hu64 hr)) (pe_lcDeed (kl := 60) (own := [("_law_ask", 16)]) (gt := gName 16) (W := ⟨P, w, K⟩) rfl rfl sc__law_right.nd (k_ls (K := K) rfl (pv 13)) (blkOk_by (N := N__law_right) (own := [("_law_ask", 16)]) (sc := defScope s__law_right) (by first | decide +kernel | kernel_rfl)) (fun _ _ _ _ _ => (pg_name (i := 16) sc__law_right.nd rfl (Or.inl rfl))) (fun _ _ _ _ _ => (pa_cons (pv 16) pa_nil)) (dk__law_refused (P := P) (w := w) (K := K) (base := base) T) (hr.mono (by decide)) (fun _ _ _ _ _ => rfl) T.g__law_refused T.k__law_refused T.b__law_refused (by decide) rfl (Or.inl rfl)) (pe_lst (pa_cons pe_bl (pa_cons pe_bl (pa_cons pe_bl pa_nil)))) (nomark _)) (pw_or (pt_cmpR (k_ne (K := K) rfl (hu64 hr)) (pe_meth0 (pv 12) T.cl_Table T.m_Table_o_rows (ok_Table_o_rows (P := P) (w := w) (K := K) (base := base) T) (hr.mono (by decide)) T.b_Table_o_rows .nil passZ) (pv 6) (nomark _)) (pw_or1 (pt_cmpR (k_ne (K := K) rfl (hu64 hr)) (pe_callB (call_lenO T.fl_Table T.il_Table (ok_Table_o___len__ (P := P) (w := w) (K := K) (base := base) T) (hr.mono (by decide)) T.b_Table_o___len__ passZ) rfl T.z_len bt_len (pa_cons (pv 12) pa_nil)) (pe_callB (k_len (K := K) rfl) rfl T.z_len bt_len (pa_cons (pv 6) pa_nil)) (nomark _)))))) (pss_one (ps_ret pe_bl)) pss_nil)) (pss_one (ps_set (i := 5) sc__law_right.nd rfl (Or.inl rfl) (pv 12)))))))))))))) (pss_one (ps_ret (pe_cmpR (op_own_eq T.eq_Table (ok_Table_o___eq__ (P := P) (w := w) (K := K) (base := base) T) (hr.mono (by decide)) T.b_Table_o___eq__ passZ) (pv 5) (pe_make T.mk_Table (ok_Table_o___init__ (P := P) (w := w) (K := K) (base := base) T) (hr.mono (by decide)) rfl T.gc_Table T.b_Table_o___init__ .nil passF (pa_cons (pv 2) (pa_cons (pv 6) pa_nil))) (nomark _))))))))))), ?_⟩
  obtain ⟨p, M0, rfl, rfl, hp0, hT2, q⟩ := h
  refine ws_start (ρ' := [some _, none, none, none, none, none, none, none, none, none, none, none, none, none, none, none, none]) rfl ?_
  obtain ⟨X, hX⟩ : ∃ X, X = (cxOf CX0 P w K mg base N__law_right "_law_right" (defScope s__law_right) a.f__law_right (.ref a.tc__law_right) A outer s H E).nox := ⟨_, rfl⟩
  have hq : lamQ X = lamN "_law_right" := by rw [hX]; rfl
  rw [← hX]
  have np2 : a.tp__law_right ≠ p := fun e => by rw [← e, hT2] at hp0; cases hp0
  have at2 : ∀ n, updM M0 p (wl n) a.tp__law_right = some (.tab (lamQ X)) := fun n => by rw [updM_ne np2, hq]; exact hT2
  have fin : ∀ n, Q2 (.b true) (updM M0 p (wl n)) := fun n => q _ fun x hx => updM_ne fun e => hx (by rw [e]; exact hp0)
  walk_at "w"
  intro w0 hw0
  obtain ⟨wide, hwe, hw1, hw4⟩ : ∃ wide : Nat, (1 : Int) + (w0 : Int) = ((wide : Nat) : Int) ∧ 1 ≤ wide ∧ wide ≤ 4 := ⟨w0 + 1, by omega, by omega, by omega⟩
  walk_at "w"
  rw [hwe]
  refine names1 (by omega) (by omega) (by omega) fun qn m1 zs nq hqn hm1 hz hzl => ?_
  refine ws_frzS rfl (by rw [updM_ne nq]; exact hqn) ?_
  have hzw : zs.length = wide := by omega
  walk_at "w"
  refine base1 (by omega) fun bs => ?_
  walk_at "w"
  intro many hmany
  walk_at "w"
  refine comp_W (α := List Int) rowD (fun _ r => r.length = wide) 4 (by omega) (fun i F hi => ?_) fun rows m8 hrl hrw hm8 => ?_
  · walk_at "w"
    refine comp_W (α := Int) DV.i (fun _ _ => True) 1 (by omega) (fun j F' hj => ?_) fun xs m hl _ hm => ?_
    · walk_at "w"
      intro r hr
      walk_at "w"
      exact ⟨bs + r, _, rfl, trivial, Nat.le_refl _, rfl⟩
    · walk_at "w"
      exact ⟨xs, m, rfl, by omega, by omega, rfl⟩
  have hzo : okNames zs := ⟨by omega, hz.nm, hz.nd⟩
  have hrw' : ∀ r ∈ rows, r.length = zs.length := fun r hr => by
    obtain ⟨i, hi, rfl⟩ := List.getElem_of_mem hr
    rw [hzw]
    exact hrw i _ (List.getElem?_eq_getElem hi)
  have h64 : rows.length < 64 := by omega
  have tb0 : Tab zs (sset rows) := ⟨hzo, hz.ok, rising_sset rows, Nat.lt_of_le_of_lt (sset_len rows) h64, fun r hr => hrw' r (mem_sset.mp hr)⟩
  walk_at "w"
  refine we_tabR xcF ?_
  walk_at "w"
  refine ⟨_, _, zs, rows, rfl, .inl rfl, .inl rfl, hzo, h64, hrw', ?_⟩
  walk_at "w"
  refine ⟨rows, zs.length, .inl rfl, h64, hrw', ?_⟩
  walk_at "w"
  intro turns hturns
  walk_at "w"
  refine loop_V (β := List (List Int)) [7, 8, 9, 10, 11, 12, 13, 14, 15, 16] (fun b => [some (.r p), some (.i (wide : Nat)), some (.lst (zs.map DV.s)), some (.i bs), some (.lst (rows.map rowD)), some (tabD a.c_Table zs b), some (.lst (b.map rowD)), none, none, none, none, none, none, none, none, none, none])
    (fun m _ => updM M0 p (wl m)) (fun i b => Tab zs b ∧ b.length ≤ 8 + i) 8 (b0 := sset rows) ⟨tb0, Nat.le_trans (sset_len rows) (by omega)⟩ rfl (fun i d m b hi hm hI => ?_) fun m b hm hI => ?_
  · obtain ⟨tb, hbl⟩ := hI
    obtain ⟨hi1, rfl⟩ := rangeD_get hi
    have hb64 : b.length + 1 < 64 := by omega
    have hm2 : m ≤ 10000 := by omega
    walk_at "w"
    intro rp hrp
    walk_at "w"
    refine ⟨p, m + 1, wide, M0, rfl, rfl, by omega, hw1, hw4, fun m3 odd hm3 kod hod => ?_⟩
    walk_at "w"
    refine comp_W (α := Int) DV.i (fun _ _ => True) 1 (by omega) (fun j F' hj => ?_) fun line m4 hline _ hm4 => ?_
    · walk_at "w"
      intro r hr
      walk_at "w"
      exact ⟨bs + r, _, rfl, trivial, Nat.le_refl _, rfl⟩
    have ll : line.length = zs.length := by rw [hzw]; exact hline
    have nf : isRowD (rowD line) (zs.length : Nat) = false → ∀ {A : Prop}, A := fun e => by rw [show isRowD (rowD line) (zs.length : Nat) = true from ll ▸ isRowD_row] at e; cases e
    have kl : ∀ M, KnR M (rowD line) := fun M => KnR.row (by omega)
    obtain ⟨puts, hputs⟩ : ∃ c, decide (V.int (rp : Int) = V.int 0) = c := ⟨_, rfl⟩
    rw [hputs]
    obtain ⟨nb, hnb⟩ : ∃ nb, (if puts = true then sset (b ++ [line]) else b.filter fun x => decide (x ≠ line)) = nb := ⟨_, rfl⟩
    have ntb : Tab zs nb := by
      rw [← hnb]
      split
      · exact tab_put tb hb64 ll
      · exact tab_out tb
    have nbl : nb.length ≤ b.length + 1 := by
      rw [← hnb]
      split
      · exact Nat.le_trans (sset_len _) (by simp)
      · exact Nat.le_trans (List.length_filter_le _ _) (by omega)
    have nin : decide (line ∈ nb) = puts := by
      rw [← hnb]
      cases puts with
      | true => rw [if_pos rfl, decide_eq_true (mem_sset.mpr (by simp))]
      | false => rw [if_neg Bool.false_ne_true, decide_eq_false (by simp)]
    walk_at "w"
    refine ws_stop ?_
    walk_at "w"
    refine ws_stopC (fun ρ' M' => ρ' = [some (.r p), some (.i (wide : Nat)), some (.lst (zs.map DV.s)), some (.i bs), some (.lst (rows.map rowD)), some (tabD a.c_Table zs b), some (.lst (nb.map rowD)), some (.i (i : Nat)), some (.b puts), some odd, some (rowD line), some (.lst (b.map rowD)), some (tabD a.c_Table zs nb), none, none, none, none] ∧ M' = updM M0 p (wl m4)) ?_ ?_
    · cases puts with
      | true =>
        rw [if_pos rfl] at hnb
        subst hnb
        walk_at "w"
        refine ⟨tb, hb64, kl _, fun e => nf e, fun r er lr => ?_⟩
        rw [← rMap_inj1 er]
        walk_at "w"
        refine ⟨b ++ [line], zs.length, ?_, by rw [List.length_append]; exact hb64, fun r hr => ?_, ?_⟩
        · exact .inl rfl
        · rcases List.mem_append.mp hr with h | h
          · exact tb.wid r h
          · rw [List.mem_singleton.mp h]; exact ll
        walk_at "w"
        exact ⟨rfl, rfl⟩
      | false =>
        rw [if_neg Bool.false_ne_true] at hnb
        subst hnb
        walk_at "w"
        refine wa_pk ?_
        walk_at "w"
        refine ⟨rfl, ask_of ⟨zs, b, rowD line, rfl, tb, kl _, fun e => nf e, fun r er lr => ?_⟩⟩
        rw [← rMap_inj1 er]
        walk_at "w"
        refine comp_filT rowD rowD (fun x => decide (x ≠ line)) b [] (le_size (by simp; omega)) (fun x hx F k2 hk2 => ?_) ?_
        · walk_at "w"
          refine wr_neB (d := rowD x) (e := rowD line) (.inl rfl) (.inl rfl) plnL_int plnL_int (by show depL _ + 1 ≤ 64; rw [depL_int]; decide) (by show depL _ + 1 ≤ 64; rw [depL_int]; decide) fun c hc => ?_
          have e : c = decide (x ≠ line) := by
            by_cases h : x = line
            · subst h
              cases c
              · simp
              · exact absurd rfl (hc.mp rfl)
            · rw [decide_eq_true h]
              exact hc.mpr fun k => h (rMap_inj1 k)
          walk_at "w"
          refine ⟨e, rfl, fun h => ?_⟩
          walk_at "w"
          exact hk2 h
        rw [List.nil_append]
        walk_at "w"
        exact ⟨rfl, rfl⟩
    · rintro ρ' M' ⟨rfl, rfl⟩
      have hzk := hz.ok
      walk_at "w"
      refine ws_stop ?_
      walk_at "w"
      refine ⟨ntb, kl _, fun e => nf e, fun r er lr => ?_⟩
      rw [← rMap_inj1 er, nin]
      have nb64 : nb.length + 1 < 64 := by omega
      have hodz : isRowD odd (zs.length : Nat) = false := by rw [hzw]; exact hod
      have no : ∀ {A : Prop} (r : List Int), odd = rowD r → r.length = zs.length → A := fun r er lr => by
        rw [er, show isRowD (rowD r) (zs.length : Nat) = true from lr ▸ isRowD_row] at hodz
        cases hodz
      walk_at "w"
      refine we_mkLam (at2 _) ?_
      walk_at "w"
      intro p8 hp8
      have np8 : a.tp__law_right ≠ p8 := fun e => by rw [← e, at2] at hp8; cases hp8
      have hT3 : ∀ o, updM (updM M0 p (wl m4)) p8 o a.tp__law_right = some (.tab (lamQ X)) := fun o => by rw [updM_ne np8]; exact at2 _
      walk_at "w"
      refine we_mkLam (hT3 _) ?_
      walk_at "w"
      refine we_mkLam (hT3 _) ?_
      walk_at "w"
      refine ws_stop ?_
      refine ws_frzL 13 rfl updM_same ?_
      rw [delM_updM hp8]
      simp only [List.cons_append, List.nil_append]
      walk_at "w"
      refine comp_one (show 0 < sizeLine by decide) fun F0 => ?_
      walk_at "w"
      refine we_deed rfl ?_
      walk_at "w"
      intro G0 E0 s0 hx0
      walk_at "w"
      refine ⟨ntb, nb64, kod _, fun _ => ⟨rfl, rfl, rfl, rfl, ?_⟩, fun r er lr => no r er lr⟩
      dsimp only [List.nil_append, List.cons_append]
      refine comp_one (show 1 < sizeLine by decide) fun F1 => ?_
      walk_at "w"
      refine we_deed rfl ?_
      walk_at "w"
      intro G1 E1 s1 hx1
      walk_at "w"
      refine ⟨ntb, kod _, fun _ => ⟨rfl, rfl, rfl, rfl, ?_⟩, fun r er lr => no r er lr⟩
      dsimp only [List.nil_append, List.cons_append]
      refine comp_one (show 2 < sizeLine by decide) fun F2 => ?_
      walk_at "w"
      refine we_deed rfl ?_
      walk_at "w"
      intro G2 E2 s2 hx2
      walk_at "w"
      refine ⟨ntb, kod _, fun _ => ⟨rfl, rfl, rfl, rfl, ?_⟩, fun r er lr => no r er lr⟩
      dsimp only [List.nil_append, List.cons_append]
      refine comp_end ?_
      walk_at "w"
      refine wr_sameL (n := 6) (by decide) (by decide +kernel) ?_
      walk_at "w"
      refine wc_lenO xcF (.inl rfl) ⟨_, _, rfl, _, rfl, by omega, by omega, ?_⟩
      walk_at "w"
      exact ⟨m4, nb, by dsimp only [wipe2, List.set], by omega, ⟨ntb, by omega⟩, rfl⟩
  · obtain ⟨tb, hbl⟩ := hI
    have hK : X.K = K := by rw [hX]; rfl
    rw [hK]
    walk_at "w"
    refine we_tabR xcF ?_
    walk_at "w"
    refine ⟨_, _, zs, b, rfl, .inl rfl, .inl rfl, hzo, tb.few, tb.wid, ?_⟩
    rw [sset_rising tb.ris]
    refine wr_own xcF (.inl rfl) (tyD_obj T.eq_Table (.inl rfl)) T.nf_Table_Table ⟨zs, _, zs, _, rfl, hz.ok, hz.ok, _, rfl, ?_⟩
    rw [if_neg Bool.false_ne_true, decide_eq_true (p := zs = zs ∧ b = b) ⟨rfl, rfl⟩]
    exact fin _

theorem tab_none {a : Ad} {M : Mu} {zs : List Str} {Q2 : DQ} {E2 : XK2} (hn : okNames zs) (q : Q2 (tabD a.c_Table zs []) M) : KnC M (.lst (zs.map DV.s)) ∧ KnT M .n ∧ (colsM M (.lst (zs.map DV.s)) = none → E2 a.c_NoColumns [] [] M) ∧
    ∀ zs', colsM M (.lst (zs.map DV.s)) = some zs' → (∀ j, rowsM M (zs'.length : Nat) .n = .inl j → E2 a.c_NoRow ["at"] [.i (j : Nat)] M) ∧ ∀ rows, rowsM M (zs'.length : Nat) .n = .inr rows → rows.length < 64 ∧ Q2 (tabD a.c_Table zs' (sset rows)) M := by
  refine ⟨KnC.names (.inl rfl) hn, ⟨Kn.n, fun es l => by rcases l with l | ⟨_, l, _⟩ <;> cases l⟩, fun ec => ?_, fun zs' ec => ?_⟩
  · rw [colsM_ok (.inl rfl) hn] at ec
    cases ec
  · rw [colsM_ok (.inl rfl) hn] at ec
    cases ec
    exact ⟨fun j h => (by cases h), fun rows h => (by cases h; exact ⟨by decide, q⟩)⟩
theorem we_tabN {a : Ad} {Z : Zn} {ρ : Ro} {M : Mu} {tx : TA} {Q2 : DQ} {dvs : List V} (h : WA Z tx ρ M fun es M1 => ∃ zs, es ++ dvs.map DV.v = [.lst (zs.map DV.s), .n] ∧ okNames zs ∧ Q2 (tabD a.c_Table zs []) M1) :
    WE Z (tMake a.c_Table (lift Z.W (sp_init a)) dvs (fun _ _ _ => False) tx) ρ M Q2 := we_tab (E2 := fun _ _ _ _ => False) xcF (h.imp fun es M1 ⟨zs, e, hn, q⟩ => ⟨_, _, e, tab_none (E2 := fun _ _ _ _ => False) (Q2 := Q2) hn q⟩)
theorem tE : Tab [] [] := ⟨⟨by decide, by simp, List.nodup_nil⟩, by simp, List.Pairwise.nil, by decide, by simp⟩
theorem tE1 : Tab [] (sset ([] ++ [[]])) := tab_put tE (by decide) rfl
theorem wr_isBl {Z : Zn} {M : Mu} {Q2 : DQ} {x y : Bool} (h : Q2 (.b (decide (x = y))) M) : WR Z L2.rIsB (.b x) (.b y) M Q2 := fun G H vx vy Q s R dx dy r => ⟨x, y, dat_v.mp dx, dat_v.mp dy, r _ _ G M H (Same.refl G) R dat_v' h⟩
theorem ok_law (T : Tx K mg a) (B : TBs base mg a) : FnOk P w K mg base CX0 90 a.f_law a.d_law ["_law_script"] (spLT K [(a.tc__law_right, a.tp__law_right)]) := by
  refine okLawT (k := 89) [(a.tp__law_right, lamN "_law_right")] rfl T.F_law sc_law fun cdv A outer s H E s0 ns hr G hS hl => ⟨_, (pss_cons (ps_for PassesOwn.never rfl (k_enum (K := K) rfl rfl T.z_enumerate (pa_cons (pe_op (k_add (K := K) rfl) (pe_lst (pa_cons pe_int pa_nil)) (pe_slice (k_sl (K := K) rfl) (pv 0) po_none (po_some pe_int))) pa_nil)) (k_gtup (K := K) rfl rfl (pgs_cons (pg_name (i := 1) sc_law.nd rfl (Or.inl rfl)) (pgs_cons (pg_name (i := 2) sc_law.nd rfl (Or.inl rfl)) pgs_nil))) (pss_one (ps_if (pt_not (pt_val (pe_call (ok__law_right (P := P) (w := w) (K := K) (base := base) T B) (hr.mono (by decide)) rfl T.g__law_right T.k__law_right T.b__law_right .nil passZ (pa_cons (pe_call (ok__law_well (P := P) (w := w) (K := K) (base := base) T) (hr.mono (by decide)) rfl T.g__law_well T.k__law_well T.b__law_well .nil passZ (pa_cons (pv 2) (pa_cons (pv 1) pa_nil))) pa_nil)))) (pss_one (ps_ret pe_bl)) pss_nil))) (pss_cons (ps_set (i := 3) sc_law.nd rfl (Or.inl rfl) (pe_make T.mk_Table (ok_Table_o___init__ (P := P) (w := w) (K := K) (base := base) T) (hr.mono (by decide)) rfl T.gc_Table T.bx1_Table_o___init__.choose_spec.2 T.bx1_Table_o___init__.choose_spec.1 passF (pa_cons (pe_lst pa_nil) pa_nil))) (pss_one (ps_ret (pe_and (pe_cmpR op_isBl (pe_meth (pe_meth (pv 3) T.cl_Table T.m_Table_o_with_row (ok_Table_o_with_row (P := P) (w := w) (K := K) (base := base) T) (hr.mono (by decide)) T.b_Table_o_with_row .nil passF (pa_cons (pe_tup pa_nil) pa_nil)) T.cl_Table T.m_Table_o_has (ok_Table_o_has (P := P) (w := w) (K := K) (base := base) T) (hr.mono (by decide)) T.b_Table_o_has .nil passF (pa_cons (pe_tup pa_nil) pa_nil)) pe_bl (nomark _)) (pe_and (pe_cmpR op_isBl (pe_meth (pv 3) T.cl_Table T.m_Table_o_has (ok_Table_o_has (P := P) (w := w) (K := K) (base := base) T) (hr.mono (by decide)) T.b_Table_o_has .nil passF (pa_cons (pe_tup pa_nil) pa_nil)) pe_bl (nomark _)) (pe_one (pe_cmpR (op_own_eq T.eq_Table (ok_Table_o___eq__ (P := P) (w := w) (K := K) (base := base) T) (hr.mono (by decide)) T.b_Table_o___eq__ passZ) (pe_meth (pe_meth (pv 3) T.cl_Table T.m_Table_o_with_row (ok_Table_o_with_row (P := P) (w := w) (K := K) (base := base) T) (hr.mono (by decide)) T.b_Table_o_with_row .nil passF (pa_cons (pe_tup pa_nil) pa_nil)) T.cl_Table T.m_Table_o_without_row (ok_Table_o_without_row (P := P) (w := w) (K := K) (base := base) T) (hr.mono (by decide)) T.b_Table_o_without_row .nil passF (pa_cons (pe_tup pa_nil) pa_nil)) (pv 3) (nomark _))))))))), ?_⟩
  refine ws_start (ρ' := [some _, none, none, none]) rfl ?_
  have i2 : tabM [(a.tp__law_right, lamN "_law_right")] a.tp__law_right = some (.tab (lamN "_law_right")) := by simp [tabM, List.lookup]
  generalize tabM [(a.tp__law_right, lamN "_law_right")] = MT at i2 ⊢
  walk_at "w"
  refine wl_scr 8 hS fun cs hcs => ?_
  refine wr_addLn (by simp; omega) ?_
  walk_at "w"
  refine loop_K [1, 2] (fun M : Mu => M) (fun _ M => M a.tp__law_right = some (.tab (lamN "_law_right"))) i2 (fun i d M1 hi I2 => ?_) fun M1 _ => ?_
  · obtain ⟨e, he, rfl⟩ := enumD_get hi
    obtain ⟨c, rfl⟩ : ∃ c : Int, e = .i c := by
      have := List.mem_of_getElem? he
      rw [List.mem_append, List.mem_singleton, List.mem_map] at this
      rcases this with rfl | ⟨c, _, rfl⟩ <;> exact ⟨_, rfl⟩
    walk_at "w"
    intro p hp
    walk_at "w"
    refine ⟨p, M1, rfl, rfl, hp, I2, fun M' hM => ?_⟩
    walk_at "w"
    exact ⟨by dsimp only [wipe2, List.set], _, (hM _ (by rw [I2]; exact fun z => nomatch z)).trans I2, rfl⟩
  walk_at "w"
  refine we_tabN ?_
  walk_at "w"
  refine ⟨[], rfl, tE.ok, ?_⟩
  have h1 : ∀ (r : List Int), DV.tup [] = rowD r → r = [] := fun r e => (rMap_inj1 (x := []) e).symm
  have kn : ∀ M, KnR M (.tup []) := fun M => KnR.row (r := []) (by decide)
  have nf : isRowD (.tup []) ((0 : Nat) : Int) = false → ∀ {A : Prop}, A := fun e => (by cases e)
  walk_at "w"
  refine ⟨tE, by decide, kn _, fun e => nf e, fun r er lr => ?_⟩
  rw [h1 r er]
  walk_at "w"
  refine ⟨tE1, kn _, fun e => nf e, fun r er lr => ?_⟩
  rw [h1 r er]
  walk_at "w"
  rw [show decide (([] : List Int) ∈ sset ([] ++ [[]])) = true by decide +kernel]
  walk_at "w"
  refine wr_isBl ?_
  walk_at "w"
  refine ⟨tE, kn _, fun e => nf e, fun r er lr => ?_⟩
  rw [h1 r er]
  walk_at "w"
  refine wr_isBl ?_
  walk_at "w"
  refine ⟨tE, by decide, kn _, fun e => nf e, fun r er lr => ?_⟩
  rw [h1 r er]
  walk_at "w"
  refine ⟨tE1, kn _, fun e => nf e, fun r er lr => ?_⟩
  rw [h1 r er]
  walk_at "w"
  rw [show (sset ([] ++ [[]])).filter (fun x => decide (x ≠ ([] : List Int))) = [] by decide +kernel]
  show DL.WR _ (rOwn K _ _ _ _) _ _ _ _
  refine wr_own xcF (.inl rfl) (tyD_obj T.eq_Table (.inl rfl)) T.nf_Table_Table ⟨[], _, [], _, rfl, by simp, by simp, _, rfl, ?_⟩
  rfl
end
theorem all_mk {l : PySem.W.OpenLaw} {w : World} {K : PySem.W.Frag} {h : Heap} {mg : Str → Option Value} {fa c_FoldError c_NoColumns c_NoRow c_Table f_is_name f_is_value f_is_row f_want_row f_are_columns f__law_well f__law_draw f__law_names f__law_base f__law_refused f__law_odd f__law_right f_law f_NoRow_o___init__ f_Table_o___init__ f_Table_o___len__ f_Table_o___eq__ f_Table_o_columns f_Table_o_rows f_Table_o_has f_Table_o_with_row f_Table_o_without_row : Addr} {ts : List Addr} (X : K.In h) (G : h.Ns mainGlobals mg) (hfa : mg "law" = some (.ref fa))
    {oc_is_name kV_is_name dc_is_name pm_is_name cd_is_name ct_is_name : Value} {od_is_name an_is_name : Option Addr} {sl_is_name : Array (Option Value)}
    {oc_is_value kV_is_value dc_is_value pm_is_value cd_is_value ct_is_value : Value} {od_is_value an_is_value : Option Addr} {sl_is_value : Array (Option Value)}
    {oc_is_row kV_is_row dc_is_row pm_is_row cd_is_row ct_is_row : Value} {od_is_row an_is_row : Option Addr} {sl_is_row : Array (Option Value)}
    {oc_want_row kV_want_row dc_want_row pm_want_row cd_want_row ct_want_row : Value} {od_want_row an_want_row : Option Addr} {sl_want_row : Array (Option Value)}
    {dT_want_row : Addr} {o2_want_row : Value} {od2_want_row : Option Addr} {n2_want_row : Nat} {sl2_want_row : Array (Option Value)} {tk0_want_row : Tok}
    {oc_are_columns kV_are_columns dc_are_columns pm_are_columns cd_are_columns ct_are_columns : Value} {od_are_columns an_are_columns : Option Addr} {sl_are_columns : Array (Option Value)}
    {oc__law_well kV__law_well dc__law_well pm__law_well cd__law_well ct__law_well : Value} {od__law_well an__law_well : Option Addr} {sl__law_well : Array (Option Value)}
    {oc__law_draw kV__law_draw dc__law_draw pm__law_draw cd__law_draw ct__law_draw : Value} {od__law_draw an__law_draw : Option Addr} {sl__law_draw : Array (Option Value)}
    {oc__law_names kV__law_names dc__law_names pm__law_names cd__law_names ct__law_names : Value} {od__law_names an__law_names : Option Addr} {sl__law_names : Array (Option Value)}
    {oc__law_base kV__law_base dc__law_base pm__law_base cd__law_base ct__law_base : Value} {od__law_base an__law_base : Option Addr} {sl__law_base : Array (Option Value)}
    {oc__law_refused kV__law_refused dc__law_refused pm__law_refused cd__law_refused ct__law_refused : Value} {od__law_refused an__law_refused : Option Addr} {sl__law_refused : Array (Option Value)}
    {oc__law_odd kV__law_odd dc__law_odd pm__law_odd cd__law_odd ct__law_odd : Value} {od__law_odd an__law_odd : Option Addr} {sl__law_odd : Array (Option Value)}
    {tc__law_right : Addr}
    {oc__law_right kV__law_right dc__law_right pm__law_right ct__law_right : Value} {od__law_right an__law_right : Option Addr} {sl__law_right : Array (Option Value)}
    {oc_law kV_law dc_law pm_law cd_law ct_law : Value} {od_law an_law : Option Addr} {sl_law : Array (Option Value)}
    {oc_NoRow_o___init__ kV_NoRow_o___init__ dc_NoRow_o___init__ pm_NoRow_o___init__ cd_NoRow_o___init__ ct_NoRow_o___init__ : Value} {od_NoRow_o___init__ an_NoRow_o___init__ : Option Addr} {sl_NoRow_o___init__ : Array (Option Value)}
    {oc_Table_o___init__ kV_Table_o___init__ dc_Table_o___init__ pm_Table_o___init__ cd_Table_o___init__ ct_Table_o___init__ : Value} {od_Table_o___init__ an_Table_o___init__ : Option Addr} {sl_Table_o___init__ : Array (Option Value)}
    {dT_Table_o___init__ : Addr} {o2_Table_o___init__ : Value} {od2_Table_o___init__ : Option Addr} {n2_Table_o___init__ : Nat} {sl2_Table_o___init__ : Array (Option Value)}
    {oc_Table_o___len__ kV_Table_o___len__ dc_Table_o___len__ pm_Table_o___len__ cd_Table_o___len__ ct_Table_o___len__ : Value} {od_Table_o___len__ an_Table_o___len__ : Option Addr} {sl_Table_o___len__ : Array (Option Value)}
    {oc_Table_o___eq__ kV_Table_o___eq__ dc_Table_o___eq__ pm_Table_o___eq__ cd_Table_o___eq__ ct_Table_o___eq__ : Value} {od_Table_o___eq__ an_Table_o___eq__ : Option Addr} {sl_Table_o___eq__ : Array (Option Value)}
    {oc_Table_o_columns kV_Table_o_columns dc_Table_o_columns pm_Table_o_columns cd_Table_o_columns ct_Table_o_columns : Value} {od_Table_o_columns an_Table_o_columns : Option Addr} {sl_Table_o_columns : Array (Option Value)}
    {oc_Table_o_rows kV_Table_o_rows dc_Table_o_rows pm_Table_o_rows cd_Table_o_rows ct_Table_o_rows : Value} {od_Table_o_rows an_Table_o_rows : Option Addr} {sl_Table_o_rows : Array (Option Value)}
    {oc_Table_o_has kV_Table_o_has dc_Table_o_has pm_Table_o_has cd_Table_o_has ct_Table_o_has : Value} {od_Table_o_has an_Table_o_has : Option Addr} {sl_Table_o_has : Array (Option Value)}
    {oc_Table_o_with_row kV_Table_o_with_row dc_Table_o_with_row pm_Table_o_with_row cd_Table_o_with_row ct_Table_o_with_row : Value} {od_Table_o_with_row an_Table_o_with_row : Option Addr} {sl_Table_o_with_row : Array (Option Value)}
    {oc_Table_o_without_row kV_Table_o_without_row dc_Table_o_without_row pm_Table_o_without_row cd_Table_o_without_row ct_Table_o_without_row : Value} {od_Table_o_without_row an_Table_o_without_row : Option Addr} {sl_Table_o_without_row : Array (Option Value)}
    {nm_NoRow q_NoRow : Str} {N_NoRow : Addr} {bs_NoRow bm_NoRow sub_NoRow : List Value} {sn_NoRow : List Str} {ab_NoRow : Bool} {col_NoRow : Option Bool} {dd_NoRow : Option Addr} {m0_NoRow m1_NoRow m2_NoRow m3_NoRow m5_NoRow : Option Value}
    {tk_LETTERS : Tok}
    {tk_LONGEST_NAME : Tok}
    {tk_MOST_COLUMNS : Tok}
    (gc_FoldError : PySem.W.nsIn K mainGlobals "FoldError" = some (some (.ref c_FoldError)))
    (gc_NoColumns : PySem.W.nsIn K mainGlobals "NoColumns" = some (some (.ref c_NoColumns)))
    (gc_NoRow : PySem.W.nsIn K mainGlobals "NoRow" = some (some (.ref c_NoRow)))
    (gc_Table : PySem.W.nsIn K mainGlobals "Table" = some (some (.ref c_Table)))
    (a_is_name : PySem.W.nsIn K mainGlobals "is_name" = some (some (.ref f_is_name)))
    (a_is_value : PySem.W.nsIn K mainGlobals "is_value" = some (some (.ref f_is_value)))
    (a_is_row : PySem.W.nsIn K mainGlobals "is_row" = some (some (.ref f_is_row)))
    (a_want_row : PySem.W.nsIn K mainGlobals "want_row" = some (some (.ref f_want_row)))
    (a_are_columns : PySem.W.nsIn K mainGlobals "are_columns" = some (some (.ref f_are_columns)))
    (a__law_well : PySem.W.nsIn K mainGlobals "_law_well" = some (some (.ref f__law_well)))
    (a__law_draw : PySem.W.nsIn K mainGlobals "_law_draw" = some (some (.ref f__law_draw)))
    (a__law_names : PySem.W.nsIn K mainGlobals "_law_names" = some (some (.ref f__law_names)))
    (a__law_base : PySem.W.nsIn K mainGlobals "_law_base" = some (some (.ref f__law_base)))
    (a__law_refused : PySem.W.nsIn K mainGlobals "_law_refused" = some (some (.ref f__law_refused)))
    (a__law_odd : PySem.W.nsIn K mainGlobals "_law_odd" = some (some (.ref f__law_odd)))
    (a__law_right : PySem.W.nsIn K mainGlobals "_law_right" = some (some (.ref f__law_right)))
    (a_law : PySem.W.nsIn K mainGlobals "law" = some (some (.ref f_law)))
    (a_NoRow_o___init__ : PySem.W.findIn K (.ref c_NoRow) "__init__" = some (some (.ref f_NoRow_o___init__)))
    (a_Table_o___init__ : PySem.W.findIn K (.ref c_Table) "__init__" = some (some (.ref f_Table_o___init__)))
    (a_Table_o___len__ : PySem.W.findIn K (.ref c_Table) "__len__" = some (some (.ref f_Table_o___len__)))
    (a_Table_o___eq__ : PySem.W.findIn K (.ref c_Table) "__eq__" = some (some (.ref f_Table_o___eq__)))
    (a_Table_o_columns : PySem.W.findIn K (.ref c_Table) "columns" = some (some (.ref f_Table_o_columns)))
    (a_Table_o_rows : PySem.W.findIn K (.ref c_Table) "rows" = some (some (.ref f_Table_o_rows)))
    (a_Table_o_has : PySem.W.findIn K (.ref c_Table) "has" = some (some (.ref f_Table_o_has)))
    (a_Table_o_with_row : PySem.W.findIn K (.ref c_Table) "with_row" = some (some (.ref f_Table_o_with_row)))
    (a_Table_o_without_row : PySem.W.findIn K (.ref c_Table) "without_row" = some (some (.ref f_Table_o_without_row)))
    (l_is_name : K.lookup f_is_name = some ⟨oc_is_name, od_is_name, .func (PySem.W.fnOf "is_name" "is_name" (defArgs s_is_name) (defBody s_is_name) (defScope s_is_name) .none kV_is_name dc_is_name pm_is_name an_is_name cd_is_name ct_is_name), sl_is_name⟩)
    (l_is_value : K.lookup f_is_value = some ⟨oc_is_value, od_is_value, .func (PySem.W.fnOf "is_value" "is_value" (defArgs s_is_value) (defBody s_is_value) (defScope s_is_value) .none kV_is_value dc_is_value pm_is_value an_is_value cd_is_value ct_is_value), sl_is_value⟩)
    (l_is_row : K.lookup f_is_row = some ⟨oc_is_row, od_is_row, .func (PySem.W.fnOf "is_row" "is_row" (defArgs s_is_row) (defBody s_is_row) (defScope s_is_row) .none kV_is_row dc_is_row pm_is_row an_is_row cd_is_row ct_is_row), sl_is_row⟩)
    (l_want_row : K.lookup f_want_row = some ⟨oc_want_row, od_want_row, .func (PySem.W.fnOf "want_row" "want_row" (defArgs s_want_row) (defBody s_want_row) (defScope s_want_row) (.ref dT_want_row) kV_want_row dc_want_row pm_want_row an_want_row cd_want_row ct_want_row), sl_want_row⟩)
    (ld_want_row : K.lookup dT_want_row = some ⟨o2_want_row, od2_want_row, .seq (List.toArray [.int 0 tk0_want_row]) n2_want_row, sl2_want_row⟩)
    (l_are_columns : K.lookup f_are_columns = some ⟨oc_are_columns, od_are_columns, .func (PySem.W.fnOf "are_columns" "are_columns" (defArgs s_are_columns) (defBody s_are_columns) (defScope s_are_columns) .none kV_are_columns dc_are_columns pm_are_columns an_are_columns cd_are_columns ct_are_columns), sl_are_columns⟩)
    (l__law_well : K.lookup f__law_well = some ⟨oc__law_well, od__law_well, .func (PySem.W.fnOf "_law_well" "_law_well" (defArgs s__law_well) (defBody s__law_well) (defScope s__law_well) .none kV__law_well dc__law_well pm__law_well an__law_well cd__law_well ct__law_well), sl__law_well⟩)
    (l__law_draw : K.lookup f__law_draw = some ⟨oc__law_draw, od__law_draw, .func (PySem.W.fnOf "_law_draw" "_law_draw" (defArgs s__law_draw) (defBody s__law_draw) (defScope s__law_draw) .none kV__law_draw dc__law_draw pm__law_draw an__law_draw cd__law_draw ct__law_draw), sl__law_draw⟩)
    (l__law_names : K.lookup f__law_names = some ⟨oc__law_names, od__law_names, .func (PySem.W.fnOf "_law_names" "_law_names" (defArgs s__law_names) (defBody s__law_names) (defScope s__law_names) .none kV__law_names dc__law_names pm__law_names an__law_names cd__law_names ct__law_names), sl__law_names⟩)
    (l__law_base : K.lookup f__law_base = some ⟨oc__law_base, od__law_base, .func (PySem.W.fnOf "_law_base" "_law_base" (defArgs s__law_base) (defBody s__law_base) (defScope s__law_base) .none kV__law_base dc__law_base pm__law_base an__law_base cd__law_base ct__law_base), sl__law_base⟩)
    (l__law_refused : K.lookup f__law_refused = some ⟨oc__law_refused, od__law_refused, .func (PySem.W.fnOf "_law_refused" "_law_refused" (defArgs s__law_refused) (defBody s__law_refused) (defScope s__law_refused) .none kV__law_refused dc__law_refused pm__law_refused an__law_refused cd__law_refused ct__law_refused), sl__law_refused⟩)
    (l__law_odd : K.lookup f__law_odd = some ⟨oc__law_odd, od__law_odd, .func (PySem.W.fnOf "_law_odd" "_law_odd" (defArgs s__law_odd) (defBody s__law_odd) (defScope s__law_odd) .none kV__law_odd dc__law_odd pm__law_odd an__law_odd cd__law_odd ct__law_odd), sl__law_odd⟩)
    (l__law_right : K.lookup f__law_right = some ⟨oc__law_right, od__law_right, .func (PySem.W.fnOf "_law_right" "_law_right" (defArgs s__law_right) (defBody s__law_right) (defScope s__law_right) .none kV__law_right dc__law_right pm__law_right an__law_right (.ref tc__law_right) ct__law_right), sl__law_right⟩)
    (l_law : K.lookup f_law = some ⟨oc_law, od_law, .func (PySem.W.fnOf "law" "law" (defArgs s_law) (defBody s_law) (defScope s_law) .none kV_law dc_law pm_law an_law cd_law ct_law), sl_law⟩)
    (l_NoRow_o___init__ : K.lookup f_NoRow_o___init__ = some ⟨oc_NoRow_o___init__, od_NoRow_o___init__, .func (PySem.W.fnOf "__init__" "NoRow.__init__" (defArgs s_NoRow_o___init__) (defBody s_NoRow_o___init__) (defScope s_NoRow_o___init__) .none kV_NoRow_o___init__ dc_NoRow_o___init__ pm_NoRow_o___init__ an_NoRow_o___init__ cd_NoRow_o___init__ ct_NoRow_o___init__), sl_NoRow_o___init__⟩)
    (l_Table_o___init__ : K.lookup f_Table_o___init__ = some ⟨oc_Table_o___init__, od_Table_o___init__, .func (PySem.W.fnOf "__init__" "Table.__init__" (defArgs s_Table_o___init__) (defBody s_Table_o___init__) (defScope s_Table_o___init__) (.ref dT_Table_o___init__) kV_Table_o___init__ dc_Table_o___init__ pm_Table_o___init__ an_Table_o___init__ cd_Table_o___init__ ct_Table_o___init__), sl_Table_o___init__⟩)
    (ld_Table_o___init__ : K.lookup dT_Table_o___init__ = some ⟨o2_Table_o___init__, od2_Table_o___init__, .seq (List.toArray [.none]) n2_Table_o___init__, sl2_Table_o___init__⟩)
    (l_Table_o___len__ : K.lookup f_Table_o___len__ = some ⟨oc_Table_o___len__, od_Table_o___len__, .func (PySem.W.fnOf "__len__" "Table.__len__" (defArgs s_Table_o___len__) (defBody s_Table_o___len__) (defScope s_Table_o___len__) .none kV_Table_o___len__ dc_Table_o___len__ pm_Table_o___len__ an_Table_o___len__ cd_Table_o___len__ ct_Table_o___len__), sl_Table_o___len__⟩)
    (l_Table_o___eq__ : K.lookup f_Table_o___eq__ = some ⟨oc_Table_o___eq__, od_Table_o___eq__, .func (PySem.W.fnOf "__eq__" "Table.__eq__" (defArgs s_Table_o___eq__) (defBody s_Table_o___eq__) (defScope s_Table_o___eq__) .none kV_Table_o___eq__ dc_Table_o___eq__ pm_Table_o___eq__ an_Table_o___eq__ cd_Table_o___eq__ ct_Table_o___eq__), sl_Table_o___eq__⟩)
    (l_Table_o_columns : K.lookup f_Table_o_columns = some ⟨oc_Table_o_columns, od_Table_o_columns, .func (PySem.W.fnOf "columns" "Table.columns" (defArgs s_Table_o_columns) (defBody s_Table_o_columns) (defScope s_Table_o_columns) .none kV_Table_o_columns dc_Table_o_columns pm_Table_o_columns an_Table_o_columns cd_Table_o_columns ct_Table_o_columns), sl_Table_o_columns⟩)
    (l_Table_o_rows : K.lookup f_Table_o_rows = some ⟨oc_Table_o_rows, od_Table_o_rows, .func (PySem.W.fnOf "rows" "Table.rows" (defArgs s_Table_o_rows) (defBody s_Table_o_rows) (defScope s_Table_o_rows) .none kV_Table_o_rows dc_Table_o_rows pm_Table_o_rows an_Table_o_rows cd_Table_o_rows ct_Table_o_rows), sl_Table_o_rows⟩)
    (l_Table_o_has : K.lookup f_Table_o_has = some ⟨oc_Table_o_has, od_Table_o_has, .func (PySem.W.fnOf "has" "Table.has" (defArgs s_Table_o_has) (defBody s_Table_o_has) (defScope s_Table_o_has) .none kV_Table_o_has dc_Table_o_has pm_Table_o_has an_Table_o_has cd_Table_o_has ct_Table_o_has), sl_Table_o_has⟩)
    (l_Table_o_with_row : K.lookup f_Table_o_with_row = some ⟨oc_Table_o_with_row, od_Table_o_with_row, .func (PySem.W.fnOf "with_row" "Table.with_row" (defArgs s_Table_o_with_row) (defBody s_Table_o_with_row) (defScope s_Table_o_with_row) .none kV_Table_o_with_row dc_Table_o_with_row pm_Table_o_with_row an_Table_o_with_row cd_Table_o_with_row ct_Table_o_with_row), sl_Table_o_with_row⟩)
    (l_Table_o_without_row : K.lookup f_Table_o_without_row = some ⟨oc_Table_o_without_row, od_Table_o_without_row, .func (PySem.W.fnOf "without_row" "Table.without_row" (defArgs s_Table_o_without_row) (defBody s_Table_o_without_row) (defScope s_Table_o_without_row) .none kV_Table_o_without_row dc_Table_o_without_row pm_Table_o_without_row an_Table_o_without_row cd_Table_o_without_row ct_Table_o_without_row), sl_Table_o_without_row⟩)
    (c1_is_name : PySem.W.codeIn K cd_is_name "is_name" = true)
    (k1_is_name : PySem.W.keepIn K (.ref f_is_name) = true)
    (c1_is_value : PySem.W.codeIn K cd_is_value "is_value" = true)
    (k1_is_value : PySem.W.keepIn K (.ref f_is_value) = true)
    (c1_is_row : PySem.W.codeIn K cd_is_row "is_row" = true)
    (k1_is_row : PySem.W.keepIn K (.ref f_is_row) = true)
    (c1_want_row : PySem.W.codeIn K cd_want_row "want_row" = true)
    (k1_want_row : PySem.W.keepIn K (.ref f_want_row) = true)
    (c1_are_columns : PySem.W.codeIn K cd_are_columns "are_columns" = true)
    (k1_are_columns : PySem.W.keepIn K (.ref f_are_columns) = true)
    (c1__law_well : PySem.W.codeIn K cd__law_well "_law_well" = true)
    (k1__law_well : PySem.W.keepIn K (.ref f__law_well) = true)
    (c1__law_draw : PySem.W.codeIn K cd__law_draw "_law_draw" = true)
    (k1__law_draw : PySem.W.keepIn K (.ref f__law_draw) = true)
    (c1__law_names : PySem.W.codeIn K cd__law_names "_law_names" = true)
    (k1__law_names : PySem.W.keepIn K (.ref f__law_names) = true)
    (c1__law_base : PySem.W.codeIn K cd__law_base "_law_base" = true)
    (k1__law_base : PySem.W.keepIn K (.ref f__law_base) = true)
    (c1__law_refused : PySem.W.codeIn K cd__law_refused "_law_refused" = true)
    (k1__law_refused : PySem.W.keepIn K (.ref f__law_refused) = true)
    (c1__law_odd : PySem.W.codeIn K cd__law_odd "_law_odd" = true)
    (k1__law_odd : PySem.W.keepIn K (.ref f__law_odd) = true)
    (c1__law_right : PySem.W.codeIn K (.ref tc__law_right) "_law_right" = true)
    (th__law_right : DL.tabHd K ts tc__law_right = true)
    (k1__law_right : PySem.W.keepIn K (.ref f__law_right) = true)
    (c1_law : PySem.W.codeIn K cd_law "law" = true)
    (k1_law : PySem.W.keepIn K (.ref f_law) = true)
    (c1_NoRow_o___init__ : PySem.W.codeIn K cd_NoRow_o___init__ "NoRow.__init__" = true)
    (k1_NoRow_o___init__ : PySem.W.keepIn K (.ref f_NoRow_o___init__) = true)
    (c1_Table_o___init__ : PySem.W.codeIn K cd_Table_o___init__ "Table.__init__" = true)
    (k1_Table_o___init__ : PySem.W.keepIn K (.ref f_Table_o___init__) = true)
    (i1_Table_o___init__ : PySem.W.isFn K (.ref f_Table_o___init__) = true)
    (c1_Table_o___len__ : PySem.W.codeIn K cd_Table_o___len__ "Table.__len__" = true)
    (k1_Table_o___len__ : PySem.W.keepIn K (.ref f_Table_o___len__) = true)
    (i1_Table_o___len__ : PySem.W.isFn K (.ref f_Table_o___len__) = true)
    (c1_Table_o___eq__ : PySem.W.codeIn K cd_Table_o___eq__ "Table.__eq__" = true)
    (k1_Table_o___eq__ : PySem.W.keepIn K (.ref f_Table_o___eq__) = true)
    (i1_Table_o___eq__ : PySem.W.isFn K (.ref f_Table_o___eq__) = true)
    (c1_Table_o_columns : PySem.W.codeIn K cd_Table_o_columns "Table.columns" = true)
    (k1_Table_o_columns : PySem.W.keepIn K (.ref f_Table_o_columns) = true)
    (i1_Table_o_columns : PySem.W.isFn K (.ref f_Table_o_columns) = true)
    (c1_Table_o_rows : PySem.W.codeIn K cd_Table_o_rows "Table.rows" = true)
    (k1_Table_o_rows : PySem.W.keepIn K (.ref f_Table_o_rows) = true)
    (i1_Table_o_rows : PySem.W.isFn K (.ref f_Table_o_rows) = true)
    (c1_Table_o_has : PySem.W.codeIn K cd_Table_o_has "Table.has" = true)
    (k1_Table_o_has : PySem.W.keepIn K (.ref f_Table_o_has) = true)
    (i1_Table_o_has : PySem.W.isFn K (.ref f_Table_o_has) = true)
    (c1_Table_o_with_row : PySem.W.codeIn K cd_Table_o_with_row "Table.with_row" = true)
    (k1_Table_o_with_row : PySem.W.keepIn K (.ref f_Table_o_with_row) = true)
    (i1_Table_o_with_row : PySem.W.isFn K (.ref f_Table_o_with_row) = true)
    (c1_Table_o_without_row : PySem.W.codeIn K cd_Table_o_without_row "Table.without_row" = true)
    (k1_Table_o_without_row : PySem.W.keepIn K (.ref f_Table_o_without_row) = true)
    (i1_Table_o_without_row : PySem.W.isFn K (.ref f_Table_o_without_row) = true)
    (sp_FoldError : PySem.W.specialIn K (.ref c_FoldError) "__getattribute__" = some (some (.builtin "type.__getattribute__")))
    (rd_FoldError : PySem.W.readsIn K c_FoldError (.type "type") = true)
    (fc_FoldError : PySem.W.findCls K (.ref c_FoldError) (.type "type") "__init__" = some (.val (.builtin "ValueError.__init__")))
    (eC_NoColumns : PySem.W.subIn K (.ref c_NoColumns) (.type "BaseException") = some true)
    (tC_NoColumns : PySem.W.typeIn K (.ref c_NoColumns) = some (.type "type"))
    (kc_NoColumns : PySem.W.keepIn K (.ref c_NoColumns) = true)
    (xi_NoColumns : PySem.W.excIn K c_NoColumns [.type "ValueError", .type "Exception", .type "BaseException", .type "object"] "ValueError.__new__" = true)
    (eC_NoRow : PySem.W.subIn K (.ref c_NoRow) (.type "BaseException") = some true)
    (tC_NoRow : PySem.W.typeIn K (.ref c_NoRow) = some (.type "type"))
    (kc_NoRow : PySem.W.keepIn K (.ref c_NoRow) = true)
    (xL_NoRow : K.lookup c_NoRow = some (PySem.excClassObj nm_NoRow q_NoRow c_NoRow N_NoRow bs_NoRow bm_NoRow true sn_NoRow sub_NoRow ab_NoRow col_NoRow dd_NoRow m0_NoRow m1_NoRow m2_NoRow m3_NoRow m5_NoRow "ValueError.__new__"))
    (rv_NoRow : PySem.HandSPX.refsVE bm_NoRow = true)
    (sa_NoRow : PySem.W.findIn K (.ref c_NoRow) "__setattr__" = some (some (.builtin "object.__setattr__")))
    (tI_NoRow : PySem.W.typeIn K (.ref f_NoRow_o___init__) = some (.type "function"))
    (ga_NoRow : PySem.W.findIn K (.ref c_NoRow) "__getattribute__" = some (some (.builtin "BaseException.__getattribute__")))
    (gg_NoRow : PySem.W.findIn K (.ref c_NoRow) "__getattr__" = some none)
    (hd_NoRow : PySem.W.hasDictIn K c_NoRow = true)
    (hc_NoRow : PySem.W.findIn K (.ref c_NoRow) "__class__" = some (some (.builtin "object.__class__")))
    (hnO : PySem.W.specialIn K (.builtin "object.__class__") "__get__" = some (some (.builtin "getset_descriptor.__get__")))
    (htO : PySem.W.takesIn K (.builtin "object.__class__") = some true)
    (hm_NoRow : PySem.W.mroIn K c_NoRow (.type "object") = some true)
    (pg_Table : PySem.W.plainGet K c_Table Str.empty = true)
    (hd_Table : PySem.W.hasDictIn K c_Table = true)
    (po_Table : PySem.W.plainOver K c_Table = true)
    (sa_Table : PySem.W.findIn K (.ref c_Table) "__setattr__" = some (some (.builtin "object.__setattr__")))
    (mk_Table : PySem.W.makesIn K c_Table = true)
    (kc_Table : PySem.W.keepIn K (.ref c_Table) = true)
    (ex_NoRow_FoldError : PySem.W.exmOne K (.ref c_NoRow) (.ref c_FoldError) = some true)
    (ki_NoRow_NoColumns : PySem.W.kitOne K (.ref c_NoRow) (.ref c_NoColumns) = some false)
    (kt_NoRow_NoRow : PySem.W.kitOne K (.ref c_NoRow) (.ref c_NoRow) = some true)
    (kt_Table_Table : PySem.W.kitOne K (.ref c_Table) (.ref c_Table) = some true)
    (na_NoRow_o_at : PySem.W.findIn K (.ref c_NoRow) "at" = some none)
    (na_Table_o_held : PySem.W.findIn K (.ref c_Table) "held" = some none)
    (na_Table_o_named : PySem.W.findIn K (.ref c_Table) "named" = some none)
    (nf_Table_Table : PySem.W.notFirst K c_Table (.ref c_Table) = true)
    (v_LETTERS : PySem.W.nsIn K mainGlobals "LETTERS" = some (some (.str "abcdefghijklmnopqrstuvwxyz" tk_LETTERS)))
    (v_LONGEST_NAME : PySem.W.nsIn K mainGlobals "LONGEST_NAME" = some (some (.int 8 tk_LONGEST_NAME)))
    (v_MOST_COLUMNS : PySem.W.nsIn K mainGlobals "MOST_COLUMNS" = some (some (.int 8 tk_MOST_COLUMNS)))
    (z_all : PySem.W.nsIn K mainGlobals "all" = some none)
    (z_bool : PySem.W.nsIn K mainGlobals "bool" = some none)
    (z_enumerate : PySem.W.nsIn K mainGlobals "enumerate" = some none)
    (z_int : PySem.W.nsIn K mainGlobals "int" = some none)
    (z_isinstance : PySem.W.nsIn K mainGlobals "isinstance" = some none)
    (z_len : PySem.W.nsIn K mainGlobals "len" = some none)
    (z_list : PySem.W.nsIn K mainGlobals "list" = some none)
    (z_range : PySem.W.nsIn K mainGlobals "range" = some none)
    (z_set : PySem.W.nsIn K mainGlobals "set" = some none)
    (z_sorted : PySem.W.nsIn K mainGlobals "sorted" = some none)
    (z_str : PySem.W.nsIn K mainGlobals "str" = some none)
    (z_tuple : PySem.W.nsIn K mainGlobals "tuple" = some none)
    (neq_Table : PySem.W.findIn K (.ref c_Table) "__ne__" = some (some (.builtin "object.__ne__")))
    (hmO_Table : PySem.W.mroIn K c_Table (.type "object") = some true)
    (hc_Table : PySem.W.findIn K (.ref c_Table) "__class__" = some (some (.builtin "object.__class__"))) :
    ∃ (fd : FuncData) (cs : List (Addr × Addr)), (∀ p ∈ cs, p.2 ∈ ts ∧ K.lookup p.2 = none ∧ PySem.W.codeHdIn K p.1 p.2 = true) ∧ (∀ (s : Shared) (v : Value), BindsTo s fd ⟨[v], []⟩ [("_law_script", v)]) ∧ ∀ base : Heap, K.In base → base.Ns mainGlobals mg → (∀ p ∈ cs, LamX.TabB base mg p.1 p.2) → FnOk l.prog w K mg base CX0 90 fa fd ["_law_script"] (spLT K cs) := by
  have e := hfa.symm.trans (PySem.W.mg_of X G a_law)
  cases e
  have T : Tx K mg ⟨c_FoldError, c_NoColumns, c_NoRow, c_Table, f_is_name, PySem.W.fnOf "is_name" "is_name" (defArgs s_is_name) (defBody s_is_name) (defScope s_is_name) .none kV_is_name dc_is_name pm_is_name an_is_name cd_is_name ct_is_name, f_is_value, PySem.W.fnOf "is_value" "is_value" (defArgs s_is_value) (defBody s_is_value) (defScope s_is_value) .none kV_is_value dc_is_value pm_is_value an_is_value cd_is_value ct_is_value, f_is_row, PySem.W.fnOf "is_row" "is_row" (defArgs s_is_row) (defBody s_is_row) (defScope s_is_row) .none kV_is_row dc_is_row pm_is_row an_is_row cd_is_row ct_is_row, f_want_row, PySem.W.fnOf "want_row" "want_row" (defArgs s_want_row) (defBody s_want_row) (defScope s_want_row) (.ref dT_want_row) kV_want_row dc_want_row pm_want_row an_want_row cd_want_row ct_want_row, f_are_columns, PySem.W.fnOf "are_columns" "are_columns" (defArgs s_are_columns) (defBody s_are_columns) (defScope s_are_columns) .none kV_are_columns dc_are_columns pm_are_columns an_are_columns cd_are_columns ct_are_columns, f__law_well, PySem.W.fnOf "_law_well" "_law_well" (defArgs s__law_well) (defBody s__law_well) (defScope s__law_well) .none kV__law_well dc__law_well pm__law_well an__law_well cd__law_well ct__law_well, f__law_draw, PySem.W.fnOf "_law_draw" "_law_draw" (defArgs s__law_draw) (defBody s__law_draw) (defScope s__law_draw) .none kV__law_draw dc__law_draw pm__law_draw an__law_draw cd__law_draw ct__law_draw, f__law_names, PySem.W.fnOf "_law_names" "_law_names" (defArgs s__law_names) (defBody s__law_names) (defScope s__law_names) .none kV__law_names dc__law_names pm__law_names an__law_names cd__law_names ct__law_names, f__law_base, PySem.W.fnOf "_law_base" "_law_base" (defArgs s__law_base) (defBody s__law_base) (defScope s__law_base) .none kV__law_base dc__law_base pm__law_base an__law_base cd__law_base ct__law_base, f__law_refused, PySem.W.fnOf "_law_refused" "_law_refused" (defArgs s__law_refused) (defBody s__law_refused) (defScope s__law_refused) .none kV__law_refused dc__law_refused pm__law_refused an__law_refused cd__law_refused ct__law_refused, f__law_odd, PySem.W.fnOf "_law_odd" "_law_odd" (defArgs s__law_odd) (defBody s__law_odd) (defScope s__law_odd) .none kV__law_odd dc__law_odd pm__law_odd an__law_odd cd__law_odd ct__law_odd, f__law_right, PySem.W.fnOf "_law_right" "_law_right" (defArgs s__law_right) (defBody s__law_right) (defScope s__law_right) .none kV__law_right dc__law_right pm__law_right an__law_right (.ref tc__law_right) ct__law_right, tc__law_right, DL.tabAd K tc__law_right, fa, PySem.W.fnOf "law" "law" (defArgs s_law) (defBody s_law) (defScope s_law) .none kV_law dc_law pm_law an_law cd_law ct_law, f_NoRow_o___init__, PySem.W.fnOf "__init__" "NoRow.__init__" (defArgs s_NoRow_o___init__) (defBody s_NoRow_o___init__) (defScope s_NoRow_o___init__) .none kV_NoRow_o___init__ dc_NoRow_o___init__ pm_NoRow_o___init__ an_NoRow_o___init__ cd_NoRow_o___init__ ct_NoRow_o___init__, f_Table_o___init__, PySem.W.fnOf "__init__" "Table.__init__" (defArgs s_Table_o___init__) (defBody s_Table_o___init__) (defScope s_Table_o___init__) (.ref dT_Table_o___init__) kV_Table_o___init__ dc_Table_o___init__ pm_Table_o___init__ an_Table_o___init__ cd_Table_o___init__ ct_Table_o___init__, f_Table_o___len__, PySem.W.fnOf "__len__" "Table.__len__" (defArgs s_Table_o___len__) (defBody s_Table_o___len__) (defScope s_Table_o___len__) .none kV_Table_o___len__ dc_Table_o___len__ pm_Table_o___len__ an_Table_o___len__ cd_Table_o___len__ ct_Table_o___len__, f_Table_o___eq__, PySem.W.fnOf "__eq__" "Table.__eq__" (defArgs s_Table_o___eq__) (defBody s_Table_o___eq__) (defScope s_Table_o___eq__) .none kV_Table_o___eq__ dc_Table_o___eq__ pm_Table_o___eq__ an_Table_o___eq__ cd_Table_o___eq__ ct_Table_o___eq__, f_Table_o_columns, PySem.W.fnOf "columns" "Table.columns" (defArgs s_Table_o_columns) (defBody s_Table_o_columns) (defScope s_Table_o_columns) .none kV_Table_o_columns dc_Table_o_columns pm_Table_o_columns an_Table_o_columns cd_Table_o_columns ct_Table_o_columns, f_Table_o_rows, PySem.W.fnOf "rows" "Table.rows" (defArgs s_Table_o_rows) (defBody s_Table_o_rows) (defScope s_Table_o_rows) .none kV_Table_o_rows dc_Table_o_rows pm_Table_o_rows an_Table_o_rows cd_Table_o_rows ct_Table_o_rows, f_Table_o_has, PySem.W.fnOf "has" "Table.has" (defArgs s_Table_o_has) (defBody s_Table_o_has) (defScope s_Table_o_has) .none kV_Table_o_has dc_Table_o_has pm_Table_o_has an_Table_o_has cd_Table_o_has ct_Table_o_has, f_Table_o_with_row, PySem.W.fnOf "with_row" "Table.with_row" (defArgs s_Table_o_with_row) (defBody s_Table_o_with_row) (defScope s_Table_o_with_row) .none kV_Table_o_with_row dc_Table_o_with_row pm_Table_o_with_row an_Table_o_with_row cd_Table_o_with_row ct_Table_o_with_row, f_Table_o_without_row, PySem.W.fnOf "without_row" "Table.without_row" (defArgs s_Table_o_without_row) (defBody s_Table_o_without_row) (defScope s_Table_o_without_row) .none kV_Table_o_without_row dc_Table_o_without_row pm_Table_o_without_row an_Table_o_without_row cd_Table_o_without_row ct_Table_o_without_row⟩ := {
    F_is_name := df_mk (st := s_is_name) l_is_name c1_is_name k1_is_name,
    g_is_name := PySem.W.mg_of X G a_is_name,
    k_is_name := k1_is_name,
    b_is_name := FunD.bindsN (ps := ["thing"]) (df_mk (st := s_is_name) l_is_name c1_is_name k1_is_name) fun _ _ _ _ _ _ us hl => match us, hl with | [_], _ => rfl,
    F_is_value := df_mk (st := s_is_value) l_is_value c1_is_value k1_is_value,
    g_is_value := PySem.W.mg_of X G a_is_value,
    k_is_value := k1_is_value,
    b_is_value := FunD.bindsN (ps := ["thing"]) (df_mk (st := s_is_value) l_is_value c1_is_value k1_is_value) fun _ _ _ _ _ _ us hl => match us, hl with | [_], _ => rfl,
    F_is_row := df_mk (st := s_is_row) l_is_row c1_is_row k1_is_row,
    g_is_row := PySem.W.mg_of X G a_is_row,
    k_is_row := k1_is_row,
    b_is_row := FunD.bindsN (ps := ["thing", "many"]) (df_mk (st := s_is_row) l_is_row c1_is_row k1_is_row) fun _ _ _ _ _ _ us hl => match us, hl with | [_, _], _ => rfl,
    F_want_row := df_mkD l_want_row c1_want_row k1_want_row ld_want_row (by simp) (.cons ⟨_, rfl⟩ .nil),
    g_want_row := PySem.W.mg_of X G a_want_row,
    k_want_row := k1_want_row,
    b_want_row := (by
    obtain ⟨ds, h1, h2⟩ := FunD.binds1 (ps := ["thing", "many", "at"]) (df_mkD (st := s_want_row) (dvs := [.int 0]) l_want_row c1_want_row k1_want_row ld_want_row (by simp) (.cons ⟨_, rfl⟩ .nil)) 3 1 (by simp) rfl fun _ _ _ _ _ _ _ us its h1 h2 => match us, h1, its, h2 with | [_, _, _], _, [_], _ => ⟨_, rfl, rfl⟩
    cases h1
    exact h2),
    bx1_want_row := FunD.binds1 (ps := ["thing", "many", "at"]) (df_mkD (st := s_want_row) (dvs := [.int 0]) l_want_row c1_want_row k1_want_row ld_want_row (by simp) (.cons ⟨_, rfl⟩ .nil)) 2 0 (by simp) rfl fun _ _ _ _ _ _ _ us its h1 h2 => match us, h1, its, h2 with | [_, _], _, [_], _ => ⟨_, rfl, rfl⟩,
    F_are_columns := df_mk (st := s_are_columns) l_are_columns c1_are_columns k1_are_columns,
    g_are_columns := PySem.W.mg_of X G a_are_columns,
    k_are_columns := k1_are_columns,
    b_are_columns := FunD.bindsN (ps := ["thing"]) (df_mk (st := s_are_columns) l_are_columns c1_are_columns k1_are_columns) fun _ _ _ _ _ _ us hl => match us, hl with | [_], _ => rfl,
    F__law_well := df_mk (st := s__law_well) l__law_well c1__law_well k1__law_well,
    g__law_well := PySem.W.mg_of X G a__law_well,
    k__law_well := k1__law_well,
    b__law_well := FunD.bindsN (ps := ["_law_cell", "_law_k"]) (df_mk (st := s__law_well) l__law_well c1__law_well k1__law_well) fun _ _ _ _ _ _ us hl => match us, hl with | [_, _], _ => rfl,
    F__law_draw := df_mk (st := s__law_draw) l__law_draw c1__law_draw k1__law_draw,
    g__law_draw := PySem.W.mg_of X G a__law_draw,
    k__law_draw := k1__law_draw,
    b__law_draw := FunD.bindsN (ps := ["_law_well_here", "_law_top"]) (df_mk (st := s__law_draw) l__law_draw c1__law_draw k1__law_draw) fun _ _ _ _ _ _ us hl => match us, hl with | [_, _], _ => rfl,
    F__law_names := df_mk (st := s__law_names) l__law_names c1__law_names k1__law_names,
    g__law_names := PySem.W.mg_of X G a__law_names,
    k__law_names := k1__law_names,
    b__law_names := FunD.bindsN (ps := ["_law_well_here", "_law_count"]) (df_mk (st := s__law_names) l__law_names c1__law_names k1__law_names) fun _ _ _ _ _ _ us hl => match us, hl with | [_, _], _ => rfl,
    F__law_base := df_mk (st := s__law_base) l__law_base c1__law_base k1__law_base,
    g__law_base := PySem.W.mg_of X G a__law_base,
    k__law_base := k1__law_base,
    b__law_base := FunD.bindsN (ps := ["_law_well_here"]) (df_mk (st := s__law_base) l__law_base c1__law_base k1__law_base) fun _ _ _ _ _ _ us hl => match us, hl with | [_], _ => rfl,
    F__law_refused := df_mk (st := s__law_refused) l__law_refused c1__law_refused k1__law_refused,
    g__law_refused := PySem.W.mg_of X G a__law_refused,
    k__law_refused := k1__law_refused,
    b__law_refused := FunD.bindsN (ps := ["_law_deed"]) (df_mk (st := s__law_refused) l__law_refused c1__law_refused k1__law_refused) fun _ _ _ _ _ _ us hl => match us, hl with | [_], _ => rfl,
    F__law_odd := df_mk (st := s__law_odd) l__law_odd c1__law_odd k1__law_odd,
    g__law_odd := PySem.W.mg_of X G a__law_odd,
    k__law_odd := k1__law_odd,
    b__law_odd := FunD.bindsN (ps := ["_law_well_here", "_law_wide"]) (df_mk (st := s__law_odd) l__law_odd c1__law_odd k1__law_odd) fun _ _ _ _ _ _ us hl => match us, hl with | [_, _], _ => rfl,
    lk__law_right := ⟨_, _, _, _, _, _, _, _, rfl, l__law_right, c1__law_right⟩,
    F__law_right := df_mk (st := s__law_right) l__law_right c1__law_right k1__law_right,
    g__law_right := PySem.W.mg_of X G a__law_right,
    k__law_right := k1__law_right,
    b__law_right := FunD.bindsN (ps := ["_law_well_here"]) (df_mk (st := s__law_right) l__law_right c1__law_right k1__law_right) fun _ _ _ _ _ _ us hl => match us, hl with | [_], _ => rfl,
    F_law := df_mk (st := s_law) l_law c1_law k1_law,
    g_law := PySem.W.mg_of X G a_law,
    k_law := k1_law,
    b_law := FunD.bindsN (ps := ["_law_script"]) (df_mk (st := s_law) l_law c1_law k1_law) fun _ _ _ _ _ _ us hl => match us, hl with | [_], _ => rfl,
    F_NoRow_o___init__ := df_mk (st := s_NoRow_o___init__) l_NoRow_o___init__ c1_NoRow_o___init__ k1_NoRow_o___init__,
    k_NoRow_o___init__ := k1_NoRow_o___init__,
    b_NoRow_o___init__ := FunD.bindsN (ps := ["self", "at"]) (df_mk (st := s_NoRow_o___init__) l_NoRow_o___init__ c1_NoRow_o___init__ k1_NoRow_o___init__) fun _ _ _ _ _ _ us hl => match us, hl with | [_, _], _ => rfl,
    F_Table_o___init__ := df_mkD l_Table_o___init__ c1_Table_o___init__ k1_Table_o___init__ ld_Table_o___init__ (by simp) (.cons rfl .nil),
    k_Table_o___init__ := k1_Table_o___init__,
    b_Table_o___init__ := (by
    obtain ⟨ds, h1, h2⟩ := FunD.binds1 (ps := ["self", "columns", "rows"]) (df_mkD (st := s_Table_o___init__) (dvs := [.non]) l_Table_o___init__ c1_Table_o___init__ k1_Table_o___init__ ld_Table_o___init__ (by simp) (.cons rfl .nil)) 3 1 (by simp) rfl fun _ _ _ _ _ _ _ us its h1 h2 => match us, h1, its, h2 with | [_, _, _], _, [_], _ => ⟨_, rfl, rfl⟩
    cases h1
    exact h2),
    bx1_Table_o___init__ := FunD.binds1 (ps := ["self", "columns", "rows"]) (df_mkD (st := s_Table_o___init__) (dvs := [.non]) l_Table_o___init__ c1_Table_o___init__ k1_Table_o___init__ ld_Table_o___init__ (by simp) (.cons rfl .nil)) 2 0 (by simp) rfl fun _ _ _ _ _ _ _ us its h1 h2 => match us, h1, its, h2 with | [_, _], _, [_], _ => ⟨_, rfl, rfl⟩,
    F_Table_o___len__ := df_mk (st := s_Table_o___len__) l_Table_o___len__ c1_Table_o___len__ k1_Table_o___len__,
    k_Table_o___len__ := k1_Table_o___len__,
    b_Table_o___len__ := FunD.bindsN (ps := ["self"]) (df_mk (st := s_Table_o___len__) l_Table_o___len__ c1_Table_o___len__ k1_Table_o___len__) fun _ _ _ _ _ _ us hl => match us, hl with | [_], _ => rfl,
    F_Table_o___eq__ := df_mk (st := s_Table_o___eq__) l_Table_o___eq__ c1_Table_o___eq__ k1_Table_o___eq__,
    k_Table_o___eq__ := k1_Table_o___eq__,
    b_Table_o___eq__ := FunD.bindsN (ps := ["self", "other"]) (df_mk (st := s_Table_o___eq__) l_Table_o___eq__ c1_Table_o___eq__ k1_Table_o___eq__) fun _ _ _ _ _ _ us hl => match us, hl with | [_, _], _ => rfl,
    F_Table_o_columns := df_mk (st := s_Table_o_columns) l_Table_o_columns c1_Table_o_columns k1_Table_o_columns,
    k_Table_o_columns := k1_Table_o_columns,
    b_Table_o_columns := FunD.bindsN (ps := ["self"]) (df_mk (st := s_Table_o_columns) l_Table_o_columns c1_Table_o_columns k1_Table_o_columns) fun _ _ _ _ _ _ us hl => match us, hl with | [_], _ => rfl,
    m_Table_o_columns := ⟨a_Table_o_columns, i1_Table_o_columns, k1_Table_o_columns⟩,
    F_Table_o_rows := df_mk (st := s_Table_o_rows) l_Table_o_rows c1_Table_o_rows k1_Table_o_rows,
    k_Table_o_rows := k1_Table_o_rows,
    b_Table_o_rows := FunD.bindsN (ps := ["self"]) (df_mk (st := s_Table_o_rows) l_Table_o_rows c1_Table_o_rows k1_Table_o_rows) fun _ _ _ _ _ _ us hl => match us, hl with | [_], _ => rfl,
    m_Table_o_rows := ⟨a_Table_o_rows, i1_Table_o_rows, k1_Table_o_rows⟩,
    F_Table_o_has := df_mk (st := s_Table_o_has) l_Table_o_has c1_Table_o_has k1_Table_o_has,
    k_Table_o_has := k1_Table_o_has,
    b_Table_o_has := FunD.bindsN (ps := ["self", "row"]) (df_mk (st := s_Table_o_has) l_Table_o_has c1_Table_o_has k1_Table_o_has) fun _ _ _ _ _ _ us hl => match us, hl with | [_, _], _ => rfl,
    m_Table_o_has := ⟨a_Table_o_has, i1_Table_o_has, k1_Table_o_has⟩,
    F_Table_o_with_row := df_mk (st := s_Table_o_with_row) l_Table_o_with_row c1_Table_o_with_row k1_Table_o_with_row,
    k_Table_o_with_row := k1_Table_o_with_row,
    b_Table_o_with_row := FunD.bindsN (ps := ["self", "row"]) (df_mk (st := s_Table_o_with_row) l_Table_o_with_row c1_Table_o_with_row k1_Table_o_with_row) fun _ _ _ _ _ _ us hl => match us, hl with | [_, _], _ => rfl,
    m_Table_o_with_row := ⟨a_Table_o_with_row, i1_Table_o_with_row, k1_Table_o_with_row⟩,
    F_Table_o_without_row := df_mk (st := s_Table_o_without_row) l_Table_o_without_row c1_Table_o_without_row k1_Table_o_without_row,
    k_Table_o_without_row := k1_Table_o_without_row,
    b_Table_o_without_row := FunD.bindsN (ps := ["self", "row"]) (df_mk (st := s_Table_o_without_row) l_Table_o_without_row c1_Table_o_without_row k1_Table_o_without_row) fun _ _ _ _ _ _ us hl => match us, hl with | [_, _], _ => rfl,
    kp0_Table_o_without_row := kbnP [0] (df_mk (st := s_Table_o_without_row) l_Table_o_without_row c1_Table_o_without_row k1_Table_o_without_row) fun _ _ _ _ _ _ us ws h1 h2 => match us, h1, ws, h2 with | [_], _, [_], _ => rfl,
    m_Table_o_without_row := ⟨a_Table_o_without_row, i1_Table_o_without_row, k1_Table_o_without_row⟩,
    gc_FoldError := PySem.W.mg_of X G gc_FoldError,
    sp_FoldError := sp_FoldError,
    rd_FoldError := rd_FoldError,
    fc_FoldError := fc_FoldError,
    gc_NoColumns := PySem.W.mg_of X G gc_NoColumns,
    xi_NoColumns := xi_NoColumns,
    kc_NoColumns := kc_NoColumns,
    xb_NoColumns := eC_NoColumns,
    xt_NoColumns := tC_NoColumns,
    gc_NoRow := PySem.W.mg_of X G gc_NoRow,
    ox_NoRow := ⟨⟨_, _, _, _, _, _, _, _, _, _, _, _, _, _, _, xL_NoRow, rv_NoRow⟩, sa_NoRow, eC_NoRow, tC_NoRow, kc_NoRow⟩,
    iC_NoRow := a_NoRow_o___init__,
    tI_NoRow := tI_NoRow,
    xc_NoRow := ⟨ga_NoRow, gg_NoRow, eC_NoRow, hd_NoRow, hc_NoRow, hnO, htO, hm_NoRow⟩,
    xf_NoRow := ⟨ga_NoRow, gg_NoRow, eC_NoRow, hd_NoRow⟩,
    gc_Table := PySem.W.mg_of X G gc_Table,
    cl_Table := ⟨pg_Table, hd_Table, po_Table, sa_Table⟩,
    mk_Table := ⟨mk_Table, a_Table_o___init__, i1_Table_o___init__, kc_Table⟩,
    fl_Table := a_Table_o___len__,
    il_Table := i1_Table_o___len__,
    eq_Table := ⟨a_Table_o___eq__, neq_Table, i1_Table_o___eq__, hmO_Table, ⟨pg_Table, hd_Table, po_Table, sa_Table⟩, hc_Table, hnO, htO⟩,
    ex_NoRow_FoldError := ex_NoRow_FoldError,
    ki_NoRow_NoColumns := ki_NoRow_NoColumns,
    kt_NoRow_NoRow := kt_NoRow_NoRow,
    kt_Table_Table := kt_Table_Table,
    na_NoRow_o_at := na_NoRow_o_at,
    na_Table_o_held := na_Table_o_held,
    na_Table_o_named := na_Table_o_named,
    nf_Table_Table := nf_Table_Table,
    v_LETTERS := ⟨_, PySem.W.mg_of X G v_LETTERS, ⟨_, rfl⟩⟩,
    v_LONGEST_NAME := ⟨_, PySem.W.mg_of X G v_LONGEST_NAME, ⟨_, rfl⟩⟩,
    v_MOST_COLUMNS := ⟨_, PySem.W.mg_of X G v_MOST_COLUMNS, ⟨_, rfl⟩⟩,
    z_all := PySem.W.mg_none_of X G z_all,
    z_bool := PySem.W.mg_none_of X G z_bool,
    z_enumerate := PySem.W.mg_none_of X G z_enumerate,
    z_int := PySem.W.mg_none_of X G z_int,
    z_isinstance := PySem.W.mg_none_of X G z_isinstance,
    z_len := PySem.W.mg_none_of X G z_len,
    z_list := PySem.W.mg_none_of X G z_list,
    z_range := PySem.W.mg_none_of X G z_range,
    z_set := PySem.W.mg_none_of X G z_set,
    z_sorted := PySem.W.mg_none_of X G z_sorted,
    z_str := PySem.W.mg_none_of X G z_str,
    z_tuple := PySem.W.mg_none_of X G z_tuple }
  refine ⟨_, [(tc__law_right, DL.tabAd K tc__law_right)], fun p hp => ?_, fun s v => .of_eq rfl, fun base _ _ hB => ok_law T ⟨hB _ List.mem_cons_self⟩⟩
  simp only [List.mem_cons, List.not_mem_nil, or_false] at hp
  rcases hp with rfl
  · exact DL.tabHd_ok th__law_right

end Law
open PySem PySem.W PyProof.Rows in
set_option maxRecDepth 100000 in
set_option maxHeartbeats 0 in
theorem PySem.Challenge.cw_foldbough_k03_rows_put_in_and_taken_out_holds : PySem.Challenge.rw_foldbough_k03_rows_put_in_and_taken_out.Holds := by
  w_on; o_law; k_head; (case hw => w_witness2)
  k_fill
  refine DL.walkLT (l := PySem.Challenge.rw_foldbough_k03_rows_put_in_and_taken_out) (k := 90) ⟨rfl, by decide, by decide⟩ rfl rfl (fun w h Y => ⟨PySem.W.km_in_of Y, PySem.W.km_tabs_of Y⟩) ?F
  case F =>
    intro w mg fa h KX G hmg
    refine' Law.all_mk KX G hmg ?gc_FoldError ?gc_NoColumns ?gc_NoRow ?gc_Table ?a_is_name ?a_is_value ?a_is_row ?a_want_row ?a_are_columns ?a__law_well ?a__law_draw ?a__law_names ?a__law_base ?a__law_refused ?a__law_odd ?a__law_right ?a_law ?a_NoRow_o___init__ ?a_Table_o___init__ ?a_Table_o___len__ ?a_Table_o___eq__ ?a_Table_o_columns ?a_Table_o_rows ?a_Table_o_has ?a_Table_o_with_row ?a_Table_o_without_row ?l_is_name ?l_is_value ?l_is_row ?l_want_row ?ld_want_row ?l_are_columns ?l__law_well ?l__law_draw ?l__law_names ?l__law_base ?l__law_refused ?l__law_odd ?l__law_right ?l_law ?l_NoRow_o___init__ ?l_Table_o___init__ ?ld_Table_o___init__ ?l_Table_o___len__ ?l_Table_o___eq__ ?l_Table_o_columns ?l_Table_o_rows ?l_Table_o_has ?l_Table_o_with_row ?l_Table_o_without_row ?c1_is_name ?k1_is_name ?c1_is_value ?k1_is_value ?c1_is_row ?k1_is_row ?c1_want_row ?k1_want_row ?c1_are_columns ?k1_are_columns ?c1__law_well ?k1__law_well ?c1__law_draw ?k1__law_draw ?c1__law_names ?k1__law_names ?c1__law_base ?k1__law_base ?c1__law_refused ?k1__law_refused ?c1__law_odd ?k1__law_odd ?c1__law_right ?th__law_right ?k1__law_right ?c1_law ?k1_law ?c1_NoRow_o___init__ ?k1_NoRow_o___init__ ?c1_Table_o___init__ ?k1_Table_o___init__ ?i1_Table_o___init__ ?c1_Table_o___len__ ?k1_Table_o___len__ ?i1_Table_o___len__ ?c1_Table_o___eq__ ?k1_Table_o___eq__ ?i1_Table_o___eq__ ?c1_Table_o_columns ?k1_Table_o_columns ?i1_Table_o_columns ?c1_Table_o_rows ?k1_Table_o_rows ?i1_Table_o_rows ?c1_Table_o_has ?k1_Table_o_has ?i1_Table_o_has ?c1_Table_o_with_row ?k1_Table_o_with_row ?i1_Table_o_with_row ?c1_Table_o_without_row ?k1_Table_o_without_row ?i1_Table_o_without_row ?sp_FoldError ?rd_FoldError ?fc_FoldError ?eC_NoColumns ?tC_NoColumns ?kc_NoColumns ?xi_NoColumns ?eC_NoRow ?tC_NoRow ?kc_NoRow ?xL_NoRow ?rv_NoRow ?sa_NoRow ?tI_NoRow ?ga_NoRow ?gg_NoRow ?hd_NoRow ?hc_NoRow ?hnO ?htO ?hm_NoRow ?pg_Table ?hd_Table ?po_Table ?sa_Table ?mk_Table ?kc_Table ?ex_NoRow_FoldError ?ki_NoRow_NoColumns ?kt_NoRow_NoRow ?kt_Table_Table ?na_NoRow_o_at ?na_Table_o_held ?na_Table_o_named ?nf_Table_Table ?v_LETTERS ?v_LONGEST_NAME ?v_MOST_COLUMNS ?z_all ?z_bool ?z_enumerate ?z_int ?z_isinstance ?z_len ?z_list ?z_range ?z_set ?z_sorted ?z_str ?z_tuple ?neq_Table ?hmO_Table ?hc_Table
    (case gc_FoldError => first | k_is | rfl | decide +kernel)
    (case gc_NoColumns => first | k_is | rfl | decide +kernel)
    (case gc_NoRow => first | k_is | rfl | decide +kernel)
    (case gc_Table => first | k_is | rfl | decide +kernel)
    (case a_is_name => first | k_is | rfl | decide +kernel)
    (case a_is_value => first | k_is | rfl | decide +kernel)
    (case a_is_row => first | k_is | rfl | decide +kernel)
    (case a_want_row => first | k_is | rfl | decide +kernel)
    (case a_are_columns => first | k_is | rfl | decide +kernel)
    (case a__law_well => first | k_is | rfl | decide +kernel)
    (case a__law_draw => first | k_is | rfl | decide +kernel)
    (case a__law_names => first | k_is | rfl | decide +kernel)
    (case a__law_base => first | k_is | rfl | decide +kernel)
    (case a__law_refused => first | k_is | rfl | decide +kernel)
    (case a__law_odd => first | k_is | rfl | decide +kernel)
    (case a__law_right => first | k_is | rfl | decide +kernel)
    (case a_law => first | k_is | rfl | decide +kernel)
    (case a_NoRow_o___init__ => first | k_is | rfl | decide +kernel)
    (case a_Table_o___init__ => first | k_is | rfl | decide +kernel)
    (case a_Table_o___len__ => first | k_is | rfl | decide +kernel)
    (case a_Table_o___eq__ => first | k_is | rfl | decide +kernel)
    (case a_Table_o_columns => first | k_is | rfl | decide +kernel)
    (case a_Table_o_rows => first | k_is | rfl | decide +kernel)
    (case a_Table_o_has => first | k_is | rfl | decide +kernel)
    (case a_Table_o_with_row => first | k_is | rfl | decide +kernel)
    (case a_Table_o_without_row => first | k_is | rfl | decide +kernel)
    (case l_is_name => first | k_is | rfl | decide +kernel)
    (case l_is_value => first | k_is | rfl | decide +kernel)
    (case l_is_row => first | k_is | rfl | decide +kernel)
    (case l_want_row => first | k_is | rfl | decide +kernel)
    (case ld_want_row => first | k_is | rfl | decide +kernel)
    (case l_are_columns => first | k_is | rfl | decide +kernel)
    (case l__law_well => first | k_is | rfl | decide +kernel)
    (case l__law_draw => first | k_is | rfl | decide +kernel)
    (case l__law_names => first | k_is | rfl | decide +kernel)
    (case l__law_base => first | k_is | rfl | decide +kernel)
    (case l__law_refused => first | k_is | rfl | decide +kernel)
    (case l__law_odd => first | k_is | rfl | decide +kernel)
    (case l__law_right => first | k_is | rfl | decide +kernel)
    (case l_law => first | k_is | rfl | decide +kernel)
    (case l_NoRow_o___init__ => first | k_is | rfl | decide +kernel)
    (case l_Table_o___init__ => first | k_is | rfl | decide +kernel)
    (case ld_Table_o___init__ => first | k_is | rfl | decide +kernel)
    (case l_Table_o___len__ => first | k_is | rfl | decide +kernel)
    (case l_Table_o___eq__ => first | k_is | rfl | decide +kernel)
    (case l_Table_o_columns => first | k_is | rfl | decide +kernel)
    (case l_Table_o_rows => first | k_is | rfl | decide +kernel)
    (case l_Table_o_has => first | k_is | rfl | decide +kernel)
    (case l_Table_o_with_row => first | k_is | rfl | decide +kernel)
    (case l_Table_o_without_row => first | k_is | rfl | decide +kernel)
    (case c1_is_name => first | k_is | rfl | decide +kernel)
    (case k1_is_name => first | k_is | rfl | decide +kernel)
    (case c1_is_value => first | k_is | rfl | decide +kernel)
    (case k1_is_value => first | k_is | rfl | decide +kernel)
    (case c1_is_row => first | k_is | rfl | decide +kernel)
    (case k1_is_row => first | k_is | rfl | decide +kernel)
    (case c1_want_row => first | k_is | rfl | decide +kernel)
    (case k1_want_row => first | k_is | rfl | decide +kernel)
    (case c1_are_columns => first | k_is | rfl | decide +kernel)
    (case k1_are_columns => first | k_is | rfl | decide +kernel)
    (case c1__law_well => first | k_is | rfl | decide +kernel)
    (case k1__law_well => first | k_is | rfl | decide +kernel)
    (case c1__law_draw => first | k_is | rfl | decide +kernel)
    (case k1__law_draw => first | k_is | rfl | decide +kernel)
    (case c1__law_names => first | k_is | rfl | decide +kernel)
    (case k1__law_names => first | k_is | rfl | decide +kernel)
    (case c1__law_base => first | k_is | rfl | decide +kernel)
    (case k1__law_base => first | k_is | rfl | decide +kernel)
    (case c1__law_refused => first | k_is | rfl | decide +kernel)
    (case k1__law_refused => first | k_is | rfl | decide +kernel)
    (case c1__law_odd => first | k_is | rfl | decide +kernel)
    (case k1__law_odd => first | k_is | rfl | decide +kernel)
    (case c1__law_right => first | k_is | rfl | decide +kernel)
    (case th__law_right => kernel_rfl)
    (case k1__law_right => first | k_is | rfl | decide +kernel)
    (case c1_law => first | k_is | rfl | decide +kernel)
    (case k1_law => first | k_is | rfl | decide +kernel)
    (case c1_NoRow_o___init__ => first | k_is | rfl | decide +kernel)
    (case k1_NoRow_o___init__ => first | k_is | rfl | decide +kernel)
    (case c1_Table_o___init__ => first | k_is | rfl | decide +kernel)
    (case k1_Table_o___init__ => first | k_is | rfl | decide +kernel)
    (case i1_Table_o___init__ => first | k_is | rfl | decide +kernel)
    (case c1_Table_o___len__ => first | k_is | rfl | decide +kernel)
    (case k1_Table_o___len__ => first | k_is | rfl | decide +kernel)
    (case i1_Table_o___len__ => first | k_is | rfl | decide +kernel)
    (case c1_Table_o___eq__ => first | k_is | rfl | decide +kernel)
    (case k1_Table_o___eq__ => first | k_is | rfl | decide +kernel)
    (case i1_Table_o___eq__ => first | k_is | rfl | decide +kernel)
    (case c1_Table_o_columns => first | k_is | rfl | decide +kernel)
    (case k1_Table_o_columns => first | k_is | rfl | decide +kernel)
    (case i1_Table_o_columns => first | k_is | rfl | decide +kernel)
    (case c1_Table_o_rows => first | k_is | rfl | decide +kernel)
    (case k1_Table_o_rows => first | k_is | rfl | decide +kernel)
    (case i1_Table_o_rows => first | k_is | rfl | decide +kernel)
    (case c1_Table_o_has => first | k_is | rfl | decide +kernel)
    (case k1_Table_o_has => first | k_is | rfl | decide +kernel)
    (case i1_Table_o_has => first | k_is | rfl | decide +kernel)
    (case c1_Table_o_with_row => first | k_is | rfl | decide +kernel)
    (case k1_Table_o_with_row => first | k_is | rfl | decide +kernel)
    (case i1_Table_o_with_row => first | k_is | rfl | decide +kernel)
    (case c1_Table_o_without_row => first | k_is | rfl | decide +kernel)
    (case k1_Table_o_without_row => first | k_is | rfl | decide +kernel)
    (case i1_Table_o_without_row => first | k_is | rfl | decide +kernel)
    (case sp_FoldError => first | k_is | rfl | decide +kernel)
    (case rd_FoldError => first | k_is | rfl | decide +kernel)
    (case fc_FoldError => first | k_is | rfl | decide +kernel)
    (case eC_NoColumns => first | k_is | rfl | decide +kernel)
    (case tC_NoColumns => first | k_is | rfl | decide +kernel)
    (case kc_NoColumns => first | k_is | rfl | decide +kernel)
    (case xi_NoColumns => k_exc)
    (case eC_NoRow => first | k_is | rfl | decide +kernel)
    (case tC_NoRow => first | k_is | rfl | decide +kernel)
    (case kc_NoRow => first | k_is | rfl | decide +kernel)
    (case xL_NoRow => first | k_is | rfl | decide +kernel)
    (case rv_NoRow => decide +kernel)
    (case sa_NoRow => first | k_is | rfl | decide +kernel)
    (case tI_NoRow => first | k_is | rfl | decide +kernel)
    (case ga_NoRow => first | k_is | rfl | decide +kernel)
    (case gg_NoRow => first | k_is | rfl | decide +kernel)
    (case hd_NoRow => first | k_is | rfl | decide +kernel)
    (case hc_NoRow => first | k_is | rfl | decide +kernel)
    (case hnO => first | k_is | rfl | decide +kernel)
    (case htO => first | k_is | rfl | decide +kernel)
    (case hm_NoRow => first | k_is | rfl | decide +kernel)
    (case pg_Table => first | k_is | rfl | decide +kernel)
    (case hd_Table => first | k_is | rfl | decide +kernel)
    (case po_Table => first | k_is | rfl | decide +kernel)
    (case sa_Table => first | k_is | rfl | decide +kernel)
    (case mk_Table => first | k_is | rfl | decide +kernel)
    (case kc_Table => first | k_is | rfl | decide +kernel)
    (case ex_NoRow_FoldError => first | k_is | rfl | decide +kernel)
    (case ki_NoRow_NoColumns => first | k_is | rfl | decide +kernel)
    (case kt_NoRow_NoRow => first | k_is | rfl | decide +kernel)
    (case kt_Table_Table => first | k_is | rfl | decide +kernel)
    (case na_NoRow_o_at => first | k_is | rfl | decide +kernel)
    (case na_Table_o_held => first | k_is | rfl | decide +kernel)
    (case na_Table_o_named => first | k_is | rfl | decide +kernel)
    (case nf_Table_Table => first | k_is | rfl | decide +kernel)
    (case v_LETTERS => first | k_is | rfl | decide +kernel)
    (case v_LONGEST_NAME => first | k_is | rfl | decide +kernel)
    (case v_MOST_COLUMNS => first | k_is | rfl | decide +kernel)
    (case z_all => first | k_is | rfl | decide +kernel)
    (case z_bool => first | k_is | rfl | decide +kernel)
    (case z_enumerate => first | k_is | rfl | decide +kernel)
    (case z_int => first | k_is | rfl | decide +kernel)
    (case z_isinstance => first | k_is | rfl | decide +kernel)
    (case z_len => first | k_is | rfl | decide +kernel)
    (case z_list => first | k_is | rfl | decide +kernel)
    (case z_range => first | k_is | rfl | decide +kernel)
    (case z_set => first | k_is | rfl | decide +kernel)
    (case z_sorted => first | k_is | rfl | decide +kernel)
    (case z_str => first | k_is | rfl | decide +kernel)
    (case z_tuple => first | k_is | rfl | decide +kernel)
    (case neq_Table => first | k_is | rfl | decide +kernel)
    (case hmO_Table => first | k_is | rfl | decide +kernel)
    (case hc_Table => first | k_is | rfl | decide +kernel)
