import PyProof.Rows.All
import Wide.All
import OpenK.AllK
import Wide.FinOn
import HandS.ForMost
import HandS.ForExc
import HandS.IsInst
import HandS.Wide
import HandS.Flow
import HandS.Deep
import HandS.TupAny
import HandS.TupLen
import HandS.Defaults
import HandS.Head0
import HandS.Head1
import HandS.Head2
import HandS.HeadEnd
import HandS.HeadHook1
import HandS.HeadHook2
import HandS.HeadHook3
import HandS.HeadHook4
import HandS.IntHex
import HandS.ListItems
import HandS.Dict
import HandS.Zip
import HandS.SortInts
import HandS.SortRule
import HandS.Style
import HandS.Strs
import HandS.More
import HandS.SetKeys
import HandS.SortOrd
import HandS.DictTup
import HandS.Iter
import KE.GoesEnum
import KE.BitLaws
import KE.KStateDown
import PySem.Challenge.RW_slowshift_k08_whole_one_answer_on_all_sh
set_option Elab.async false
set_option linter.all false
set_option maxRecDepth 100000
/-! DM: an abstract store of objects over the hand layer: values as plain data, one simulation lemma a construct. -/
namespace DM
open PySem L2
/-- a value: plain data (frozen), or an object of the store -/
inductive Val where
  | pd (d : PyData)
  | obj (h : Nat)
/-- what a box says: of a heap, what is owned by all, its address, what it owns -/
abbrev BoxSem : Type := PySem.W.Frag → (Nat → Addr) → Hp → (Addr → Prop) → Addr → (Addr → Prop) → Prop
/-- it stays when its own cells stay and the frozen things stay -/
def BoxSem.Mono (P : BoxSem) : Prop := ∀ (K : PySem.W.Frag) (cl : Nat → Addr) (H : Hp) (O : Addr → Prop) (H' : Hp) (O' : Addr → Prop) (a : Addr) (fp : Addr → Prop),
  (∀ b o, H b = some o → ¬ O b → H' b = some o ∧ ¬ O' b) → (∀ b, fp b → H' b = H b) → P K cl H O a fp → P K cl H' O' a fp
/-- an object of the store -/
inductive Ob where
  | lst (xs : List PyData)
  | lsv (xs : List Val)
  | dK (kvs : List (Key × PyData))
  | dT (kvs : List (List Key × PyData))
  | dV (kvs : List (Key × Val))
  | ins (c : Nat) (fs : List (Str × Val))
  | lock (o : Ob)
  | scr (xs : List PyData)
  | tpv (xs : List Val)
  | dead
  | box (T : List Ob) (P : BoxSem)
abbrev Store := List Ob
/-- where the objects stand, and the cells that each owns -/
structure Wd where
  ad : Nat → Addr
  fp : Nat → Addr → Prop
  hid : Addr → Prop
def Own (wd : Wd) (n : Nat) (b : Addr) : Prop := wd.hid b ∨ ∃ i, i < n ∧ wd.fp i b
/-- a list that nobody owns; a tuple that nobody owns, or one of the text's own -/
def FzL (K : PySem.W.Frag) (H : Hp) (O : Addr → Prop) (a : Addr) (xs : List V) : Prop := Rd H a (.lst xs) ∧ ¬ O a
/-- the law's script -/
def FzS (K : PySem.W.Frag) (H : Hp) (O : Addr → Prop) (a : Addr) (xs : List V) : Prop := FzL K H O a xs ∨
  ∃ (o : Obj) (its : Array Value) (n : Nat), K.lookup a = some o ∧ o.cls = .type "list" ∧ o.dict = none ∧ o.data = .seq its n ∧ its.size ≤ sizeLine ∧ Vals xs its.toList
def FzT (_K : PySem.W.Frag) (H : Hp) (O : Addr → Prop) (a : Addr) (xs : List V) : Prop := H a = some (.tup xs) ∧ ¬ O a
theorem FzL.sq {K : PySem.W.Frag} {H : Hp} {O : Addr → Prop} {a : Addr} {xs : List V} (h : FzL K H O a xs) : SqL K H a xs := .inl h.1
theorem FzS.sq {K : PySem.W.Frag} {H : Hp} {O : Addr → Prop} {a : Addr} {xs : List V} (h : FzS K H O a xs) : SqL K H a xs := by
  rcases h with h | h
  · exact h.sq
  · exact .inr h
theorem FzT.sq {K : PySem.W.Frag} {H : Hp} {O : Addr → Prop} {a : Addr} {xs : List V} (h : FzT K H O a xs) : SqT K H a xs := .inl (.inl h.1)
theorem FzL.mono {K : PySem.W.Frag} {H H' : Hp} {O O' : Addr → Prop} {a : Addr} {xs : List V} (k : ∀ b o, H b = some o → ¬ O b → H' b = some o ∧ ¬ O' b) (h : FzL K H O a xs) : FzL K H' O' a xs := by
  obtain ⟨h1 | ⟨o, h1⟩, h2⟩ := h
  · exact ⟨.inl (k _ _ h1 h2).1, (k _ _ h1 h2).2⟩
  · exact ⟨.inr ⟨o, (k _ _ h1 h2).1⟩, (k _ _ h1 h2).2⟩
theorem FzS.mono {K : PySem.W.Frag} {H H' : Hp} {O O' : Addr → Prop} {a : Addr} {xs : List V} (k : ∀ b o, H b = some o → ¬ O b → H' b = some o ∧ ¬ O' b) (h : FzS K H O a xs) : FzS K H' O' a xs := by
  rcases h with h | h
  · exact .inl (h.mono k)
  · exact .inr h
theorem FzT.mono {K : PySem.W.Frag} {H H' : Hp} {O O' : Addr → Prop} {a : Addr} {xs : List V} (k : ∀ b o, H b = some o → ¬ O b → H' b = some o ∧ ¬ O' b) (h : FzT K H O a xs) : FzT K H' O' a xs := k _ _ h.1 h.2
mutual
inductive Rp (K : PySem.W.Frag) (H : Hp) (O : Addr → Prop) : V → PyData → Prop
  | non : Rp K H O .non .none
  | bl (b : Bool) : Rp K H O (.bl b) (.bool b)
  | int (i : Int) : Rp K H O (.int i) (.int i)
  | str (x : Str) : Rp K H O (.str x) (.str x)
  | lst {a : Addr} {xs : List V} {ds : List PyData} : FzL K H O a xs → RpAll K H O xs ds → Rp K H O (.ref a) (.list ds)
  | tup {a : Addr} {xs : List V} {ds : List PyData} : FzT K H O a xs → RpAll K H O xs ds → Rp K H O (.ref a) (.tuple ds)
inductive RpAll (K : PySem.W.Frag) (H : Hp) (O : Addr → Prop) : List V → List PyData → Prop
  | nil : RpAll K H O [] []
  | cons {v : V} {vs : List V} {d : PyData} {ds : List PyData} : Rp K H O v d → RpAll K H O vs ds → RpAll K H O (v :: vs) (d :: ds)
end
section
variable {K : PySem.W.Frag} {H H' : Hp} {O O' : Addr → Prop}
mutual
theorem Rp.mono (k : ∀ b o, H b = some o → ¬ O b → H' b = some o ∧ ¬ O' b) : ∀ (d : PyData) (v : V), Rp K H O v d → Rp K H' O' v d
  | .none, _, h => by cases h; exact .non
  | .bool b, _, h => by cases h; exact .bl b
  | .int i, _, h => by cases h; exact .int i
  | .str x, _, h => by cases h; exact .str x
  | .list ds, _, h => by
    cases h with
    | lst h1 h2 => exact .lst (h1.mono k) (RpAll.mono k ds _ h2)
  | .tuple ds, _, h => by
    cases h with
    | tup h1 h2 => exact .tup (h1.mono k) (RpAll.mono k ds _ h2)
  | .dict _, _, h => by cases h
theorem RpAll.mono (k : ∀ b o, H b = some o → ¬ O b → H' b = some o ∧ ¬ O' b) : ∀ (ds : List PyData) (vs : List V), RpAll K H O vs ds → RpAll K H' O' vs ds
  | [], _, h => by cases h; exact .nil
  | d :: ds, _, h => by
    cases h with
    | cons h1 h2 => exact .cons (Rp.mono k d _ h1) (RpAll.mono k ds _ h2)
end
mutual
theorem Rp.dp : ∀ (d : PyData) (v : V), Rp K H O v d → Dp K H v d
  | .none, _, h => by cases h; exact .non
  | .bool b, _, h => by cases h; exact .bl b
  | .int i, _, h => by cases h; exact .int i
  | .str x, _, h => by cases h; exact .str x
  | .list ds, _, h => by
    cases h with
    | lst h1 h2 => exact .lst h1.sq (RpAll.dp ds _ h2)
  | .tuple ds, _, h => by
    cases h with
    | tup h1 h2 => exact .tup h1.sq (RpAll.dp ds _ h2)
  | .dict _, _, h => by cases h
theorem RpAll.dp : ∀ (ds : List PyData) (vs : List V), RpAll K H O vs ds → DpAll K H vs ds
  | [], _, h => by cases h; exact .nil
  | d :: ds, _, h => by
    cases h with
    | cons h1 h2 => exact .cons (Rp.dp d _ h1) (RpAll.dp ds _ h2)
end
theorem RpAll.length : ∀ {ds : List PyData} {vs : List V}, RpAll K H O vs ds → vs.length = ds.length
  | _, _, .nil => rfl
  | _, _, .cons _ t => congrArg (· + 1) (RpAll.length t)
theorem RpAll.get : ∀ {ds : List PyData} {vs : List V} {i : Nat} {d : PyData}, RpAll K H O vs ds → ds[i]? = some d → ∃ v, vs[i]? = some v ∧ Rp K H O v d
  | _, _, _, _, .nil, e => by simp at e
  | _, _, 0, _, .cons r _, e => by simp at e; subst e; exact ⟨_, rfl, r⟩
  | _, _, i + 1, _, .cons _ t, e => by
    obtain ⟨v, h1, h2⟩ := RpAll.get (i := i) t (by simpa using e)
    exact ⟨v, by simpa using h1, h2⟩
theorem RpAll.get' : ∀ {ds : List PyData} {vs : List V} {i : Nat} {v : V}, RpAll K H O vs ds → vs[i]? = some v → ∃ d, ds[i]? = some d ∧ Rp K H O v d
  | _, _, _, _, .nil, e => by simp at e
  | _, _, 0, _, .cons r _, e => by simp at e; subst e; exact ⟨_, rfl, r⟩
  | _, _, i + 1, _, .cons _ t, e => by
    obtain ⟨v, h1, h2⟩ := RpAll.get' (i := i) t (by simpa using e)
    exact ⟨v, by simpa using h1, h2⟩
theorem RpAll.append : ∀ {ds es : List PyData} {vs us : List V}, RpAll K H O vs ds → RpAll K H O us es → RpAll K H O (vs ++ us) (ds ++ es)
  | _, _, _, _, .nil, s => s
  | _, _, _, _, .cons r t, s => .cons r (RpAll.append t s)
theorem RpAll.take : ∀ {ds : List PyData} {vs : List V} (n : Nat), RpAll K H O vs ds → RpAll K H O (vs.take n) (ds.take n)
  | _, _, 0, _ => by simp; exact .nil
  | _, _, _ + 1, .nil => .nil
  | _, _, n + 1, .cons r t => .cons r (RpAll.take n t)
theorem RpAll.drop : ∀ {ds : List PyData} {vs : List V} (n : Nat), RpAll K H O vs ds → RpAll K H O (vs.drop n) (ds.drop n)
  | _, _, 0, r => r
  | _, _, _ + 1, .nil => .nil
  | _, _, n + 1, .cons r t => RpAll.drop n t
theorem RpAll.set : ∀ {ds : List PyData} {vs : List V} (i : Nat) {v : V} {d : PyData}, RpAll K H O vs ds → Rp K H O v d → RpAll K H O (vs.set i v) (ds.set i d)
  | _, _, _, _, _, .nil, _ => .nil
  | _, _, 0, _, _, .cons _ t, r => .cons r t
  | _, _, i + 1, _, _, .cons q t, r => .cons q (RpAll.set i t r)
theorem RpAll.eraseIdx : ∀ {ds : List PyData} {vs : List V} (i : Nat), RpAll K H O vs ds → RpAll K H O (vs.eraseIdx i) (ds.eraseIdx i)
  | _, _, _, .nil => .nil
  | _, _, 0, .cons _ t => t
  | _, _, i + 1, .cons q t => .cons q (RpAll.eraseIdx i t)
theorem RpAll.reverse : ∀ {ds : List PyData} {vs : List V}, RpAll K H O vs ds → RpAll K H O vs.reverse ds.reverse
  | _, _, .nil => .nil
  | _, _, .cons r t => by
    rw [List.reverse_cons, List.reverse_cons]
    exact (RpAll.reverse t).append (.cons r .nil)
end
/-- a value's likeness -/
def RV (K : PySem.W.Frag) (wd : Wd) (n : Nat) (H : Hp) (v : V) : Val → Prop
  | .pd d => Rp K H (Own wd n) v d
  | .obj h => h < n ∧ v = .ref (wd.ad h)
inductive RVs (K : PySem.W.Frag) (wd : Wd) (n : Nat) (H : Hp) : List V → List Val → Prop
  | nil : RVs K wd n H [] []
  | cons {v : V} {vs : List V} {d : Val} {ds : List Val} : RV K wd n H v d → RVs K wd n H vs ds → RVs K wd n H (v :: vs) (d :: ds)
def PKV {κ : Type} (R : V → PyData → Prop) : List (κ × V) → List (κ × PyData) → Prop := Paired fun p q => p.1 = q.1 ∧ R p.2 q.2
def PKW {κ : Type} (R : V → Val → Prop) : List (κ × V) → List (κ × Val) → Prop := Paired fun p q => p.1 = q.1 ∧ R p.2 q.2
/-- an object's likeness: at a, owning fp -/
def OR (K : PySem.W.Frag) (cl : Nat → Addr) (wd : Wd) (n : Nat) (H : Hp) (a : Addr) (fp : Addr → Prop) : Ob → Prop
  | .lst xs => (∀ b, fp b ↔ b = a) ∧ ∃ vs, H a = some (.lst vs) ∧ RpAll K H (Own wd n) vs xs
  | .lsv xs => (∀ b, fp b ↔ b = a) ∧ ∃ vs, H a = some (.lst vs) ∧ RVs K wd n H vs xs
  | .dK kvs => (∀ b, fp b ↔ b = a) ∧ ∃ ks, H a = some (.dK ks) ∧ PKV (Rp K H (Own wd n)) ks kvs
  | .dT kvs => (∀ b, fp b ↔ b = a) ∧ ∃ ks, H a = some (.dT ks) ∧ PKV (Rp K H (Own wd n)) ks kvs
  | .dV kvs => (∀ b, fp b ↔ b = a) ∧ ∃ ks, H a = some (.dK ks) ∧ PKW (RV K wd n H) ks kvs
  | .ins c fs => ∃ dx, (∀ b, fp b ↔ b = a ∨ b = dx) ∧ H dx = some (.own a) ∧ ∃ gs, H a = some (.ins (cl c) dx gs) ∧ PKW (RV K wd n H) gs fs
  | .lock (.lst xs) => (∀ b, fp b ↔ b = a) ∧ ∃ vs, H a = some (.lst vs) ∧ RpAll K H (Own wd n) vs xs
  | .lock (.lsv xs) => (∀ b, fp b ↔ b = a) ∧ ∃ vs, H a = some (.lst vs) ∧ RVs K wd n H vs xs
  | .lock (.dK kvs) => (∀ b, fp b ↔ b = a) ∧ ∃ od ks, H a = some (.frz od (.dK ks)) ∧ PKV (Rp K H (Own wd n)) ks kvs
  | .lock _ => False
  | .scr xs => (∀ b, ¬ fp b) ∧ ∃ vs, FzS K H (Own wd n) a vs ∧ RpAll K H (Own wd n) vs xs
  | .tpv xs => (∀ b, ¬ fp b) ∧ ∃ vs, FzT K H (Own wd n) a vs ∧ RVs K wd n H vs xs
  | .dead => ∀ b, ¬ fp b
  | .box _ P => P.Mono ∧ P K cl H (Own wd n) a fp
structure WR (K : PySem.W.Frag) (cl : Nat → Addr) (wd : Wd) (S : Store) (H : Hp) : Prop where
  ob : ∀ i o, S[i]? = some o → OR K cl wd S.length H (wd.ad i) (wd.fp i) o
  dj : ∀ i j b, i < S.length → j < S.length → wd.fp i b → wd.fp j b → i = j
  lv : ∀ i b, i < S.length → wd.fp i b → ∃ o, H b = some o
  hd : ∀ b, wd.hid b → (∃ o, H b = some o) ∧ ∀ i, i < S.length → ¬ wd.fp i b
structure Ext (wd : Wd) (S : Store) (H : Hp) (wd' : Wd) (S' : Store) (H' : Hp) : Prop where
  len : S.length ≤ S'.length
  ad : ∀ i, i < S.length → wd'.ad i = wd.ad i
  keep : ∀ b o, H b = some o → ¬ Own wd S.length b → H' b = some o ∧ ¬ Own wd' S'.length b
  lock : ∀ i o, S[i]? = some (.lock o) → S'[i]? = some (.lock o) ∧ H' (wd.ad i) = H (wd.ad i)
  hid : ∀ b, wd.hid b → wd'.hid b ∧ H' b = H b
section
variable {K : PySem.W.Frag} {cl : Nat → Addr} {wd wd' wd'' : Wd} {S S' S'' : Store} {H H' H'' : Hp}
theorem Ext.refl : Ext wd S H wd S H := ⟨Nat.le_refl _, fun _ _ => rfl, fun _ _ h n => ⟨h, n⟩, fun _ _ h => ⟨h, rfl⟩, fun _ h => ⟨h, rfl⟩⟩
theorem lt_of_get {α : Type} {xs : List α} {i : Nat} {x : α} (h : xs[i]? = some x) : i < xs.length := by
  rw [List.getElem?_eq_some_iff] at h
  exact h.1
theorem Ext.trans (x : Ext wd S H wd' S' H') (y : Ext wd' S' H' wd'' S'' H'') : Ext wd S H wd'' S'' H'' where
  len := Nat.le_trans x.len y.len
  ad := fun i h => (y.ad i (Nat.lt_of_lt_of_le h x.len)).trans (x.ad i h)
  keep := fun b o h n => by
    obtain ⟨h1, n1⟩ := x.keep b o h n
    exact y.keep b o h1 n1
  lock := fun i o h => by
    obtain ⟨h1, e1⟩ := x.lock i o h
    obtain ⟨h2, e2⟩ := y.lock i o h1
    rw [x.ad i (lt_of_get h)] at e2
    exact ⟨h2, e2.trans e1⟩
  hid := fun b h => by
    obtain ⟨h1, e1⟩ := x.hid b h
    obtain ⟨h2, e2⟩ := y.hid b h1
    exact ⟨h2, e2.trans e1⟩
theorem RV.mono {v : V} {d : Val} (len : S.length ≤ S'.length) (ad : ∀ i, i < S.length → wd'.ad i = wd.ad i) (keep : ∀ b o, H b = some o → ¬ Own wd S.length b → H' b = some o ∧ ¬ Own wd' S'.length b)
    (r : RV K wd S.length H v d) : RV K wd' S'.length H' v d := by
  cases d with
  | pd d => exact Rp.mono keep d v r
  | obj h => exact ⟨Nat.lt_of_lt_of_le r.1 len, by rw [ad h r.1]; exact r.2⟩
theorem RV.ext {v : V} {d : Val} (x : Ext wd S H wd' S' H') (r : RV K wd S.length H v d) : RV K wd' S'.length H' v d := r.mono x.len x.ad x.keep
theorem RVs.ext : ∀ {vs : List V} {ds : List Val}, Ext wd S H wd' S' H' → RVs K wd S.length H vs ds → RVs K wd' S'.length H' vs ds
  | _, _, _, .nil => .nil
  | _, _, x, .cons r t => .cons (r.ext x) (RVs.ext x t)
theorem RVs.length {n : Nat} : ∀ {ds : List Val} {vs : List V}, RVs K wd n H vs ds → vs.length = ds.length
  | _, _, .nil => rfl
  | _, _, .cons _ t => congrArg (· + 1) (RVs.length t)
theorem RVs.get {n : Nat} : ∀ {ds : List Val} {vs : List V} {i : Nat} {d : Val}, RVs K wd n H vs ds → ds[i]? = some d → ∃ v, vs[i]? = some v ∧ RV K wd n H v d
  | _, _, _, _, .nil, e => by simp at e
  | _, _, 0, _, .cons r _, e => by simp at e; subst e; exact ⟨_, rfl, r⟩
  | _, _, i + 1, _, .cons _ t, e => by
    obtain ⟨v, h1, h2⟩ := RVs.get (i := i) t (by simpa using e)
    exact ⟨v, by simpa using h1, h2⟩
theorem RVs.get' {n : Nat} : ∀ {ds : List Val} {vs : List V} {i : Nat} {v : V}, RVs K wd n H vs ds → vs[i]? = some v → ∃ d, ds[i]? = some d ∧ RV K wd n H v d
  | _, _, _, _, .nil, e => by simp at e
  | _, _, 0, _, .cons r _, e => by simp at e; subst e; exact ⟨_, rfl, r⟩
  | _, _, i + 1, _, .cons _ t, e => by
    obtain ⟨v, h1, h2⟩ := RVs.get' (i := i) t (by simpa using e)
    exact ⟨v, by simpa using h1, h2⟩
theorem RVs.set {n : Nat} : ∀ {ds : List Val} {vs : List V} (i : Nat) {v : V} {d : Val}, RVs K wd n H vs ds → RV K wd n H v d → RVs K wd n H (vs.set i v) (ds.set i d)
  | _, _, _, _, _, .nil, _ => .nil
  | _, _, 0, _, _, .cons _ t, r => .cons r t
  | _, _, i + 1, _, _, .cons q t, r => .cons q (RVs.set i t r)
theorem RVs.append {n : Nat} : ∀ {ds es : List Val} {vs us : List V}, RVs K wd n H vs ds → RVs K wd n H us es → RVs K wd n H (vs ++ us) (ds ++ es)
  | _, _, _, _, .nil, s => s
  | _, _, _, _, .cons r t, s => .cons r (RVs.append t s)
/-- all plain -/
theorem RVs.pds {n : Nat} : ∀ {ds : List PyData} {vs : List V}, RVs K wd n H vs (ds.map Val.pd) → RpAll K H (Own wd n) vs ds
  | [], _, h => by cases h; exact .nil
  | d :: ds, _, h => by
    cases h with
    | cons r t => exact .cons r (RVs.pds t)
theorem RpAll.rvs {n : Nat} : ∀ {ds : List PyData} {vs : List V}, RpAll K H (Own wd n) vs ds → RVs K wd n H vs (ds.map Val.pd)
  | [], _, h => by cases h; exact .nil
  | d :: ds, _, h => by
    cases h with
    | cons r t => exact .cons r (RpAll.rvs t)
theorem PKV.mono {κ : Type} {R R' : V → PyData → Prop} (k : ∀ v d, R v d → R' v d) {ks : List (κ × V)} {kvs : List (κ × PyData)} (h : PKV R ks kvs) : PKV R' ks kvs :=
  Paired.mapP h fun _ _ ⟨a, b⟩ => ⟨a, k _ _ b⟩
theorem PKW.mono {κ : Type} {R R' : V → Val → Prop} (k : ∀ v d, R v d → R' v d) {ks : List (κ × V)} {kvs : List (κ × Val)} (h : PKW R ks kvs) : PKW R' ks kvs :=
  Paired.mapP h fun _ _ ⟨a, b⟩ => ⟨a, k _ _ b⟩
/-- an object's likeness stays when its cells stay and the frozen things stay -/
theorem OR.mono {a : Addr} {fp : Addr → Prop} {o : Ob} (len : S.length ≤ S'.length) (ad : ∀ i, i < S.length → wd'.ad i = wd.ad i) (keep : ∀ b o, H b = some o → ¬ Own wd S.length b → H' b = some o ∧ ¬ Own wd' S'.length b)
    (hfp : ∀ b, fp b → H' b = H b) (r : OR K cl wd S.length H a fp o) : OR K cl wd' S'.length H' a fp o := by
  have kR : ∀ v d, Rp K H (Own wd S.length) v d → Rp K H' (Own wd' S'.length) v d := fun v d => Rp.mono keep d v
  have kV : ∀ v d, RV K wd S.length H v d → RV K wd' S'.length H' v d := fun v d h => h.mono len ad keep
  have kVs : ∀ vs ds, RVs K wd S.length H vs ds → RVs K wd' S'.length H' vs ds := fun vs ds h => by
    induction h with
    | nil => exact .nil
    | cons r _ ih => exact .cons (kV _ _ r) ih
  cases o with
  | lst xs => obtain ⟨f, vs, e, q⟩ := r; exact ⟨f, vs, by rw [hfp a ((f a).mpr rfl)]; exact e, RpAll.mono keep _ _ q⟩
  | lsv xs => obtain ⟨f, vs, e, q⟩ := r; exact ⟨f, vs, by rw [hfp a ((f a).mpr rfl)]; exact e, kVs _ _ q⟩
  | dK xs => obtain ⟨f, vs, e, q⟩ := r; exact ⟨f, vs, by rw [hfp a ((f a).mpr rfl)]; exact e, PKV.mono kR q⟩
  | dT xs => obtain ⟨f, vs, e, q⟩ := r; exact ⟨f, vs, by rw [hfp a ((f a).mpr rfl)]; exact e, PKV.mono kR q⟩
  | dV xs => obtain ⟨f, vs, e, q⟩ := r; exact ⟨f, vs, by rw [hfp a ((f a).mpr rfl)]; exact e, PKW.mono kV q⟩
  | ins c fs =>
    obtain ⟨dx, f, e1, gs, e2, q⟩ := r
    exact ⟨dx, f, by rw [hfp dx ((f dx).mpr (.inr rfl))]; exact e1, gs, by rw [hfp a ((f a).mpr (.inl rfl))]; exact e2, PKW.mono kV q⟩
  | lock u =>
    cases u with
    | lst xs => obtain ⟨f, vs, e, q⟩ := r; exact ⟨f, vs, by rw [hfp a ((f a).mpr rfl)]; exact e, RpAll.mono keep _ _ q⟩
    | lsv xs => obtain ⟨f, vs, e, q⟩ := r; exact ⟨f, vs, by rw [hfp a ((f a).mpr rfl)]; exact e, kVs _ _ q⟩
    | dK xs => obtain ⟨f, od, vs, e, q⟩ := r; exact ⟨f, od, vs, by rw [hfp a ((f a).mpr rfl)]; exact e, PKV.mono kR q⟩
    | _ => exact r.elim
  | scr xs => obtain ⟨f, vs, e, q⟩ := r; exact ⟨f, vs, e.mono keep, RpAll.mono keep _ _ q⟩
  | tpv xs => obtain ⟨f, vs, e, q⟩ := r; exact ⟨f, vs, e.mono keep, kVs _ _ q⟩
  | dead => exact r
  | box T P => exact ⟨r.1, r.1 _ _ _ _ _ _ _ _ keep hfp r.2⟩
theorem WR.mono_all (w : WR K cl wd S H) (hk : ∀ b o, H b = some o → H' b = some o) : WR K cl wd S H' where
  ob := fun i o e => OR.mono (Nat.le_refl _) (fun _ _ => rfl) (fun b o h n => ⟨hk b o h, n⟩) (fun b hb => by
    obtain ⟨u, hu⟩ := w.lv i b (lt_of_get e) hb
    rw [hu]; exact hk b u hu) (w.ob i o e)
  dj := w.dj
  lv := fun i b hi hb => by
    obtain ⟨u, hu⟩ := w.lv i b hi hb
    exact ⟨u, hk b u hu⟩
  hd := fun b h => by
    obtain ⟨⟨u, hu⟩, z⟩ := w.hd b h
    exact ⟨⟨u, hk b u hu⟩, z⟩
theorem Ext.all (w : WR K cl wd S H) (hk : ∀ b o, H b = some o → H' b = some o) : Ext wd S H wd S H' :=
  ⟨Nat.le_refl _, fun _ _ => rfl, fun b o h n => ⟨hk b o h, n⟩, fun i o e => ⟨e, by
    have r := w.ob i _ e
    cases o with
    | lst xs => obtain ⟨f, vs, e, q⟩ := r; rw [e]; exact hk _ _ e
    | lsv xs => obtain ⟨f, vs, e, q⟩ := r; rw [e]; exact hk _ _ e
    | dK xs => obtain ⟨f, od, vs, e, q⟩ := r; rw [e]; exact hk _ _ e
    | _ => exact r.elim⟩, fun b h => ⟨h, by
    obtain ⟨⟨u, hu⟩, _⟩ := w.hd b h
    rw [hu]
    exact hk b u hu⟩⟩
/-- a new frozen thing -/
theorem upd_keeps {p : Addr} {o : HO} (hp : H p = none) : ∀ b u, H b = some u → upd H p o b = some u := fun b u e => by
  rw [upd_ne (ne_of_none e hp)]; exact e
theorem WR.fresh (w : WR K cl wd S H) {p : Addr} (hp : H p = none) : ¬ Own wd S.length p := by
  rintro (h | ⟨i, hi, hf⟩)
  · obtain ⟨⟨u, hu⟩, _⟩ := w.hd p h
    rw [hu] at hp; cases hp
  · obtain ⟨u, hu⟩ := w.lv i p hi hf
    rw [hu] at hp; cases hp
/-- a new object of the store -/
def Wd.push (wd : Wd) (n : Nat) (p : Addr) (f : Addr → Prop) : Wd := ⟨fun i => if i = n then p else wd.ad i, fun i => if i = n then f else wd.fp i, wd.hid⟩
theorem push_own {n : Nat} {p : Addr} {f : Addr → Prop} {b : Addr} : Own (wd.push n p f) (n + 1) b ↔ Own wd n b ∨ f b := by
  constructor
  · rintro (h | ⟨i, hi, hf⟩)
    · exact .inl (.inl h)
    by_cases e : i = n
    · subst e
      right
      simpa [Wd.push] using hf
    · left
      exact .inr ⟨i, by omega, by simpa [Wd.push, e] using hf⟩
  · rintro ((h | ⟨i, hi, hf⟩) | hf)
    · exact .inl h
    · have ne : i ≠ n := by omega
      exact .inr ⟨i, by omega, by simpa [Wd.push, ne] using hf⟩
    · exact .inr ⟨n, by omega, by simpa [Wd.push] using hf⟩
theorem WR.push (w : WR K cl wd S H) {o : Ob} {p : Addr} {f : Addr → Prop} (hk : ∀ b u, H b = some u → H' b = some u) (hf : ∀ b, f b → H b = none ∧ ∃ u, H' b = some u)
    (new : OR K cl (wd.push S.length p f) (S.length + 1) H' p f o) : WR K cl (wd.push S.length p f) (S ++ [o]) H' ∧ Ext wd S H (wd.push S.length p f) (S ++ [o]) H' := by
  have len : (S ++ [o]).length = S.length + 1 := by simp
  have ad : ∀ i, i < S.length → (wd.push S.length p f).ad i = wd.ad i := fun i hi => by
    have : i ≠ S.length := by omega
    simp [Wd.push, this]
  have fpo : ∀ i, i < S.length → (wd.push S.length p f).fp i = wd.fp i := fun i hi => by
    have : i ≠ S.length := by omega
    simp [Wd.push, this]
  have fpn : (wd.push S.length p f).fp S.length = f := by simp [Wd.push]
  have adn : (wd.push S.length p f).ad S.length = p := by simp [Wd.push]
  have keep : ∀ b u, H b = some u → ¬ Own wd S.length b → H' b = some u ∧ ¬ Own (wd.push S.length p f) (S ++ [o]).length b := fun b u e n => ⟨hk b u e, by
    rw [len, push_own]
    rintro (h | h)
    · exact n h
    · rw [(hf b h).1] at e; cases e⟩
  have wE : Ext wd S H (wd.push S.length p f) (S ++ [o]) H' := ⟨by omega, ad, keep, fun i u e => ⟨by rw [List.getElem?_append_left (lt_of_get e)]; exact e, ((Ext.all w hk).lock i u e).2⟩, fun b h => ⟨h, ((Ext.all w hk).hid b h).2⟩⟩
  refine ⟨⟨fun i u e => ?_, fun i j b hi hj h1 h2 => ?_, fun i b hi hb => ?_, fun b hb => ?_⟩, wE⟩
  · by_cases hi : i < S.length
    · rw [List.getElem?_append_left hi] at e
      rw [ad i hi, fpo i hi]
      exact OR.mono wE.len ad keep (fun b hb => by
        obtain ⟨v, hv⟩ := w.lv i b hi hb
        rw [hv]; exact hk b v hv) (w.ob i u e)
    · have hi2 : i < (S ++ [o]).length := lt_of_get e
      have : i = S.length := by omega
      subst this
      rw [List.getElem?_append_right (Nat.le_refl _)] at e
      simp at e
      subst e
      rw [adn, fpn, len]
      exact new
  · rw [len] at hi hj
    by_cases ei : i = S.length
    · by_cases ej : j = S.length
      · rw [ei, ej]
      · rw [ei, fpn] at h1
        rw [fpo j (by omega)] at h2
        obtain ⟨u, hu⟩ := w.lv j b (by omega) h2
        rw [(hf b h1).1] at hu; cases hu
    · by_cases ej : j = S.length
      · rw [ej, fpn] at h2
        rw [fpo i (by omega)] at h1
        obtain ⟨u, hu⟩ := w.lv i b (by omega) h1
        rw [(hf b h2).1] at hu; cases hu
      · rw [fpo i (by omega)] at h1
        rw [fpo j (by omega)] at h2
        exact w.dj i j b (by omega) (by omega) h1 h2
  · rw [len] at hi
    by_cases ei : i = S.length
    · rw [ei, fpn] at hb
      exact (hf b hb).2
    · rw [fpo i (by omega)] at hb
      obtain ⟨u, hu⟩ := w.lv i b (by omega) hb
      exact ⟨u, hk b u hu⟩
  · obtain ⟨⟨u, hu⟩, z⟩ := w.hd b hb
    refine ⟨⟨u, hk b u hu⟩, fun i hi q => ?_⟩
    rw [len] at hi
    by_cases ei : i = S.length
    · rw [ei, fpn] at q
      rw [(hf b q).1] at hu; cases hu
    · rw [fpo i (by omega)] at q
      exact z i (by omega) q
/-- an object is changed; it may own new cells -/
def Wd.own (wd : Wd) (h : Nat) (f : Addr → Prop) : Wd := ⟨wd.ad, fun i => if i = h then f else wd.fp i, wd.hid⟩
theorem WR.set (w : WR K cl wd S H) {h : Nat} {o o' : Ob} {f : Addr → Prop} (e : S[h]? = some o) (nl : ∀ u, o ≠ .lock u) (hk : ∀ b, ¬ wd.fp h b → ∀ u, H b = some u → H' b = some u)
    (hf : ∀ b, f b → (wd.fp h b ∨ H b = none) ∧ ∃ u, H' b = some u) (new : OR K cl (wd.own h f) S.length H' (wd.ad h) f o') :
    WR K cl (wd.own h f) (S.set h o') H' ∧ Ext wd S H (wd.own h f) (S.set h o') H' := by
  have hh : h < S.length := lt_of_get e
  have len : (S.set h o').length = S.length := by simp
  have fpo : ∀ i, i ≠ h → (wd.own h f).fp i = wd.fp i := fun i hi => by simp [Wd.own, hi]
  have fpn : (wd.own h f).fp h = f := by simp [Wd.own]
  have keep : ∀ b u, H b = some u → ¬ Own wd S.length b → H' b = some u ∧ ¬ Own (wd.own h f) (S.set h o').length b := fun b u eb n => by
    refine ⟨hk b (fun q => n (.inr ⟨h, hh, q⟩)) u eb, ?_⟩
    rw [len]
    rintro (q | ⟨i, hi, q⟩)
    · exact n (.inl q)
    by_cases ei : i = h
    · subst ei
      rw [fpn] at q
      rcases (hf b q).1 with z | z
      · exact n (.inr ⟨i, hi, z⟩)
      · rw [z] at eb; cases eb
    · rw [fpo i ei] at q
      exact n (.inr ⟨i, hi, q⟩)
  have oth : ∀ i b, i < S.length → i ≠ h → wd.fp i b → H' b = H b := fun i b hi ne hb => by
    obtain ⟨u, hu⟩ := w.lv i b hi hb
    rw [hu]
    exact hk b (fun q => ne (w.dj i h b hi hh hb q)) u hu
  have hh2 : ∀ b, wd.hid b → H' b = H b := fun b hb => by
    obtain ⟨⟨u, hu⟩, z⟩ := w.hd b hb
    rw [hu]
    exact hk b (z h hh) u hu
  refine ⟨⟨fun i u eu => ?_, fun i j b hi hj h1 h2 => ?_, fun i b hi hb => ?_, fun b hb => ?_⟩, ⟨by omega, fun _ _ => rfl, keep, fun i u eu => ?_, fun b h => ⟨h, hh2 b h⟩⟩⟩
  · by_cases ei : i = h
    · subst ei
      rw [List.getElem?_set_self hh] at eu
      cases eu
      rw [fpn, len]
      exact new
    · rw [List.getElem?_set_ne (Ne.symm ei)] at eu
      rw [fpo i ei]
      exact OR.mono (S := S) (wd := wd) (S' := S.set h o') (wd' := wd.own h f) (by omega) (fun _ _ => rfl) keep (fun b hb => oth i b (lt_of_get eu) ei hb) (w.ob i u eu)
  · rw [len] at hi hj
    by_cases ei : i = h
    · by_cases ej : j = h
      · rw [ei, ej]
      · rw [ei, fpn] at h1
        rw [fpo j ej] at h2
        rcases (hf b h1).1 with z | z
        · exact absurd (w.dj j h b hj hh h2 z) ej
        · obtain ⟨u, hu⟩ := w.lv j b hj h2
          rw [z] at hu; cases hu
    · by_cases ej : j = h
      · rw [ej, fpn] at h2
        rw [fpo i ei] at h1
        rcases (hf b h2).1 with z | z
        · exact absurd (w.dj i h b hi hh h1 z) ei
        · obtain ⟨u, hu⟩ := w.lv i b hi h1
          rw [z] at hu; cases hu
      · rw [fpo i ei] at h1
        rw [fpo j ej] at h2
        exact w.dj i j b hi hj h1 h2
  · rw [len] at hi
    by_cases ei : i = h
    · rw [ei, fpn] at hb
      exact (hf b hb).2
    · rw [fpo i ei] at hb
      obtain ⟨u, hu⟩ := w.lv i b hi hb
      exact ⟨u, by rw [oth i b hi ei hb]; exact hu⟩
  · obtain ⟨⟨u, hu⟩, z⟩ := w.hd b hb
    refine ⟨⟨u, by rw [hh2 b hb]; exact hu⟩, fun i hi q => ?_⟩
    rw [len] at hi
    by_cases ei : i = h
    · rw [ei, fpn] at q
      rcases (hf b q).1 with y | y
      · exact z h hh y
      · rw [y] at hu; cases hu
    · rw [fpo i ei] at q
      exact z i hi q
  · have ne : i ≠ h := by
      rintro rfl
      rw [e] at eu
      cases eu
      exact nl u rfl
    refine ⟨by rw [List.getElem?_set_ne (Ne.symm ne)]; exact eu, ?_⟩
    have r := w.ob i _ eu
    refine oth i _ (lt_of_get eu) ne ?_
    cases u with
    | lst xs => obtain ⟨f, _⟩ := r; exact (f _).mpr rfl
    | lsv xs => obtain ⟨f, _⟩ := r; exact (f _).mpr rfl
    | dK xs => obtain ⟨f, _⟩ := r; exact (f _).mpr rfl
    | _ => exact r.elim
end
end DM
set_option Elab.async false
set_option linter.all false
set_option maxRecDepth 100000
namespace DM
open PySem L2
/-! ### the judgements -/
abbrev DEnv := List (Option Val)
abbrev M (α : Type) := Store → Option (α × Store)
inductive Fl where
  | nx (ρ : DEnv) | rt (d : Val) | bk (ρ : DEnv) | ct (ρ : DEnv)
def bindR {α β : Type} (r : Option (α × Store)) (k : α → M β) : Option (β × Store) := match r with
  | none => none
  | some (a, S) => k a S
@[simp] theorem bindR_none {α β : Type} (k : α → M β) : bindR none k = none := rfl
@[simp] theorem bindR_some {α β : Type} (a : α) (S : Store) (k : α → M β) : bindR (some (a, S)) k = k a S := rfl
theorem bindR_inv {α β : Type} {r : Option (α × Store)} {k : α → M β} {y : β × Store} (h : bindR r k = some y) : ∃ a S, r = some (a, S) ∧ k a S = some y := by
  cases r with
  | none => cases h
  | some p => exact ⟨p.1, p.2, rfl, h⟩
structure ER (K : PySem.W.Frag) (wd : Wd) (n : Nat) (H : Hp) (σ : St) (ρ : DEnv) : Prop where
  len : σ.length = ρ.length
  at' : ∀ (i : Nat) (d : Val), ρ[i]? = some (some d) → ∃ v, σ[i]? = some (some v) ∧ RV K wd n H v d
section
variable {K : PySem.W.Frag} {cl : Nat → Addr} {wd wd' : Wd} {S S' : Store} {H H' : Hp} {σ : St} {ρ : DEnv}
theorem ER.ext (x : Ext wd S H wd' S' H') (r : ER K wd S.length H σ ρ) : ER K wd' S'.length H' σ ρ :=
  ⟨r.len, fun i d e => by
    obtain ⟨v, h1, h2⟩ := r.at' i d e
    exact ⟨v, h1, h2.ext x⟩⟩
theorem ER.set {n : Nat} (r : ER K wd n H σ ρ) (i : Nat) {v : V} {d : Val} (q : RV K wd n H v d) : ER K wd n H (σ.set i (some v)) (ρ.set i (some d)) :=
  ⟨by simp [r.len], fun j e h => by
    by_cases ij : i = j
    · subst ij
      have hi : i < ρ.length := by have := lt_of_get h; simpa using this
      rw [List.getElem?_set_self hi] at h
      cases h
      exact ⟨v, by rw [List.getElem?_set_self (by rw [r.len]; exact hi)], q⟩
    · rw [List.getElem?_set_ne ij] at h
      obtain ⟨w, h1, h2⟩ := r.at' j e h
      exact ⟨w, by rw [List.getElem?_set_ne ij]; exact h1, h2⟩⟩
end
section
variable (K : PySem.W.Frag) (cl : Nat → Addr)
def SimE (t : TE) (f : DEnv → M Val) : Prop := ∀ (wd : Wd) (σ : St) (ρ : DEnv) (S : Store) (H : Hp) (Q : VK) (d : Val) (S' : Store), WR K cl wd S H → ER K wd S.length H σ ρ → f ρ S = some (d, S') →
  (∀ wd' v H', WR K cl wd' S' H' → Ext wd S H wd' S' H' → RV K wd' S'.length H' v d → Q v H') → t σ H Q
def SimT (t : TT) (f : DEnv → M Bool) : Prop := ∀ (wd : Wd) (σ : St) (ρ : DEnv) (S : Store) (H : Hp) (Q : Bool → Hp → Prop) (b : Bool) (S' : Store), WR K cl wd S H → ER K wd S.length H σ ρ → f ρ S = some (b, S') →
  (∀ wd' H', WR K cl wd' S' H' → Ext wd S H wd' S' H' → Q b H') → t σ H Q
def SimA (t : TA) (f : DEnv → M (List Val)) : Prop := ∀ (wd : Wd) (σ : St) (ρ : DEnv) (S : Store) (H : Hp) (Q : List V → Hp → Prop) (ds : List Val) (S' : Store), WR K cl wd S H → ER K wd S.length H σ ρ → f ρ S = some (ds, S') →
  (∀ wd' vs H', WR K cl wd' S' H' → Ext wd S H wd' S' H' → RVs K wd' S'.length H' vs ds → Q vs H') → t σ H Q
def EndOk (D : Ends) (wd : Wd) (S : Store) (H : Hp) (S' : Store) : Fl → Prop
  | .nx ρ' => ∀ wd' σ' H', WR K cl wd' S' H' → Ext wd S H wd' S' H' → ER K wd' S'.length H' σ' ρ' → D.nx σ' H'
  | .rt d => ∀ wd' v H', WR K cl wd' S' H' → Ext wd S H wd' S' H' → RV K wd' S'.length H' v d → D.rt v H'
  | .bk ρ' => ∀ wd' σ' H', WR K cl wd' S' H' → Ext wd S H wd' S' H' → ER K wd' S'.length H' σ' ρ' → D.bk σ' H'
  | .ct ρ' => ∀ wd' σ' H', WR K cl wd' S' H' → Ext wd S H wd' S' H' → ER K wd' S'.length H' σ' ρ' → D.ct σ' H'
def SimS (t : TS) (g : DEnv → M Fl) : Prop := ∀ (wd : Wd) (σ : St) (ρ : DEnv) (S : Store) (H : Hp) (D : Ends) (fl : Fl) (S' : Store), WR K cl wd S H → ER K wd S.length H σ ρ → g ρ S = some (fl, S') →
  EndOk K cl D wd S H S' fl → t D σ H
/-- an assignment's target: the value, the environment behind -/
def SimG (t : TG) (g : Val → DEnv → M DEnv) : Prop := ∀ (wd : Wd) (σ : St) (ρ : DEnv) (S : Store) (H : Hp) (v : V) (d : Val) (Q : St → Hp → Prop) (ρ' : DEnv) (S' : Store), WR K cl wd S H → ER K wd S.length H σ ρ → RV K wd S.length H v d → g d ρ S = some (ρ', S') →
  (∀ wd' σ' H', WR K cl wd' S' H' → Ext wd S H wd' S' H' → ER K wd' S'.length H' σ' ρ' → Q σ' H') → t v σ H Q
def SimGs (t : TGs) (g : List Val → DEnv → M DEnv) : Prop := ∀ (wd : Wd) (σ : St) (ρ : DEnv) (S : Store) (H : Hp) (vs : List V) (ds : List Val) (Q : St → Hp → Prop) (ρ' : DEnv) (S' : Store), WR K cl wd S H → ER K wd S.length H σ ρ → RVs K wd S.length H vs ds → g ds ρ S = some (ρ', S') →
  (∀ wd' σ' H', WR K cl wd' S' H' → Ext wd S H wd' S' H' → ER K wd' S'.length H' σ' ρ' → Q σ' H') → t vs σ H Q
/-- an operation on values -/
def SimU (r : V → Hp → VK → Prop) (u : Val → M Val) : Prop := ∀ (wd : Wd) (S : Store) (H : Hp) (x : V) (dx : Val) (Q : VK) (d : Val) (S' : Store), WR K cl wd S H → RV K wd S.length H x dx → u dx S = some (d, S') →
  (∀ wd' v H', WR K cl wd' S' H' → Ext wd S H wd' S' H' → RV K wd' S'.length H' v d → Q v H') → r x H Q
def SimO (r : R2) (u : Val → Val → M Val) : Prop := ∀ (wd : Wd) (S : Store) (H : Hp) (x y : V) (dx dy : Val) (Q : VK) (d : Val) (S' : Store), WR K cl wd S H → RV K wd S.length H x dx → RV K wd S.length H y dy → u dx dy S = some (d, S') →
  (∀ wd' v H', WR K cl wd' S' H' → Ext wd S H wd' S' H' → RV K wd' S'.length H' v d → Q v H') → r x y H Q
def SimC (r : List V → Hp → VK → Prop) (u : List Val → M Val) : Prop := ∀ (wd : Wd) (S : Store) (H : Hp) (xs : List V) (ds : List Val) (Q : VK) (d : Val) (S' : Store), WR K cl wd S H → RVs K wd S.length H xs ds → u ds S = some (d, S') →
  (∀ wd' v H', WR K cl wd' S' H' → Ext wd S H wd' S' H' → RV K wd' S'.length H' v d → Q v H') → r xs H Q
end
def DE (X : Cx) (cl : Nat → Addr) (e : Expr) (f : DEnv → M Val) : Prop := ∃ t, PE X e t ∧ SimE X.K cl t f
def DT (X : Cx) (cl : Nat → Addr) (e : Expr) (f : DEnv → M Bool) : Prop := ∃ t, PT X e t ∧ SimT X.K cl t f
def DW (X : Cx) (cl : Nat → Addr) (e : Expr) (f : DEnv → M Bool) : Prop := ∃ t, PW X e t ∧ SimT X.K cl t f
def DA (X : Cx) (cl : Nat → Addr) (es : List Expr) (f : DEnv → M (List Val)) : Prop := ∃ t, PA X es t ∧ SimA X.K cl t f
def DS (X : Cx) (cl : Nat → Addr) (st : Stmt) (g : DEnv → M Fl) : Prop := ∃ t, PS X st t ∧ SimS X.K cl t g
def DSs (X : Cx) (cl : Nat → Addr) (sts : List Stmt) (g : DEnv → M Fl) : Prop := ∃ t, PSs X sts t ∧ SimS X.K cl t g
def DG (X : Cx) (cl : Nat → Addr) (tg : Expr) (g : Val → DEnv → M DEnv) : Prop := ∃ t, PG X tg t ∧ SimG X.K cl t g
def DGs (X : Cx) (cl : Nat → Addr) (tgs : List Expr) (g : List Val → DEnv → M DEnv) : Prop := ∃ t, PGs X tgs t ∧ SimGs X.K cl t g
/-! ### expressions -/
def eVar (i : Nat) : DEnv → M Val := fun ρ S => match ρ[i]? with
  | some (some d) => some (d, S)
  | _ => none
def eC (d : PyData) : DEnv → M Val := fun _ S => some (.pd d, S)
def eU (u : Val → M Val) (fa : DEnv → M Val) : DEnv → M Val := fun ρ S => bindR (fa ρ S) fun a S1 => u a S1
def eO (u : Val → Val → M Val) (fa fb : DEnv → M Val) : DEnv → M Val := fun ρ S => bindR (fa ρ S) fun a S1 => bindR (fb ρ S1) fun b S2 => u a b S2
def aNil : DEnv → M (List Val) := fun _ S => some ([], S)
def aCons (fa : DEnv → M Val) (fr : DEnv → M (List Val)) : DEnv → M (List Val) := fun ρ S => bindR (fa ρ S) fun a S1 => bindR (fr ρ S1) fun r S2 => some (a :: r, S2)
def eA (u : List Val → M Val) (fa : DEnv → M (List Val)) : DEnv → M Val := fun ρ S => bindR (fa ρ S) fun a S1 => u a S1
/-- a test by a truth -/
def tVal (fa : DEnv → M Val) : DEnv → M Bool := fun ρ S => bindR (fa ρ S) fun a S1 => match a with
  | .pd (.bool b) => some (b, S1)
  | _ => none
def tAnd (fa fb : DEnv → M Bool) : DEnv → M Bool := fun ρ S => bindR (fa ρ S) fun a S1 => if a = true then fb ρ S1 else some (false, S1)
def tOr (fa fb : DEnv → M Bool) : DEnv → M Bool := fun ρ S => bindR (fa ρ S) fun a S1 => if a = true then some (true, S1) else fb ρ S1
def tNot (fa : DEnv → M Bool) : DEnv → M Bool := fun ρ S => bindR (fa ρ S) fun a S1 => some (!a, S1)
def eAnd (fa fb : DEnv → M Val) : DEnv → M Val := fun ρ S => bindR (fa ρ S) fun a S1 => match a with
  | .pd (.bool true) => fb ρ S1
  | .pd (.bool false) => some (.pd (.bool false), S1)
  | _ => none
def eOr (fa fb : DEnv → M Val) : DEnv → M Val := fun ρ S => bindR (fa ρ S) fun a S1 => match a with
  | .pd (.bool true) => some (.pd (.bool true), S1)
  | .pd (.bool false) => fb ρ S1
  | _ => none
def eNot (fa : DEnv → M Val) : DEnv → M Val := fun ρ S => bindR (fa ρ S) fun a S1 => match a with
  | .pd (.bool b) => some (.pd (.bool (!b)), S1)
  | _ => none
def eIf (c : DEnv → M Bool) (fa fb : DEnv → M Val) : DEnv → M Val := fun ρ S => bindR (c ρ S) fun b S1 => if b = true then fa ρ S1 else fb ρ S1
section
variable {X : Cx} {cl : Nat → Addr} {pos : Pos}
theorem de_var (i : Nat) {x : Str} (hN : X.N[i]? = some x := by rfl) (hv : Vis X.env.scope x := by first | exact Or.inl rfl | exact Or.inr (Or.inl rfl) | exact Or.inr (Or.inr rfl)) (hd : (x == ("__debug__" : Str)) = false := by decide)
    (hcd : (x == ("__classdict__" : Str)) = false := by decide) : DE X cl (.Name x pos) (eVar i) := by
  refine ⟨_, pe_var hN hv hd hcd, fun wd σ ρ S H Q d S' w r h k => ?_⟩
  unfold eVar at h
  split at h
  · rename_i d' e
    cases h
    obtain ⟨v, h1, h2⟩ := r.at' i _ e
    exact ⟨v, h1, k wd v H w .refl h2⟩
  · cases h
theorem de_int {i j} : DE X cl (.Constant (.int i) j pos) (eC (.int i)) := ⟨_, pe_int, fun wd σ ρ S H Q d S' w r h k => by cases h; exact k wd _ H w .refl (.int i)⟩
theorem de_bl {b j} : DE X cl (.Constant (.bool b) j pos) (eC (.bool b)) := ⟨_, pe_bl, fun wd σ ρ S H Q d S' w r h k => by cases h; exact k wd _ H w .refl (.bl b)⟩
theorem de_non {j} : DE X cl (.Constant .none j pos) (eC .none) := ⟨_, pe_non, fun wd σ ρ S H Q d S' w r h k => by cases h; exact k wd _ H w .refl .non⟩
theorem de_str {x j} : DE X cl (.Constant (.str x) j pos) (eC (.str x)) := ⟨_, pe_str, fun wd σ ρ S H Q d S' w r h k => by cases h; exact k wd _ H w .refl (.str x)⟩
/-- a module's constant -/
theorem de_globI {x : Str} {i : Int} {t : Tok} (hg : Gl X x) (hm : X.mg x = some (.int i t)) (hd : (x == ("__debug__" : Str)) = false := by decide) : DE X cl (.Name x pos) (eC (.int i)) :=
  ⟨_, pe_glob (v := .int i) hg hm ⟨t, rfl⟩ hd, fun wd σ ρ S H Q d S' w r h k => by cases h; exact k wd _ H w .refl (.int i)⟩
theorem de_globS {x : Str} {i : Str} {t : Tok} (hg : Gl X x) (hm : X.mg x = some (.str i t)) (hd : (x == ("__debug__" : Str)) = false := by decide) : DE X cl (.Name x pos) (eC (.str i)) :=
  ⟨_, pe_glob (v := .str i) hg hm ⟨t, rfl⟩ hd, fun wd σ ρ S H Q d S' w r h k => by cases h; exact k wd _ H w .refl (.str i)⟩
/-- data of the text's own top -/
theorem de_globD {x : Str} {v : V} {u : Value} {d0 : PyData} (hg : Gl X x) (hm : X.mg x = some u) (r : RelV v u) (hr : ∀ H O, Rp X.K H O v d0) (hd : (x == ("__debug__" : Str)) = false := by decide) : DE X cl (.Name x pos) (eC d0) :=
  ⟨_, pe_glob (v := v) hg hm r hd, fun wd σ ρ S H Q d S' w r h k => by cases h; exact k wd _ H w .refl (hr _ _)⟩
variable {a b c : Expr} {fa fb : DEnv → M Val} {es : List Expr} {fs : DEnv → M (List Val)}
theorem sim_o {K : PySem.W.Frag} {r : R2} {u : Val → Val → M Val} {ta tb : TE} (hu : SimO K cl r u) (ha : SimE K cl ta fa) (hb : SimE K cl tb fb) : SimE K cl (tOp r ta tb) (eO u fa fb) := fun wd σ ρ S H Q d S' w q h k => by
  obtain ⟨x, S1, h1, h⟩ := bindR_inv h
  obtain ⟨y, S2, h2, h⟩ := bindR_inv h
  refine ha wd σ ρ S H _ x S1 w q h1 fun wd1 v1 H1 w1 x1 r1 => ?_
  refine hb wd1 σ ρ S1 H1 _ y S2 w1 (q.ext x1) h2 fun wd2 v2 H2 w2 x2 r2 => ?_
  exact hu wd2 S2 H2 v1 v2 x y Q d S' w2 (r1.ext x2) r2 h fun wd3 v3 H3 w3 x3 r3 => k wd3 v3 H3 w3 ((x1.trans x2).trans x3) r3
theorem de_op {op : Operator} {r : R2} {u : Val → Val → M Val} (ho : OpR X (binaryOp op) r) (hu : SimO X.K cl r u) (ha : DE X cl a fa) (hb : DE X cl b fb) : DE X cl (.BinOp a op b pos) (eO u fa fb) := by
  obtain ⟨ta, pa, sa⟩ := ha
  obtain ⟨tb, pb, sb⟩ := hb
  exact ⟨_, pe_op ho pa pb, sim_o hu sa sb⟩
theorem de_cmp {op : CmpOp} {r : R2} {u : Val → Val → M Val} (ho : OpR X (compareOp op) r) (hu : SimO X.K cl r u) (ha : DE X cl a fa) (hb : DE X cl b fb) (hm : behindInMarks op b = false := by first | exact nobehind _ (by decide) (by decide) | rfl) : DE X cl (.Compare a [op] [b] pos) (eO u fa fb) := by
  obtain ⟨ta, pa, sa⟩ := ha
  obtain ⟨tb, pb, sb⟩ := hb
  exact ⟨_, pe_cmpR ho pa pb hm, sim_o hu sa sb⟩
theorem sim_tB {K : PySem.W.Frag} {ta : TE} (ha : SimE K cl ta fa) : SimT K cl (tB ta) (tVal fa) := fun wd σ ρ S H Q d S' w q h k => by
  obtain ⟨x, S1, h1, h⟩ := bindR_inv h
  refine ha wd σ ρ S H _ x S1 w q h1 fun wd1 v1 H1 w1 x1 r1 => ?_
  split at h
  · cases h
    cases r1
    exact ⟨_, rfl, k wd1 H1 w1 x1⟩
  · cases h
theorem dt_val (ha : DE X cl a fa) (he : ∀ whole, isTrue a X.env whole = (do let v ← whole; standAt a.pos; holding [v] (truthy v)) := by intro _; rfl) : DT X cl a (tVal fa) := by
  obtain ⟨ta, pa, sa⟩ := ha
  exact ⟨_, pt_val pa he, sim_tB sa⟩
theorem dt_cmp {op : CmpOp} {r : R2} {u : Val → Val → M Val} (ho : OpR X (compareOp op) r) (hu : SimO X.K cl r u) (ha : DE X cl a fa) (hb : DE X cl b fb) (hm : behindInMarks op b = false := by first | exact nobehind _ (by decide) (by decide) | rfl) : DT X cl (.Compare a [op] [b] pos) (tVal (eO u fa fb)) := by
  obtain ⟨ta, pa, sa⟩ := ha
  obtain ⟨tb, pb, sb⟩ := hb
  exact ⟨_, pt_cmpR ho pa pb hm, sim_tB (sim_o hu sa sb)⟩
/-- a < b < c -/
def eChain (u u' : Val → Val → M Val) (fa fb fc : DEnv → M Val) : DEnv → M Val := fun ρ S => bindR (fa ρ S) fun a S1 => bindR (fb ρ S1) fun b S2 => bindR (u a b S2) fun z S3 => match z with
  | .pd (.bool true) => bindR (fc ρ S3) fun c S4 => u' b c S4
  | .pd (.bool false) => some (.pd (.bool false), S3)
  | _ => none
theorem sim_chain {K : PySem.W.Frag} {r r' : R2} {u u' : Val → Val → M Val} {fc : DEnv → M Val} {ta tb tc : TE} (hu : SimO K cl r u) (hu' : SimO K cl r' u') (ha : SimE K cl ta fa) (hb : SimE K cl tb fb) (hc : SimE K cl tc fc) : SimE K cl (tChain r r' ta tb tc) (eChain u u' fa fb fc) := fun wd σ ρ S H Q d S' w q h k => by
  obtain ⟨x, S1, h1, h⟩ := bindR_inv h
  obtain ⟨y, S2, h2, h⟩ := bindR_inv h
  obtain ⟨z, S3, h3, h⟩ := bindR_inv h
  refine ha wd σ ρ S H _ x S1 w q h1 fun wd1 v1 H1 w1 x1 r1 => ?_
  refine hb wd1 σ ρ S1 H1 _ y S2 w1 (q.ext x1) h2 fun wd2 v2 H2 w2 x2 r2 => ?_
  refine hu wd2 S2 H2 v1 v2 x y _ z S3 w2 (r1.ext x2) r2 h3 fun wd3 v3 H3 w3 x3 r3 => ?_
  split at h
  · cases r3
    refine ⟨true, rfl, iteT ?_⟩
    obtain ⟨t, S4, h4, h⟩ := bindR_inv h
    refine hc wd3 σ ρ S3 H3 _ t S4 w3 (((q.ext x1).ext x2).ext x3) h4 fun wd4 v4 H4 w4 x4 r4 => ?_
    exact hu' wd4 S4 H4 v2 v4 y t Q d S' w4 ((r2.ext x3).ext x4) r4 h fun wd5 v5 H5 w5 x5 r5 => k wd5 v5 H5 w5 ((((x1.trans x2).trans x3).trans x4).trans x5) r5
  · cases r3
    cases h
    exact ⟨false, rfl, iteF (k wd3 _ H3 w3 ((x1.trans x2).trans x3) (.bl false))⟩
  · cases h
theorem de_chain {op op' : CmpOp} {r r' : R2} {u u' : Val → Val → M Val} {fc : DEnv → M Val} (ho : OpR X (compareOp op) r) (hu : SimO X.K cl r u) (ho' : OpR X (compareOp op') r') (hu' : SimO X.K cl r' u') (ha : DE X cl a fa) (hb : DE X cl b fb) (hc : DE X cl c fc)
    (hm : lastMarks [op, op'] [b, c] = false := by with_unfolding_all rfl) : DE X cl (.Compare a [op, op'] [b, c] pos) (eChain u u' fa fb fc) := by
  obtain ⟨ta, pa, sa⟩ := ha
  obtain ⟨tb, pb, sb⟩ := hb
  obtain ⟨tc, pc, sc⟩ := hc
  exact ⟨_, pe_chain ho ho' pa pb pc hm, sim_chain hu hu' sa sb sc⟩
theorem dt_chain {op op' : CmpOp} {r r' : R2} {u u' : Val → Val → M Val} {fc : DEnv → M Val} (ho : OpR X (compareOp op) r) (hu : SimO X.K cl r u) (ho' : OpR X (compareOp op') r') (hu' : SimO X.K cl r' u') (ha : DE X cl a fa) (hb : DE X cl b fb) (hc : DE X cl c fc)
    (hm : lastMarks [op, op'] [b, c] = false := by with_unfolding_all rfl) : DT X cl (.Compare a [op, op'] [b, c] pos) (tVal (eChain u u' fa fb fc)) := by
  obtain ⟨ta, pa, sa⟩ := ha
  obtain ⟨tb, pb, sb⟩ := hb
  obtain ⟨tc, pc, sc⟩ := hc
  exact ⟨_, pt_chain ho ho' pa pb pc hm, sim_tB (sim_chain hu hu' sa sb sc)⟩
/-! and, or, not -/
variable {tx ty : DEnv → M Bool} {rest : List Expr}
theorem DW.dt (h : DW X cl a tx) : DT X cl a tx := by
  obtain ⟨t, p, s⟩ := h
  exact ⟨t, p.pt, s⟩
theorem dw_and1 (ha : DT X cl a tx) : DW X cl (.BoolOp .And [a] pos) tx := by
  obtain ⟨t, p, s⟩ := ha
  exact ⟨t, pw_and1 p, s⟩
theorem dw_or1 (ha : DT X cl a tx) : DW X cl (.BoolOp .Or [a] pos) tx := by
  obtain ⟨t, p, s⟩ := ha
  exact ⟨t, pw_or1 p, s⟩
theorem dw_and (ha : DT X cl a tx) (hb : DW X cl (.BoolOp .And (b :: rest) pos) ty) : DW X cl (.BoolOp .And (a :: b :: rest) pos) (tAnd tx ty) := by
  obtain ⟨t, p, s⟩ := ha
  obtain ⟨t', p', s'⟩ := hb
  refine ⟨_, pw_and p p', fun wd σ ρ S H Q d S' w q h k => ?_⟩
  obtain ⟨x, S1, h1, h⟩ := bindR_inv h
  refine s wd σ ρ S H _ x S1 w q h1 fun wd1 H1 w1 x1 => ?_
  cases x with
  | true => exact iteT (s' wd1 σ ρ S1 H1 Q d S' w1 (q.ext x1) h fun wd2 H2 w2 x2 => k wd2 H2 w2 (x1.trans x2))
  | false =>
    cases h
    exact iteF (k wd1 H1 w1 x1)
theorem dw_or (ha : DT X cl a tx) (hb : DW X cl (.BoolOp .Or (b :: rest) pos) ty) : DW X cl (.BoolOp .Or (a :: b :: rest) pos) (tOr tx ty) := by
  obtain ⟨t, p, s⟩ := ha
  obtain ⟨t', p', s'⟩ := hb
  refine ⟨_, pw_or p p', fun wd σ ρ S H Q d S' w q h k => ?_⟩
  obtain ⟨x, S1, h1, h⟩ := bindR_inv h
  refine s wd σ ρ S H _ x S1 w q h1 fun wd1 H1 w1 x1 => ?_
  cases x with
  | true =>
    cases h
    exact iteT (k wd1 H1 w1 x1)
  | false => exact iteF (s' wd1 σ ρ S1 H1 Q d S' w1 (q.ext x1) h fun wd2 H2 w2 x2 => k wd2 H2 w2 (x1.trans x2))
theorem dt_not (ha : DT X cl a tx) : DT X cl (.UnaryOp .Not a pos) (tNot tx) := by
  obtain ⟨t, p, s⟩ := ha
  refine ⟨_, pt_not p, fun wd σ ρ S H Q d S' w q h k => ?_⟩
  obtain ⟨x, S1, h1, h⟩ := bindR_inv h
  cases h
  exact s wd σ ρ S H _ x _ w q h1 fun wd1 H1 w1 x1 => k wd1 H1 w1 x1
theorem de_one {op} (ha : DE X cl a fa) : DE X cl (.BoolOp op [a] pos) fa := by
  obtain ⟨t, p, s⟩ := ha
  exact ⟨t, pe_one p, s⟩
theorem de_and (ha : DE X cl a fa) (hb : DE X cl (.BoolOp .And (b :: rest) pos) fb) : DE X cl (.BoolOp .And (a :: b :: rest) pos) (eAnd fa fb) := by
  obtain ⟨t, p, s⟩ := ha
  obtain ⟨t', p', s'⟩ := hb
  refine ⟨_, pe_and p p', fun wd σ ρ S H Q d S' w q h k => ?_⟩
  obtain ⟨x, S1, h1, h⟩ := bindR_inv h
  refine s wd σ ρ S H _ x S1 w q h1 fun wd1 v1 H1 w1 x1 r1 => ?_
  split at h
  · cases r1
    exact ⟨true, rfl, iteT (s' wd1 σ ρ S1 H1 Q d S' w1 (q.ext x1) h fun wd2 v2 H2 w2 x2 r2 => k wd2 v2 H2 w2 (x1.trans x2) r2)⟩
  · cases r1
    cases h
    exact ⟨false, rfl, iteF (k wd1 _ H1 w1 x1 (.bl false))⟩
  · cases h
theorem de_or (ha : DE X cl a fa) (hb : DE X cl (.BoolOp .Or (b :: rest) pos) fb) : DE X cl (.BoolOp .Or (a :: b :: rest) pos) (eOr fa fb) := by
  obtain ⟨t, p, s⟩ := ha
  obtain ⟨t', p', s'⟩ := hb
  refine ⟨_, pe_or p p', fun wd σ ρ S H Q d S' w q h k => ?_⟩
  obtain ⟨x, S1, h1, h⟩ := bindR_inv h
  refine s wd σ ρ S H _ x S1 w q h1 fun wd1 v1 H1 w1 x1 r1 => ?_
  split at h
  · cases r1
    cases h
    exact ⟨true, rfl, iteT (k wd1 _ H1 w1 x1 (.bl true))⟩
  · cases r1
    exact ⟨false, rfl, iteF (s' wd1 σ ρ S1 H1 Q d S' w1 (q.ext x1) h fun wd2 v2 H2 w2 x2 r2 => k wd2 v2 H2 w2 (x1.trans x2) r2)⟩
  · cases h
theorem de_not (ha : DE X cl a fa) : DE X cl (.UnaryOp .Not a pos) (eNot fa) := by
  obtain ⟨t, p, s⟩ := ha
  refine ⟨_, pe_not p, fun wd σ ρ S H Q d S' w q h k => ?_⟩
  obtain ⟨x, S1, h1, h⟩ := bindR_inv h
  refine s wd σ ρ S H _ x S1 w q h1 fun wd1 v1 H1 w1 x1 r1 => ?_
  split at h
  · cases r1
    cases h
    exact ⟨_, rfl, k wd1 _ H1 w1 x1 (.bl _)⟩
  · cases h
theorem de_if (hc : DT X cl c tx) (ha : DE X cl a fa) (hb : DE X cl b fb) : DE X cl (.IfExp c a b pos) (eIf tx fa fb) := by
  obtain ⟨tc, pc, sc⟩ := hc
  obtain ⟨ta, pa, sa⟩ := ha
  obtain ⟨tb, pb, sb⟩ := hb
  refine ⟨_, pe_ifExp pc pa pb, fun wd σ ρ S H Q d S' w q h k => ?_⟩
  obtain ⟨x, S1, h1, h⟩ := bindR_inv h
  refine sc wd σ ρ S H _ x S1 w q h1 fun wd1 H1 w1 x1 => ?_
  cases x with
  | true => exact iteT (sa wd1 σ ρ S1 H1 Q d S' w1 (q.ext x1) h fun wd2 v2 H2 w2 x2 r2 => k wd2 v2 H2 w2 (x1.trans x2) r2)
  | false => exact iteF (sb wd1 σ ρ S1 H1 Q d S' w1 (q.ext x1) h fun wd2 v2 H2 w2 x2 r2 => k wd2 v2 H2 w2 (x1.trans x2) r2)
theorem de_un {op : UnaryOp} {r : V → Hp → VK → Prop} {u : Val → M Val} (ho : UnR X (unaryOp op) r) (hu : SimU X.K cl r u) (ha : DE X cl a fa) : DE X cl (.UnaryOp op a pos) (eU u fa) := by
  obtain ⟨ta, pa, sa⟩ := ha
  refine ⟨_, pe_un ho pa, fun wd σ ρ S H Q d S' w q h k => ?_⟩
  obtain ⟨x, S1, h1, h⟩ := bindR_inv h
  refine sa wd σ ρ S H _ x S1 w q h1 fun wd1 v1 H1 w1 x1 r1 => ?_
  exact hu wd1 S1 H1 v1 x Q d S' w1 r1 h fun wd2 v2 H2 w2 x2 r2 => k wd2 v2 H2 w2 (x1.trans x2) r2
/-! arguments -/
theorem da_nil : DA X cl [] aNil := ⟨_, pa_nil, fun wd σ ρ S H Q d S' w q h k => by cases h; exact k wd [] H w .refl .nil⟩
theorem da_cons (ha : DE X cl a fa) (hr : DA X cl es fs) (hs : starEach (a :: es) X.env = (false, eval a X.env) :: starEach es X.env := by rfl) : DA X cl (a :: es) (aCons fa fs) := by
  obtain ⟨ta, pa, sa⟩ := ha
  obtain ⟨tr, pr, sr⟩ := hr
  refine ⟨_, pa_cons pa pr hs, fun wd σ ρ S H Q d S' w q h k => ?_⟩
  obtain ⟨x, S1, h1, h⟩ := bindR_inv h
  obtain ⟨y, S2, h2, h⟩ := bindR_inv h
  cases h
  refine sa wd σ ρ S H _ x S1 w q h1 fun wd1 v1 H1 w1 x1 r1 => ?_
  refine sr wd1 σ ρ S1 H1 _ y _ w1 (q.ext x1) h2 fun wd2 v2 H2 w2 x2 r2 => ?_
  exact k wd2 _ H2 w2 (x1.trans x2) (.cons (r1.ext x2) r2)
theorem sim_a {K : PySem.W.Frag} {r : List V → Hp → VK → Prop} {u : List Val → M Val} {t : TA} (hu : SimC K cl r u) (ha : SimA K cl t fs) : SimE K cl (fun σ H Q => t σ H fun vs H1 => r vs H1 Q) (eA u fs) := fun wd σ ρ S H Q d S' w q h k => by
  obtain ⟨x, S1, h1, h⟩ := bindR_inv h
  refine ha wd σ ρ S H _ x S1 w q h1 fun wd1 v1 H1 w1 x1 r1 => ?_
  exact hu wd1 S1 H1 v1 x Q d S' w1 r1 h fun wd2 v2 H2 w2 x2 r2 => k wd2 v2 H2 w2 (x1.trans x2) r2
end
end DM
set_option Elab.async false
set_option linter.all false
set_option maxRecDepth 100000
namespace DM
open PySem L2
/-! ### statements -/
def gNext : DEnv → M Fl := fun ρ S => some (.nx ρ, S)
def gSeq (g1 g2 : DEnv → M Fl) : DEnv → M Fl := fun ρ S => match g1 ρ S with
  | none => none
  | some (.nx ρ', S') => g2 ρ' S'
  | some (.rt d, S') => some (.rt d, S')
  | some (.bk ρ', S') => some (.bk ρ', S')
  | some (.ct ρ', S') => some (.ct ρ', S')
def gAsg (fe : DEnv → M Val) (gg : Val → DEnv → M DEnv) : DEnv → M Fl := fun ρ S => bindR (fe ρ S) fun d S1 => bindR (gg d ρ S1) fun ρ' S2 => some (.nx ρ', S2)
def gRet (fe : DEnv → M Val) : DEnv → M Fl := fun ρ S => bindR (fe ρ S) fun d S1 => some (.rt d, S1)
def gRetN : DEnv → M Fl := fun _ S => some (.rt (.pd .none), S)
def gIf (c : DEnv → M Bool) (g1 g2 : DEnv → M Fl) : DEnv → M Fl := fun ρ S => bindR (c ρ S) fun b S1 => if b = true then g1 ρ S1 else g2 ρ S1
def gExpr (fe : DEnv → M Val) : DEnv → M Fl := fun ρ S => bindR (fe ρ S) fun _ S1 => some (.nx ρ, S1)
def gNever : DEnv → M Fl := fun _ _ => none
def gBreak : DEnv → M Fl := fun ρ S => some (.bk ρ, S)
def gCont : DEnv → M Fl := fun ρ S => some (.ct ρ, S)
/-- targets -/
def nName (i : Nat) : Val → DEnv → M DEnv := fun d ρ S => some (ρ.set i (some d), S)
def nsNil : List Val → DEnv → M DEnv := fun ds ρ S => match ds with
  | [] => some (ρ, S)
  | _ => none
def nsCons (g : Val → DEnv → M DEnv) (gs : List Val → DEnv → M DEnv) : List Val → DEnv → M DEnv := fun ds ρ S => match ds with
  | [] => none
  | d :: r => bindR (g d ρ S) fun ρ1 S1 => gs r ρ1 S1
def nTup (n : Nat) (gs : List Val → DEnv → M DEnv) : Val → DEnv → M DEnv := fun d ρ S => match d with
  | .pd (.tuple ds) => if ds.length = n then gs (ds.map Val.pd) ρ S else none
  | .obj h => match S[h]? with
    | some (.tpv ds) => if ds.length = n then gs ds ρ S else none
    | _ => none
  | _ => none
section
variable {X : Cx} {cl : Nat → Addr} {pos : Pos} {st : Stmt} {rest : List Stmt} {e : Expr} {fe : DEnv → M Val} {g1 g2 : DEnv → M Fl} {gg : Val → DEnv → M DEnv} {ggs : List Val → DEnv → M DEnv}
theorem EndOk.mono {K : PySem.W.Frag} {D D' : Ends} {wd wd1 : Wd} {S S1 S' : Store} {H H1 : Hp} {fl : Fl} (x : Ext wd S H wd1 S1 H1) (h : EndOk K cl D wd S H S' fl) (h1 : D'.nx = D.nx) (h2 : D'.rt = D.rt) (h3 : D'.bk = D.bk) (h4 : D'.ct = D.ct) : EndOk K cl D' wd1 S1 H1 S' fl := by
  cases fl with
  | nx ρ' => intro wd' σ' H' w y r; rw [h1]; exact h wd' σ' H' w (x.trans y) r
  | rt d => intro wd' v H' w y r; rw [h2]; exact h wd' v H' w (x.trans y) r
  | bk ρ' => intro wd' σ' H' w y r; rw [h3]; exact h wd' σ' H' w (x.trans y) r
  | ct ρ' => intro wd' σ' H' w y r; rw [h4]; exact h wd' σ' H' w (x.trans y) r
theorem ds_nil : DSs X cl [] gNext := ⟨_, pss_nil, fun wd σ ρ S H D fl S' w q h k => by cases h; exact k wd σ H w .refl q⟩
theorem sim_seq {K : PySem.W.Frag} {t u : TS} (h1 : SimS K cl t g1) (h2 : SimS K cl u g2) : SimS K cl (tSeq t u) (gSeq g1 g2) := fun wd σ ρ S H D fl S' w q h k => by
  unfold gSeq at h
  split at h
  · cases h
  · rename_i ρ' S1 e1
    exact h1 wd σ ρ S H _ _ S1 w q e1 fun wd1 σ1 H1 w1 x1 q1 => h2 wd1 σ1 ρ' S1 H1 D fl S' w1 q1 h (k.mono x1 rfl rfl rfl rfl)
  · rename_i d S1 e1
    cases h
    exact h1 wd σ ρ S H _ _ _ w q e1 k
  · rename_i d S1 e1
    cases h
    exact h1 wd σ ρ S H _ _ _ w q e1 k
  · rename_i d S1 e1
    cases h
    exact h1 wd σ ρ S H _ _ _ w q e1 k
theorem ds_cons (h1 : DS X cl st g1) (h2 : DSs X cl rest g2) : DSs X cl (st :: rest) (gSeq g1 g2) := by
  obtain ⟨t, p, s⟩ := h1
  obtain ⟨t', p', s'⟩ := h2
  exact ⟨_, pss_cons p p', sim_seq s s'⟩
theorem ds_one (h1 : DS X cl st g1) : DSs X cl [st] g1 := by
  obtain ⟨t, p, s⟩ := h1
  exact ⟨_, pss_one p, s⟩
theorem ds_never : DS X cl st gNever := ⟨_, ps_never, fun wd σ ρ S H D fl S' w q h k => by cases h⟩
theorem dss_never {sts : List Stmt} : DSs X cl sts gNever := ⟨_, pss_never, fun wd σ ρ S H D fl S' w q h k => by cases h⟩
theorem ds_pass : DS X cl (.Pass pos) gNext := ⟨_, ps_pass, fun wd σ ρ S H D fl S' w q h k => by cases h; exact k wd σ H w .refl q⟩
theorem ds_break : DS X cl (.Break pos) gBreak := ⟨_, ps_break, fun wd σ ρ S H D fl S' w q h k => by cases h; exact k wd σ H w .refl q⟩
theorem ds_cont : DS X cl (.Continue pos) gCont := ⟨_, ps_continue, fun wd σ ρ S H D fl S' w q h k => by cases h; exact k wd σ H w .refl q⟩
theorem ds_ret (he : DE X cl e fe) : DS X cl (.Return (some e) pos) (gRet fe) := by
  obtain ⟨t, p, s⟩ := he
  refine ⟨_, ps_ret p, fun wd σ ρ S H D fl S' w q h k => ?_⟩
  obtain ⟨x, S1, h1, h⟩ := bindR_inv h
  cases h
  exact s wd σ ρ S H _ x _ w q h1 k
theorem ds_retN : DS X cl (.Return none pos) gRetN := ⟨_, ps_retN, fun wd σ ρ S H D fl S' w q h k => by cases h; exact k wd .non H w .refl .non⟩
theorem ds_expr (he : DE X cl e fe) (hs : swapsWith e none pos.line X.env = pure false := by rfl) : DS X cl (.Expr e pos) (gExpr fe) := by
  obtain ⟨t, p, s⟩ := he
  refine ⟨_, ps_expr p hs, fun wd σ ρ S H D fl S' w q h k => ?_⟩
  obtain ⟨x, S1, h1, h⟩ := bindR_inv h
  cases h
  exact s wd σ ρ S H _ x _ w q h1 fun wd1 v1 H1 w1 x1 r1 => k wd1 σ H1 w1 x1 (q.ext x1)
theorem ds_if {c : Expr} {a b : List Stmt} {fc : DEnv → M Bool} (hc : DT X cl c fc) (ha : DSs X cl a g1) (hb : DSs X cl b g2) : DS X cl (.If c a b pos) (gIf fc g1 g2) := by
  obtain ⟨t, p, s⟩ := hc
  obtain ⟨t1, p1, s1⟩ := ha
  obtain ⟨t2, p2, s2⟩ := hb
  refine ⟨_, ps_if p p1 p2, fun wd σ ρ S H D fl S' w q h k => ?_⟩
  obtain ⟨x, S1, h1, h⟩ := bindR_inv h
  refine s wd σ ρ S H _ x S1 w q h1 fun wd1 H1 w1 x1 => ?_
  cases x with
  | true => exact iteT (s1 wd1 σ ρ S1 H1 D fl S' w1 (q.ext x1) h (k.mono x1 rfl rfl rfl rfl))
  | false => exact iteF (s2 wd1 σ ρ S1 H1 D fl S' w1 (q.ext x1) h (k.mono x1 rfl rfl rfl rfl))
/-! targets -/
theorem dg_name (i : Nat) {x : Str} (hN : X.N.Nodup) (hi : X.N[i]? = some x) (hx : Loc X.env.scope x) (hf : X.fn x = true ∨ X.env.scope.names.lookup x = some .local := by first | exact .inl rfl | exact .inr rfl | assumption) : DG X cl (.Name x pos) (nName i) :=
  ⟨_, pg_name hN hi hx hf, fun wd σ ρ S H v d Q ρ' S' w q r h k => by cases h; exact k wd _ H w .refl (q.set i r)⟩
theorem dgs_nil : DGs X cl [] nsNil := ⟨_, pgs_nil, fun wd σ ρ S H vs ds Q ρ' S' w q r h k => by
  cases r with
  | nil => cases h; exact ⟨rfl, k wd σ H w .refl q⟩
  | cons r t => cases h⟩
theorem dgs_cons {tg : Expr} {tgs : List Expr} (h1 : DG X cl tg gg) (h2 : DGs X cl tgs ggs) (hs : (assignEach (tg :: tgs) X.env).map (·.2) = assign tg X.env :: (assignEach tgs X.env).map (·.2) := by rfl) : DGs X cl (tg :: tgs) (nsCons gg ggs) := by
  obtain ⟨t, p, s⟩ := h1
  obtain ⟨t', p', s'⟩ := h2
  refine ⟨_, pgs_cons p p' hs, fun wd σ ρ S H vs ds Q ρ' S' w q r h k => ?_⟩
  cases r with
  | nil => cases h
  | cons r rs =>
    obtain ⟨x, S1, h1, h⟩ := bindR_inv h
    refine ⟨_, _, rfl, s wd σ ρ S H _ _ _ x S1 w q r h1 fun wd1 σ1 H1 w1 x1 q1 => ?_⟩
    exact s' wd1 σ1 x S1 H1 _ _ Q ρ' S' w1 q1 (rs.ext x1) h fun wd2 σ2 H2 w2 x2 q2 => k wd2 σ2 H2 w2 (x1.trans x2) q2
theorem dg_tup {es : List Expr} {kk n : Nat} (hc : X.calm = true) (h : DGs X cl es ggs) (hn : (assignEach es X.env).length = n := by rfl) (hst : (assignEach es X.env).findIdx? (·.1) = none := by rfl) : DG X cl (.Tuple es kk pos) (nTup n ggs) := by
  obtain ⟨t, p, s⟩ := h
  refine ⟨_, pg_tup hc p hn hst, fun wd σ ρ S H v d Q ρ' S' w q r h k => ?_⟩
  unfold nTup at h
  split at h
  · rename_i ds
    split at h
    · rename_i hl
      cases r with
      | tup h1 h2 => exact ⟨_, _, rfl, h1.sq, by rw [h2.length]; exact hl, s wd σ ρ S H _ _ Q ρ' S' w q h2.rvs h k⟩
    · cases h
  · rename_i hh
    obtain ⟨hi, rfl⟩ := r
    split at h
    · rename_i ds e
      split at h
      · rename_i hl
        obtain ⟨_, vs, fz, rv⟩ := w.ob hh _ e
        exact ⟨_, _, rfl, fz.sq, by rw [rv.length]; exact hl, s wd σ ρ S H _ _ Q ρ' S' w q rv h k⟩
      · cases h
    · cases h
  · cases h
theorem ds_asg {tg : Expr} (he : DE X cl e fe) (hg : DG X cl tg gg) (hs : swapsWithSole [tg] e pos.line X.env = pure false := by rfl) (hw : swappedStores [tg] e X.env = pure none := by rfl)
    (h1 : (assignEach [tg] X.env).map (·.2) = [assign tg X.env] := by rfl) : DS X cl (.Assign [tg] e pos) (gAsg fe gg) := by
  obtain ⟨t, p, s⟩ := he
  obtain ⟨t', p', s'⟩ := hg
  refine ⟨_, ps_asg p p' hs hw h1, fun wd σ ρ S H D fl S' w q h k => ?_⟩
  obtain ⟨x, S1, h1, h⟩ := bindR_inv h
  obtain ⟨y, S2, h2, h⟩ := bindR_inv h
  cases h
  refine s wd σ ρ S H _ x S1 w q h1 fun wd1 v1 H1 w1 x1 r1 => ?_
  exact s' wd1 σ ρ S1 H1 v1 x _ y _ w1 (q.ext x1) r1 h2 fun wd2 σ2 H2 w2 x2 q2 => k wd2 σ2 H2 w2 (x1.trans x2) q2
theorem ds_set (i : Nat) {x : Str} {pos' : Pos} (hN : X.N.Nodup) (hi : X.N[i]? = some x) (hx : Loc X.env.scope x) (he : DE X cl e fe) (hs : swapsWith e (some (.Name x pos')) pos.line X.env = pure false := by rfl)
    (hf : X.fn x = true ∨ X.env.scope.names.lookup x = some .local := by first | exact .inl rfl | exact .inr rfl | assumption) : DS X cl (.Assign [.Name x pos'] e pos) (gAsg fe (nName i)) := by
  obtain ⟨t, p, s⟩ := he
  refine ⟨_, ps_set hN hi hx p hs hf, fun wd σ ρ S H D fl S' w q h k => ?_⟩
  obtain ⟨x, S1, h1, h⟩ := bindR_inv h
  cases h
  exact s wd σ ρ S H _ x _ w q h1 fun wd1 v1 H1 w1 x1 r1 => k wd1 _ H1 w1 x1 ((q.ext x1).set i r1)
/-- x op= e -/
def gAug (i : Nat) (u : Val → Val → M Val) (fe : DEnv → M Val) : DEnv → M Fl := fun ρ S => match ρ[i]? with
  | some (some a) => bindR (fe ρ S) fun b S1 => bindR (u a b S1) fun z S2 => some (.nx (ρ.set i (some z)), S2)
  | _ => none
theorem ds_aug (i : Nat) {x : Str} {op : Operator} {ti : TIp} {u : Val → Val → M Val} {pos' : Pos} (hN : X.N.Nodup) (hi : X.N[i]? = some x) (hx : Loc X.env.scope x) (he : DE X cl e fe) (ho : PIp X op ti) (hu : SimO X.K cl ti u)
    (hf : X.fn x = true ∨ X.env.scope.names.lookup x = some .local := by first | exact .inl rfl | exact .inr rfl | assumption) : DS X cl (.AugAssign (.Name x pos') op e pos) (gAug i u fe) := by
  obtain ⟨t, p, s⟩ := he
  refine ⟨_, ps_aug hN hi hx p ho hf, fun wd σ ρ S H D fl S' w q h k => ?_⟩
  unfold gAug at h
  split at h
  · rename_i a ea
    obtain ⟨va, ev, ra⟩ := q.at' _ _ ea
    obtain ⟨y, S1, h1, h⟩ := bindR_inv h
    obtain ⟨z, S2, h2, h⟩ := bindR_inv h
    cases h
    refine ⟨va, ev, s wd σ ρ S H _ y S1 w q h1 fun wd1 v1 H1 w1 x1 r1 => ?_⟩
    exact hu wd1 S1 H1 va v1 a y _ z _ w1 (ra.ext x1) r1 h2 fun wd2 v2 H2 w2 x2 r2 => k wd2 _ H2 w2 (x1.trans x2) (((q.ext x1).ext x2).set i r2)
  · cases h
end
/-! ### loops -/
structure Iter where
  items : List Val
  lk : Option (Nat × Ob)
def Iter.un (it : Iter) (S : Store) : Store := match it.lk with
  | none => S
  | some (h, o) => S.set h o
/-- what an iterator yields, whatever the store becomes -/
def ItOk (K : PySem.W.Frag) (cl : Nat → Addr) (J : It) (items : List Val) (wd : Wd) (S : Store) (H : Hp) : Prop := ∀ wd' S' H', WR K cl wd' S' H' → Ext wd S H wd' S' H' →
  J.stop items.length H' ∧ ∀ i, i < items.length → J.go i H' ∧ ∀ x H'', J.yld i H' x H'' → ∃ d, items[i]? = some d ∧ WR K cl wd' S' H'' ∧ Ext wd' S' H' wd' S' H'' ∧ RV K wd' S'.length H'' x d
/-- the store of a loop: the walked object is locked -/
def LkOk (S S1 : Store) (it : Iter) : Prop := match it.lk with
  | none => S1 = S
  | some (h, o) => S[h]? = some o ∧ (∀ u, o ≠ .lock u) ∧ S1 = S.set h (.lock o)
def SimI (K : PySem.W.Frag) (cl : Nat → Addr) (t : TI) (fi : DEnv → M Iter) : Prop := ∀ (wd : Wd) (σ : St) (ρ : DEnv) (S : Store) (H : Hp) (R : It → Hp → Prop) (it : Iter) (S' : Store), WR K cl wd S H → ER K wd S.length H σ ρ → fi ρ S = some (it, S') →
  (∀ wd' S1 H' J, WR K cl wd' S1 H' → Ext wd S H wd' S1 H' → LkOk S1 S' it → WR K cl wd' S' H' → ItOk K cl J it.items wd' S' H' → R J H') → t σ H R
def DI (X : Cx) (cl : Nat → Addr) (tg iter : Expr) (fi : DEnv → M Iter) : Prop := ∃ t, PI X tg iter t ∧ SimI X.K cl t fi
def loopG (gg : Val → DEnv → M DEnv) (gb : DEnv → M Fl) : List Val → DEnv → M Fl
  | [], ρ, S => some (.nx ρ, S)
  | d :: ds, ρ, S => bindR (gg d ρ S) fun ρ1 S1 => match gb ρ1 S1 with
    | none => none
    | some (.nx ρ2, S2) => loopG gg gb ds ρ2 S2
    | some (.ct ρ2, S2) => loopG gg gb ds ρ2 S2
    | some (.bk ρ2, S2) => some (.nx ρ2, S2)
    | some (.rt d, S2) => some (.rt d, S2)
def gFor (fi : DEnv → M Iter) (gg : Val → DEnv → M DEnv) (gb : DEnv → M Fl) : DEnv → M Fl := fun ρ S => bindR (fi ρ S) fun it S1 => bindR (loopG gg gb it.items ρ S1) fun fl S2 => some (fl, it.un S2)
def loopW (c : DEnv → M Bool) (gb : DEnv → M Fl) : Nat → DEnv → M Fl
  | 0, _, _ => none
  | n + 1, ρ, S => bindR (c ρ S) fun b S1 => if b = true then match gb ρ S1 with
    | none => none
    | some (.nx ρ2, S2) => loopW c gb n ρ2 S2
    | some (.ct ρ2, S2) => loopW c gb n ρ2 S2
    | some (.bk ρ2, S2) => some (.nx ρ2, S2)
    | some (.rt d, S2) => some (.rt d, S2)
    else some (.nx ρ, S1)
section
variable {K : PySem.W.Frag} {cl : Nat → Addr} {wd wd' : Wd} {S S' : Store} {H H' : Hp}
theorem OR.lock_iff {n : Nat} {a : Addr} {fp : Addr → Prop} {o : Ob} (ho : (∃ xs, o = .lst xs) ∨ ∃ xs, o = .lsv xs) : OR K cl wd n H a fp (.lock o) ↔ OR K cl wd n H a fp o := by
  rcases ho with ⟨xs, rfl⟩ | ⟨xs, rfl⟩ <;> exact Iff.rfl
theorem WR.swap (w : WR K cl wd S H) {h : Nat} {o o' : Ob} (e : S[h]? = some o) (k : OR K cl wd S.length H (wd.ad h) (wd.fp h) o → OR K cl wd S.length H (wd.ad h) (wd.fp h) o') : WR K cl wd (S.set h o') H := by
  have hh := lt_of_get e
  have len : (S.set h o').length = S.length := by simp
  refine ⟨fun i u eu => ?_, fun i j b hi hj => w.dj i j b (by omega) (by omega), fun i b hi => w.lv i b (by omega), fun b hb => ⟨(w.hd b hb).1, fun i hi => (w.hd b hb).2 i (by omega)⟩⟩
  rw [len]
  by_cases ei : i = h
  · subst ei
    rw [List.getElem?_set_self hh] at eu
    cases eu
    exact k (w.ob i o e)
  · rw [List.getElem?_set_ne (Ne.symm ei)] at eu
    exact w.ob i u eu
/-- a list is locked -/
theorem WR.lockL (w : WR K cl wd S H) {h : Nat} {o : Ob} (e : S[h]? = some o) (ho : (∃ xs, o = .lst xs) ∨ ∃ xs, o = .lsv xs) : WR K cl wd (S.set h (.lock o)) H ∧ Ext wd S H wd (S.set h (.lock o)) H := by
  refine ⟨w.swap e (OR.lock_iff ho).mpr, ⟨by simp, fun _ _ => rfl, fun b u e n => ⟨e, by simpa using n⟩, fun i u eu => ⟨?_, rfl⟩, fun _ h => ⟨h, rfl⟩⟩⟩
  have ne : h ≠ i := by
    rintro rfl
    rw [e] at eu
    cases eu
    rcases ho with ⟨xs, z⟩ | ⟨xs, z⟩ <;> cases z
  rw [List.getElem?_set_ne ne]
  exact eu
theorem WR.unlock (w : WR K cl wd' S' H') {h : Nat} {o : Ob} (e : S[h]? = some o) (nl : ∀ u, o ≠ .lock u) (x : Ext wd (S.set h (.lock o)) H wd' S' H') (ho : OR K cl wd' S'.length H' (wd'.ad h) (wd'.fp h) (.lock o) → OR K cl wd' S'.length H' (wd'.ad h) (wd'.fp h) o) :
    WR K cl wd' (S'.set h o) H' ∧ Ext wd S H wd' (S'.set h o) H' := by
  have hh := lt_of_get e
  have l0 := x.len
  have e1 : (S.set h (.lock o))[h]? = some (.lock o) := List.getElem?_set_self hh
  obtain ⟨e2, _⟩ := x.lock h o e1
  refine ⟨w.swap e2 ho, ⟨by simp at l0 ⊢; exact l0, fun i hi => x.ad i (by simpa using hi), fun b u eb n => ?_, fun i u eu => ?_, x.hid⟩⟩
  · have := x.keep b u eb (by simpa using n)
    simpa using this
  · have ne : h ≠ i := by
      rintro rfl
      rw [e] at eu
      cases eu
      exact nl u rfl
    have := x.lock i u (by rw [List.getElem?_set_ne ne]; exact eu)
    rw [List.getElem?_set_ne ne]
    exact this
end
section
variable {X : Cx} {cl : Nat → Addr} {pos : Pos} {gg : Val → DEnv → M DEnv} {gb : DEnv → M Fl}
theorem drop_get {α : Type} {xs : List α} {i : Nat} {x : α} (h : xs[i]? = some x) : xs.drop i = x :: xs.drop (i + 1) := by
  have hi := lt_of_get h
  rw [List.drop_eq_getElem_cons hi]
  rw [List.getElem?_eq_getElem hi] at h
  cases h
  rfl
theorem sim_for {K : PySem.W.Frag} {ti : TI} {tg : TG} {tb : TS} {fi : DEnv → M Iter} (hi : SimI K cl ti fi) (hg : SimG K cl tg gg) (hb : SimS K cl tb gb) (hk : ∀ ρ S it S', fi ρ S = some (it, S') → ∀ h o, it.lk = some (h, o) → (∃ xs, o = .lst xs) ∨ ∃ xs, o = .lsv xs) :
    SimS K cl (tFor ti tg tb) (gFor fi gg gb) := fun wd σ ρ S H D fl S' w q h k => by
  obtain ⟨it, S1, h1, h⟩ := bindR_inv h
  obtain ⟨fl', S2, h2, h⟩ := bindR_inv h
  cases h
  have hk1 := hk ρ S it S1 h1
  refine hi wd σ ρ S H _ it S1 w q h1 fun wd1 S0 H1 J w0 x0 lk w1 jo => ?_
  -- behind the loop the object is unlocked
  have un : ∀ {wd2 S2 H2}, WR K cl wd2 S2 H2 → Ext wd1 S1 H1 wd2 S2 H2 → WR K cl wd2 (it.un S2) H2 ∧ Ext wd S H wd2 (it.un S2) H2 := fun {wd2 S2 H2} w2 x2 => by
    unfold LkOk at lk
    unfold Iter.un
    cases hl : it.lk with
    | none =>
      rw [hl] at lk
      dsimp only at lk ⊢
      subst lk
      exact ⟨w2, x0.trans x2⟩
    | some p =>
      obtain ⟨hh, o⟩ := p
      rw [hl] at lk
      dsimp only at lk ⊢
      obtain ⟨l1, l2, rfl⟩ := lk
      obtain ⟨y1, y2⟩ := w2.unlock l1 l2 x2 (OR.lock_iff (hk1 hh o hl)).mp
      exact ⟨y1, x0.trans y2⟩
  have ulen : ∀ S2, (it.un S2).length = S2.length := fun S2 => by
    unfold Iter.un
    cases it.lk <;> simp
  have ern : ∀ {wd2 S2 H2 σ2 ρ2}, ER K wd2 S2.length H2 σ2 ρ2 → ER K wd2 (it.un S2).length H2 σ2 ρ2 := fun {wd2 S2 H2 σ2 ρ2} q => by rw [ulen]; exact q
  have q1 : ER K wd1 S1.length H1 σ ρ := by
    have z := q.ext x0
    have : S1.length = S0.length := by
      unfold LkOk at lk
      split at lk
      · rw [lk]
      · rw [lk.2.2]; simp
    rw [this]
    exact z
  refine ⟨fun i m σ' H' => m = it.items.length - i ∧ i ≤ it.items.length ∧ ∃ wd' S' ρ', WR K cl wd' S' H' ∧ ER K wd' S'.length H' σ' ρ' ∧ Ext wd1 S1 H1 wd' S' H' ∧ loopG gg gb (it.items.drop i) ρ' S' = some (fl, S2), ⟨_, rfl, Nat.zero_le _, wd1, S1, ρ, w1, q1, .refl, by simpa using h2⟩, ?_⟩
  rintro i m σ' H' ⟨rfl, hle, wd', S', ρ', w', q', x', hl⟩
  obtain ⟨jst, jgo⟩ := jo wd' S' H' w' x'
  by_cases hlt : i < it.items.length
  · obtain ⟨go, yl⟩ := jgo i hlt
    refine .inr ⟨go, fun σ3 H3 => ∃ m', m' < it.items.length - i ∧ (m' = it.items.length - (i + 1) ∧ i + 1 ≤ it.items.length ∧ ∃ wd' S' ρ', WR K cl wd' S' H3 ∧ ER K wd' S'.length H3 σ3 ρ' ∧ Ext wd1 S1 H1 wd' S' H3 ∧ loopG gg gb (it.items.drop (i + 1)) ρ' S' = some (fl, S2)), fun σ3 H3 ⟨m', hm, z⟩ => ⟨m', hm, z⟩, fun x H'' y => ?_⟩
    obtain ⟨d, hd, w2, x2, r2⟩ := yl x H'' y
    rw [drop_get hd] at hl
    obtain ⟨ρ3, S3, h3, hl⟩ := bindR_inv hl
    refine hg wd' σ' ρ' S' H'' x d _ ρ3 S3 w2 (q'.ext x2) r2 h3 fun wd3 σ3 H3 w3 x3 q3 => ?_
    split at hl
    · cases hl
    · rename_i ρ4 S4 h4
      refine hb wd3 σ3 ρ3 S3 H3 _ _ S4 w3 q3 h4 fun wd4 σ4 H4 w4 x4 q4 => ⟨_, by omega, rfl, hlt, wd4, S4, ρ4, w4, q4, ((x'.trans x2).trans x3).trans x4, hl⟩
    · rename_i ρ4 S4 h4
      refine hb wd3 σ3 ρ3 S3 H3 _ _ S4 w3 q3 h4 fun wd4 σ4 H4 w4 x4 q4 => ⟨_, by omega, rfl, hlt, wd4, S4, ρ4, w4, q4, ((x'.trans x2).trans x3).trans x4, hl⟩
    · rename_i ρ4 S4 h4
      cases hl
      refine hb wd3 σ3 ρ3 S3 H3 _ _ _ w3 q3 h4 fun wd4 σ4 H4 w4 x4 q4 => ?_
      obtain ⟨y1, y2⟩ := un w4 (((x'.trans x2).trans x3).trans x4)
      exact k wd4 σ4 H4 y1 y2 (ern q4)
    · rename_i d4 S4 h4
      cases hl
      refine hb wd3 σ3 ρ3 S3 H3 _ _ _ w3 q3 h4 fun wd4 v4 H4 w4 x4 r4 => ?_
      obtain ⟨y1, y2⟩ := un w4 (((x'.trans x2).trans x3).trans x4)
      exact k wd4 v4 H4 y1 y2 (by rw [ulen]; exact r4)
  · have e : i = it.items.length := by omega
    subst e
    rw [List.drop_length] at hl
    cases hl
    obtain ⟨y1, y2⟩ := un w' x'
    exact .inl ⟨jst, k wd' σ' H' y1 y2 (ern q')⟩
theorem ds_for {tg iter : Expr} {body : List Stmt} {fi : DEnv → M Iter} (hp : PassesOwn (model X.prog X.w) X.A X.env X.xe) (hc : X.calm = true) (hi : DI X cl tg iter fi) (hg : DG X cl tg gg) (hb : DSs X cl body gb)
    (hk : ∀ ρ S it S', fi ρ S = some (it, S') → ∀ h o, it.lk = some (h, o) → (∃ xs, o = .lst xs) ∨ ∃ xs, o = .lsv xs) (hs : ∀ x, foldedSetIterable iter X.env x = pure x := by intro _; rfl) : DS X cl (.For tg iter body [] pos) (gFor fi gg gb) := by
  obtain ⟨t1, p1, s1⟩ := hi
  obtain ⟨t2, p2, s2⟩ := hg
  obtain ⟨t3, p3, s3⟩ := hb
  exact ⟨_, ps_for hp hc p1 p2 p3 hs, sim_for s1 s2 s3 hk⟩
theorem ds_while (n : Nat) {c : Expr} {body : List Stmt} {fc : DEnv → M Bool} (hp : PassesOwn (model X.prog X.w) X.A X.env X.xe) (hc : DT X cl c fc) (hb : DSs X cl body gb) : DS X cl (.While c body [] pos) (loopW fc gb n) := by
  obtain ⟨t1, p1, s1⟩ := hc
  obtain ⟨t2, p2, s2⟩ := hb
  refine ⟨_, ps_while hp p1 p2, fun wd σ ρ S H D fl S' w q h k => ?_⟩
  refine ⟨fun m σ' H' => ∃ wd' S1 ρ', WR X.K cl wd' S1 H' ∧ ER X.K wd' S1.length H' σ' ρ' ∧ Ext wd S H wd' S1 H' ∧ loopW fc gb m ρ' S1 = some (fl, S'), ⟨n, wd, S, ρ, w, q, .refl, h⟩, ?_⟩
  rintro m σ' H' ⟨wd', S1, ρ', w1, q1, x1, hl⟩
  cases m with
  | zero => cases hl
  | succ m =>
    obtain ⟨b, S2, h2, hl⟩ := bindR_inv hl
    refine s1 wd' σ' ρ' S1 H' _ b S2 w1 q1 h2 fun wd2 H2 w2 x2 => ?_
    cases b with
    | false =>
      cases hl
      exact iteF (k wd2 σ' H2 w2 (x1.trans x2) (q1.ext x2))
    | true =>
      refine iteT ⟨fun σ3 H3 => ∃ m', m' < m + 1 ∧ ∃ wd' S1 ρ', WR X.K cl wd' S1 H3 ∧ ER X.K wd' S1.length H3 σ3 ρ' ∧ Ext wd S H wd' S1 H3 ∧ loopW fc gb m' ρ' S1 = some (fl, S'), fun _ _ z => z, ?_⟩
      rw [if_pos rfl] at hl
      split at hl
      · cases hl
      · rename_i ρ4 S4 h4
        exact s2 wd2 σ' ρ' S2 H2 _ _ S4 w2 (q1.ext x2) h4 fun wd4 σ4 H4 w4 x4 q4 => ⟨m, by omega, wd4, S4, ρ4, w4, q4, (x1.trans x2).trans x4, hl⟩
      · rename_i ρ4 S4 h4
        exact s2 wd2 σ' ρ' S2 H2 _ _ S4 w2 (q1.ext x2) h4 fun wd4 σ4 H4 w4 x4 q4 => ⟨m, by omega, wd4, S4, ρ4, w4, q4, (x1.trans x2).trans x4, hl⟩
      · rename_i ρ4 S4 h4
        cases hl
        exact s2 wd2 σ' ρ' S2 H2 _ _ _ w2 (q1.ext x2) h4 fun wd4 σ4 H4 w4 x4 q4 => k wd4 σ4 H4 w4 ((x1.trans x2).trans x4) q4
      · rename_i d4 S4 h4
        cases hl
        exact s2 wd2 σ' ρ' S2 H2 _ _ _ w2 (q1.ext x2) h4 fun wd4 v4 H4 w4 x4 r4 => k wd4 v4 H4 w4 ((x1.trans x2).trans x4) r4
end
end DM
set_option Elab.async false
set_option linter.all false
set_option maxRecDepth 100000
namespace DM
open PySem L2 PyProof.Rows
/-! ### functions -/
def Val.blw (n : Nat) : Val → Bool
  | .pd _ => true
  | .obj h => decide (h < n)
def Ob.blw (n : Nat) : Ob → Bool
  | .lst _ => true
  | .dK _ => true
  | .dT _ => true
  | .lsv xs => xs.all (Val.blw n)
  | .dV kvs => kvs.all fun p => p.2.blw n
  | .ins _ fs => fs.all fun p => p.2.blw n
  | .lock (.lst _) => true
  | .lock (.dK _) => true
  | .lock (.lsv xs) => xs.all (Val.blw n)
  | .lock _ => true
  | .scr _ => true
  | .tpv xs => xs.all (Val.blw n)
  | .dead => true
  | .box _ _ => true
/-- how a call ends: new objects are forgotten (a new list that is handed back is frozen) -/
def exitF (n : Nat) (d : Val) : M Val := fun S => if S.length = n then some (d, S) else if (S.take n).all (Ob.blw n) = true ∧ n ≤ S.length then match d with
  | .pd d => some (.pd d, S.take n)
  | .obj h => if h < n then some (.obj h, S.take n) else match S[h]? with
    | some (.lst xs) => some (.pd (.list xs), S.take n)
    | _ => none
  else none
instance (o : Ob) : Decidable (∀ u, o ≠ .lock u) := match o with
  | .lock u => .isFalse fun h => h u rfl
  | .lst _ | .lsv _ | .dK _ | .dT _ | .dV _ | .ins _ _ | .scr _ | .tpv _ | .dead | .box _ _ => .isTrue fun u h => nomatch h
/-- .. or the one new object that is handed back is kept -/
def exitN (n : Nat) (d : Val) : M Val := fun S => if (S.take n).all (Ob.blw n) = true ∧ n ≤ S.length then match d with
  | .pd d => some (.pd d, S.take n)
  | .obj h => if h < n then some (.obj h, S.take n) else match S[h]? with
    | some o => if o.blw n = true ∧ (∀ u, o ≠ .lock u) then some (.obj n, S.take n ++ [o]) else none
    | _ => none
  else none
def exitA (_ : Nat) (d : Val) : M Val := fun S => some (d, S)
def startD (n : Nat) (ds : List Val) : DEnv := ds.map some ++ List.replicate (n - ds.length) none
def fnF (n : Nat) (g : DEnv → M Fl) (ex : Nat → Val → M Val) : List Val → M Val := fun ds S => match g (startD n ds) S with
  | some (.nx _, S') => ex S.length (.pd .none) S'
  | some (.rt d, S') => ex S.length d S'
  | _ => none
def SimX (K : PySem.W.Frag) (cl : Nat → Addr) (ex : Nat → Val → M Val) : Prop := ∀ (wd : Wd) (S : Store) (H : Hp) (wd1 : Wd) (S1 : Store) (H1 : Hp) (v : V) (d d' : Val) (S' : Store), WR K cl wd S H → WR K cl wd1 S1 H1 → Ext wd S H wd1 S1 H1 → RV K wd1 S1.length H1 v d → ex S.length d S1 = some (d', S') →
  ∃ wd', WR K cl wd' S' H1 ∧ Ext wd S H wd' S' H1 ∧ RV K wd' S'.length H1 v d'
section
variable {K : PySem.W.Frag} {cl : Nat → Addr} {wd wd1 : Wd} {S S1 : Store} {H H1 : Hp}
theorem own_less {n m : Nat} (h : n ≤ m) {b : Addr} (q : ¬ Own wd m b) : ¬ Own wd n b := by
  rintro (z | ⟨i, hi, hf⟩)
  · exact q (.inl z)
  · exact q (.inr ⟨i, by omega, hf⟩)
theorem RV.less {n m : Nat} (h : n ≤ m) {v : V} {d : Val} (hb : d.blw n = true) (r : RV K wd m H v d) : RV K wd n H v d := by
  cases d with
  | pd d => exact Rp.mono (fun b o e q => ⟨e, own_less h q⟩) d v r
  | obj i => exact ⟨by simpa [Val.blw] using hb, r.2⟩
theorem OR.less {n m : Nat} (h : n ≤ m) {a : Addr} {fp : Addr → Prop} {o : Ob} (hb : o.blw n = true) (r : OR K cl wd m H a fp o) : OR K cl wd n H a fp o := by
  have kR : ∀ v d, Rp K H (Own wd m) v d → Rp K H (Own wd n) v d := fun v d => Rp.mono (fun b o e q => ⟨e, own_less h q⟩) d v
  have kRs : ∀ vs ds, RpAll K H (Own wd m) vs ds → RpAll K H (Own wd n) vs ds := fun vs ds => RpAll.mono (fun b o e q => ⟨e, own_less h q⟩) ds vs
  have kVs : ∀ vs ds, (ds.all (Val.blw n)) = true → RVs K wd m H vs ds → RVs K wd n H vs ds := fun vs ds hb q => by
    induction q with
    | nil => exact .nil
    | cons r _ ih =>
      simp only [List.all_cons, Bool.and_eq_true] at hb
      exact .cons (r.less h hb.1) (ih hb.2)
  have kP : ∀ {κ : Type} (ks : List (κ × V)) (kvs : List (κ × Val)), (kvs.all fun p => p.2.blw n) = true → PKW (RV K wd m H) ks kvs → PKW (RV K wd n H) ks kvs := fun ks kvs hb q => by
    unfold PKW at q ⊢
    induction q with
    | nil => exact .nil
    | cons r _ ih =>
      simp only [List.all_cons, Bool.and_eq_true] at hb
      exact .cons ⟨r.1, r.2.less h hb.1⟩ (ih hb.2)
  cases o with
  | lst xs => obtain ⟨f, vs, e, q⟩ := r; exact ⟨f, vs, e, kRs _ _ q⟩
  | lsv xs => obtain ⟨f, vs, e, q⟩ := r; exact ⟨f, vs, e, kVs _ _ hb q⟩
  | dK xs => obtain ⟨f, vs, e, q⟩ := r; exact ⟨f, vs, e, PKV.mono kR q⟩
  | dT xs => obtain ⟨f, vs, e, q⟩ := r; exact ⟨f, vs, e, PKV.mono kR q⟩
  | dV xs => obtain ⟨f, vs, e, q⟩ := r; exact ⟨f, vs, e, kP _ _ hb q⟩
  | ins c fs => obtain ⟨dx, f, e1, gs, e2, q⟩ := r; exact ⟨dx, f, e1, gs, e2, kP _ _ hb q⟩
  | lock u =>
    cases u with
    | lst xs => obtain ⟨f, vs, e, q⟩ := r; exact ⟨f, vs, e, kRs _ _ q⟩
    | lsv xs => obtain ⟨f, vs, e, q⟩ := r; exact ⟨f, vs, e, kVs _ _ hb q⟩
    | dK xs => obtain ⟨f, od, vs, e, q⟩ := r; exact ⟨f, od, vs, e, PKV.mono kR q⟩
    | _ => exact r.elim
  | scr xs => obtain ⟨f, vs, e, q⟩ := r; exact ⟨f, vs, e.mono (fun b o e z => ⟨e, own_less h z⟩), kRs _ _ q⟩
  | tpv xs => obtain ⟨f, vs, e, q⟩ := r; exact ⟨f, vs, e.mono (fun b o e z => ⟨e, own_less h z⟩), kVs _ _ hb q⟩
  | dead => exact r
  | box T P => exact ⟨r.1, r.1 _ _ _ _ _ _ _ _ (fun b o e q => ⟨e, own_less h q⟩) (fun _ _ => rfl) r.2⟩
theorem WR.take (w : WR K cl wd S H) {n : Nat} (hn : n ≤ S.length) (hb : (S.take n).all (Ob.blw n) = true) : WR K cl wd (S.take n) H := by
  have len : (S.take n).length = n := by simp; omega
  refine ⟨fun i o e => ?_, fun i j b hi hj => w.dj i j b (by omega) (by omega), fun i b hi => w.lv i b (by omega), fun b hb => ⟨(w.hd b hb).1, fun i hi => (w.hd b hb).2 i (by omega)⟩⟩
  have hi : i < n := by have := lt_of_get e; omega
  have e' : S[i]? = some o := by rw [List.getElem?_take_of_lt hi] at e; exact e
  rw [len]
  exact (w.ob i o e').less hn (List.all_eq_true.mp hb o (List.mem_of_getElem? e))
theorem Ext.take (x : Ext wd S H wd1 S1 H1) : Ext wd S H wd1 (S1.take S.length) H1 := by
  have len : (S1.take S.length).length = S.length := by have := x.len; simp; omega
  refine ⟨by omega, x.ad, fun b o e n => ?_, fun i o e => ?_, x.hid⟩
  · obtain ⟨h1, h2⟩ := x.keep b o e n
    exact ⟨h1, by rw [len]; exact own_less x.len h2⟩
  · obtain ⟨h1, h2⟩ := x.lock i o e
    exact ⟨by rw [List.getElem?_take_of_lt (lt_of_get e)]; exact h1, h2⟩
/-- a new list frozen -/
theorem WR.frz (w : WR K cl wd S H) {h n : Nat} {xs : List PyData} (hn : n ≤ h) (e : S[h]? = some (.lst xs)) : Rp K H (Own wd n) (.ref (wd.ad h)) (.list xs) := by
  obtain ⟨f, vs, e1, q⟩ := w.ob h _ e
  have hh := lt_of_get e
  refine .lst ⟨.inl e1, ?_⟩ (RpAll.mono (fun b o e z => ⟨e, own_less (by omega) z⟩) _ _ q)
  rintro (z | ⟨i, hi, hf⟩)
  · exact (w.hd _ z).2 h hh ((f _).mpr rfl)
  · have := w.dj i h _ (by omega) hh hf ((f _).mpr rfl)
    omega
theorem sim_exitF : SimX K cl exitF := fun wd S H wd1 S1 H1 v d d' S' w w1 x r h => by
  have len : (S1.take S.length).length = S.length := by have := x.len; simp; omega
  unfold exitF at h
  split at h
  · rename_i hn
    cases h
    exact ⟨wd1, w1, x, r⟩
  split at h
  · rename_i hb
    obtain ⟨hb, hl⟩ := hb
    split at h
    · rename_i d
      cases h
      exact ⟨wd1, w1.take hl hb, x.take, by rw [len]; exact RV.less x.len rfl r⟩
    · rename_i i
      split at h
      · rename_i hi
        cases h
        exact ⟨wd1, w1.take hl hb, x.take, by rw [len]; exact ⟨hi, r.2⟩⟩
      · rename_i hi
        split at h
        · rename_i xs e
          cases h
          refine ⟨wd1, w1.take hl hb, x.take, ?_⟩
          rw [len]
          obtain ⟨_, rfl⟩ := r
          exact w1.frz (by omega) e
        · cases h
  · cases h
theorem sim_exitA : SimX K cl exitA := fun wd S H wd1 S1 H1 v d d' S' w w1 x r h => by
  cases h
  exact ⟨wd1, w1, x, r⟩
theorem sim_exitN : SimX K cl exitN := fun wd S H wd1 S1 H1 v d d' S' w w1 x r h => by
  have len : (S1.take S.length).length = S.length := by have := x.len; simp; omega
  unfold exitN at h
  split at h
  · rename_i hb
    obtain ⟨hb, hl⟩ := hb
    split at h
    · rename_i d
      cases h
      exact ⟨wd1, w1.take hl hb, x.take, by rw [len]; exact RV.less x.len rfl r⟩
    · rename_i i
      split at h
      · rename_i hi
        cases h
        exact ⟨wd1, w1.take hl hb, x.take, by rw [len]; exact ⟨hi, r.2⟩⟩
      · rename_i hi
        split at h
        · rename_i o e
          split at h
          · rename_i ho
            obtain ⟨ho, hnl⟩ := ho
            cases h
            obtain ⟨_, rfl⟩ := r
            have hS1 := lt_of_get e
            -- index S.length stands for i
            have len' : (S1.take S.length ++ [o]).length = S.length + 1 := by rw [List.length_append, len]; rfl
            have adn : (wd1.push S.length (wd1.ad i) (wd1.fp i)).ad S.length = wd1.ad i := by simp [Wd.push]
            have fpn : (wd1.push S.length (wd1.ad i) (wd1.fp i)).fp S.length = wd1.fp i := by simp [Wd.push]
            have ado : ∀ j, j < S.length → (wd1.push S.length (wd1.ad i) (wd1.fp i)).ad j = wd1.ad j := fun j hj => by
              have : j ≠ S.length := by omega
              simp [Wd.push, this]
            have fpo : ∀ j, j < S.length → (wd1.push S.length (wd1.ad i) (wd1.fp i)).fp j = wd1.fp j := fun j hj => by
              have : j ≠ S.length := by omega
              simp [Wd.push, this]
            have own : ∀ b, ¬ Own wd1 S1.length b → ¬ Own (wd1.push S.length (wd1.ad i) (wd1.fp i)) (S.length + 1) b := fun b q => by
              rw [push_own]
              rintro (z | z)
              · exact own_less x.len q z
              · exact q (.inr ⟨i, hS1, z⟩)
            have wt := w1.take hl hb
            have keep : ∀ b u, H1 b = some u → ¬ Own wd1 S.length b ∧ ¬ wd1.fp i b → H1 b = some u ∧ ¬ Own (wd1.push S.length (wd1.ad i) (wd1.fp i)) (S.length + 1) b := fun b u e n => ⟨e, by
              rw [push_own]
              rintro (z | z)
              · exact n.1 z
              · exact n.2 z⟩
            -- likeness over the new world
            have conv : ∀ {a : Addr} {fp : Addr → Prop} {u : Ob}, u.blw S.length = true → OR K cl wd1 S1.length H1 a fp u → OR K cl (wd1.push S.length (wd1.ad i) (wd1.fp i)) (S.length + 1) H1 a fp u := fun {a fp u} hu ru => by
              have kR : ∀ v d, Rp K H1 (Own wd1 S1.length) v d → Rp K H1 (Own (wd1.push S.length (wd1.ad i) (wd1.fp i)) (S.length + 1)) v d := fun v d => Rp.mono (fun b o e q => ⟨e, own b q⟩) d v
              have kRs : ∀ vs ds, RpAll K H1 (Own wd1 S1.length) vs ds → RpAll K H1 (Own (wd1.push S.length (wd1.ad i) (wd1.fp i)) (S.length + 1)) vs ds := fun vs ds => RpAll.mono (fun b o e q => ⟨e, own b q⟩) ds vs
              have kV : ∀ v d, d.blw S.length = true → RV K wd1 S1.length H1 v d → RV K (wd1.push S.length (wd1.ad i) (wd1.fp i)) (S.length + 1) H1 v d := fun v d hd rd => by
                cases d with
                | pd d => exact kR v d rd
                | obj j =>
                  have hj : j < S.length := by simpa [Val.blw] using hd
                  exact ⟨by omega, by rw [ado j hj]; exact rd.2⟩
              have kVs : ∀ vs ds, (ds.all (Val.blw S.length)) = true → RVs K wd1 S1.length H1 vs ds → RVs K (wd1.push S.length (wd1.ad i) (wd1.fp i)) (S.length + 1) H1 vs ds := fun vs ds hb q => by
                induction q with
                | nil => exact .nil
                | cons r _ ih =>
                  simp only [List.all_cons, Bool.and_eq_true] at hb
                  exact .cons (kV _ _ hb.1 r) (ih hb.2)
              have kP : ∀ {κ : Type} (ks : List (κ × V)) (kvs : List (κ × Val)), (kvs.all fun p => p.2.blw S.length) = true → PKW (RV K wd1 S1.length H1) ks kvs → PKW (RV K (wd1.push S.length (wd1.ad i) (wd1.fp i)) (S.length + 1) H1) ks kvs := fun ks kvs hb q => by
                unfold PKW at q ⊢
                induction q with
                | nil => exact .nil
                | cons r _ ih =>
                  simp only [List.all_cons, Bool.and_eq_true] at hb
                  exact .cons ⟨r.1, kV _ _ hb.1 r.2⟩ (ih hb.2)
              cases u with
              | lst xs => obtain ⟨f, vs, e, q⟩ := ru; exact ⟨f, vs, e, kRs _ _ q⟩
              | lsv xs => obtain ⟨f, vs, e, q⟩ := ru; exact ⟨f, vs, e, kVs _ _ hu q⟩
              | dK xs => obtain ⟨f, vs, e, q⟩ := ru; exact ⟨f, vs, e, PKV.mono kR q⟩
              | dT xs => obtain ⟨f, vs, e, q⟩ := ru; exact ⟨f, vs, e, PKV.mono kR q⟩
              | dV xs => obtain ⟨f, vs, e, q⟩ := ru; exact ⟨f, vs, e, kP _ _ hu q⟩
              | ins c fs => obtain ⟨dx, f, e1, gs, e2, q⟩ := ru; exact ⟨dx, f, e1, gs, e2, kP _ _ hu q⟩
              | lock u =>
                cases u with
                | lst xs => obtain ⟨f, vs, e, q⟩ := ru; exact ⟨f, vs, e, kRs _ _ q⟩
                | lsv xs => obtain ⟨f, vs, e, q⟩ := ru; exact ⟨f, vs, e, kVs _ _ hu q⟩
                | dK xs => obtain ⟨f, od, vs, e, q⟩ := ru; exact ⟨f, od, vs, e, PKV.mono kR q⟩
                | _ => exact ru.elim
              | scr xs => obtain ⟨f, vs, e, q⟩ := ru; exact ⟨f, vs, e.mono (fun b o e z => ⟨e, own b z⟩), kRs _ _ q⟩
              | tpv xs => obtain ⟨f, vs, e, q⟩ := ru; exact ⟨f, vs, e.mono (fun b o e z => ⟨e, own b z⟩), kVs _ _ hu q⟩
              | dead => exact ru
              | box T P => exact ⟨ru.1, ru.1 _ _ _ _ _ _ _ _ (fun b o e q => ⟨e, own b q⟩) (fun _ _ => rfl) ru.2⟩
            refine ⟨wd1.push S.length (wd1.ad i) (wd1.fp i), ⟨fun j u eu => ?_, fun j l b hj hl' h1 h2 => ?_, fun j b hj hf => ?_, fun b hb => ⟨(w1.hd b hb).1, fun j hj hf => ?_⟩⟩, ⟨by omega, fun j hj => (ado j hj).trans (x.ad j hj), fun b u eb n => ?_, fun j u eu => ?_, x.hid⟩, by rw [len']; exact ⟨by omega, by rw [adn]⟩⟩
            · rw [len']
              by_cases hj : j < S.length
              · rw [List.getElem?_append_left (by omega)] at eu
                rw [ado j hj, fpo j hj]
                have e2 : S1[j]? = some u := by rw [List.getElem?_take_of_lt hj] at eu; exact eu
                exact conv (List.all_eq_true.mp hb u (List.mem_of_getElem? eu)) (w1.ob j u e2)
              · have hj2 := lt_of_get eu
                have : j = S.length := by omega
                subst this
                rw [List.getElem?_append_right (by omega), len] at eu
                simp at eu
                subst eu
                rw [adn, fpn]
                exact conv ho (w1.ob i o e)
            · rw [len'] at hj hl'
              by_cases ej : j = S.length
              · by_cases el : l = S.length
                · rw [ej, el]
                · rw [ej, fpn] at h1
                  rw [fpo l (by omega)] at h2
                  have := w1.dj i l b hS1 (by omega) h1 h2
                  omega
              · by_cases el : l = S.length
                · rw [el, fpn] at h2
                  rw [fpo j (by omega)] at h1
                  have := w1.dj i j b hS1 (by omega) h2 h1
                  omega
                · rw [fpo j (by omega)] at h1
                  rw [fpo l (by omega)] at h2
                  exact w1.dj j l b (by omega) (by omega) h1 h2
            · rw [len'] at hj
              by_cases ej : j = S.length
              · rw [ej, fpn] at hf
                exact w1.lv i b hS1 hf
              · rw [fpo j (by omega)] at hf
                exact w1.lv j b (by omega) hf
            · rw [len'] at hj
              by_cases ej : j = S.length
              · rw [ej, fpn] at hf
                exact (w1.hd b hb).2 i hS1 hf
              · rw [fpo j (by omega)] at hf
                exact (w1.hd b hb).2 j (by omega) hf
            · obtain ⟨h1, h2⟩ := x.keep b u eb n
              exact ⟨h1, by rw [len']; exact own b h2⟩
            · obtain ⟨h1, h2⟩ := x.lock j u eu
              have hj := lt_of_get eu
              exact ⟨by rw [List.getElem?_append_left (by omega), List.getElem?_take_of_lt hj]; exact h1, h2⟩
          · cases h
        · cases h
  · cases h
end
/-! a def's promise -/
def spOf (K : PySem.W.Frag) (cl : Nat → Addr) (n : Nat) (F : List Val → M Val) : Sp := fun vs H Q _ => ∃ wd S ds d S', WR K cl wd S H ∧ RVs K wd S.length H vs ds ∧ ds.length = n ∧ F ds S = some (d, S') ∧
  ∀ wd' v H', WR K cl wd' S' H' → Ext wd S H wd' S' H' → RV K wd' S'.length H' v d → Q v H'
section
variable {P : Program} {w : World} {K : PySem.W.Frag} {mg : Str → Option Value} {base : Heap} {cl : Nat → Addr}
/-- THE RULE for a def -/
theorem fn_ok {x qual : Str} {st : Stmt} {f : Addr} {fd : FuncData} {N ps : List Str} {k : Nat} {g : DEnv → M Fl} {ex : Nat → Val → M Val} (F : Fun K x qual st f fd) (Sc : FnScope N ps (defScope st)) (hx : SimX K cl ex)
    (body : ∀ (cdv : Value) (A : Around) (outer : List Env) (s : Shared) (H : Hp) (E : XK), Room k (A.deeper (envOfC qual (defScope st) s.heap.objs.size f cdv)) → DSs (cxOf CX0 P w K mg base N qual (defScope st) f cdv A outer s H E).nox cl (defBody st) g) :
    FnOk P w K mg base CX0 (k + 1) f fd ps (spOf K cl ps.length (fnF N.length g ex)) := by
  refine F.ok Sc (fun vs H Q E h => ?_) fun cdv A outer s H vs Q E hr h => ?_
  · obtain ⟨wd, S, ds, d, S', _, r, l, _⟩ := h
    rw [r.length]; exact l
  · obtain ⟨wd, S, ds, d, S', w0, r, l, hF, kq⟩ := h
    obtain ⟨t, p, s⟩ := body cdv A outer s H E hr
    refine ⟨t, p, ?_⟩
    have er : ER K wd S.length H (L2.start N vs) (startD N.length ds) := by
      refine ⟨by simp [L2.start, startD, r.length], fun i d e => ?_⟩
      unfold startD at e
      by_cases hi : i < ds.length
      · rw [List.getElem?_append_left (by simpa using hi), List.getElem?_map] at e
        cases hd : ds[i]? with
        | none => rw [hd] at e; cases e
        | some d' =>
          rw [hd] at e
          cases e
          obtain ⟨v, h1, h2⟩ := r.get hd
          refine ⟨v, ?_, h2⟩
          unfold L2.start
          rw [List.getElem?_append_left (by simpa using lt_of_get h1), List.getElem?_map, h1]
          rfl
      · rw [List.getElem?_append_right (by simpa using hi), List.getElem?_replicate] at e
        split at e <;> cases e
    unfold fnF at hF
    split at hF
    · rename_i ρ' S1 e1
      refine s wd _ _ S H _ _ S1 w0 er e1 fun wd1 σ1 H1 w1 x1 q1 => ?_
      obtain ⟨wd2, w2, x2, r2⟩ := hx wd S H wd1 S1 H1 .non (.pd .none) d S' w0 w1 x1 .non hF
      exact kq wd2 .non H1 w2 x2 r2
    · rename_i d1 S1 e1
      refine s wd _ _ S H _ _ S1 w0 er e1 fun wd1 v1 H1 w1 x1 r1 => ?_
      obtain ⟨wd2, w2, x2, r2⟩ := hx wd S H wd1 S1 H1 v1 d1 d S' w0 w1 x1 r1 hF
      exact kq wd2 v1 H1 w2 x2 r2
    · cases hF
end
/-- a def that may be called by its name -/
def CalD (P : Program) (w : World) (K : PySem.W.Frag) (mg : Str → Option Value) (base : Heap) (cl : Nat → Addr) (k : Nat) (x : Str) (n : Nat) (F : List Val → M Val) : Prop :=
  ∃ (f : Addr) (fd : FuncData) (ps : List Str), ps.length = n ∧ FnOk P w K mg base CX0 k f fd ps (spOf K cl ps.length F) ∧ mg x = some (.ref f) ∧ PySem.W.keepIn K (.ref f) = true ∧ Binds K fd ps []
/-- a method of a class; how a class is made -/
def MetD (P : Program) (w : World) (K : PySem.W.Frag) (mg : Str → Option Value) (base : Heap) (cl : Nat → Addr) (k c : Nat) (m : Str) (n : Nat) (F : List Val → M Val) : Prop :=
  ∃ (f : Addr) (fd : FuncData) (ps : List Str), ps.length = n ∧ FnOk P w K mg base CX0 k f fd ps (spOf K cl ps.length F) ∧ Cls K (cl c) ∧ Meth K (cl c) m f ∧ Binds K fd ps []
def MakD (P : Program) (w : World) (K : PySem.W.Frag) (mg : Str → Option Value) (base : Heap) (cl : Nat → Addr) (k c : Nat) (x : Str) (n : Nat) (F : List Val → M Val) : Prop :=
  ∃ (f : Addr) (fd : FuncData) (ps : List Str), ps.length = n ∧ FnOk P w K mg base CX0 k f fd ps (spOf K cl ps.length F) ∧ Mk K (cl c) f ∧ mg x = some (.ref (cl c)) ∧ Binds K fd ps []
def eCall (F : List Val → M Val) (n : Nat) (fa : DEnv → M (List Val)) : DEnv → M Val := fun ρ S => bindR (fa ρ S) fun ds S1 => if ds.length = n then F ds S1 else none
def eMeth (c : Nat) (m : Str) (F : List Val → M Val) (n : Nat) (fo : DEnv → M Val) (fa : DEnv → M (List Val)) : DEnv → M Val := fun ρ S => bindR (fo ρ S) fun o S1 => match o with
  | .obj h => match S1[h]? with
    | some (.ins c' fs) => if c' = c ∧ fs.lookup m = none then bindR (fa ρ S1) fun ds S2 => if ds.length + 1 = n then F (.obj h :: ds) S2 else none else none
    | _ => none
  | _ => none
def eMake (c : Nat) (F : List Val → M Val) (n : Nat) (fa : DEnv → M (List Val)) : DEnv → M Val := fun ρ S => bindR (fa ρ S) fun ds S1 => if ds.length + 1 = n then
  bindR (F (.obj S1.length :: ds) (S1 ++ [.ins c []])) fun r S2 => match r with
    | .pd .none => some (.obj S1.length, S2)
    | _ => none
  else none
theorem RV.none_inv {K : PySem.W.Frag} {wd : Wd} {n : Nat} {H : Hp} {v : V} (r : RV K wd n H v (.pd .none)) : v = .non := by cases r; rfl
section
variable {X : Cx} {cl : Nat → Addr} {pos : Pos} {k n : Nat} {x m : Str} {p apos : Pos} {e o : Expr} {es : List Expr} {F : List Val → M Val} {fo : DEnv → M Val} {fa : DEnv → M (List Val)}
theorem PKW.lookup {R : V → Val → Prop} {f : Str} : ∀ {gs : List (Str × V)} {fs : List (Str × Val)}, PKW R gs fs → (gs.lookup f = none ∧ fs.lookup f = none) ∨ ∃ v d, gs.lookup f = some v ∧ fs.lookup f = some d ∧ R v d
  | _, _, .nil => .inl ⟨rfl, rfl⟩
  | (g, v) :: gs, (_, d) :: fs, .cons ⟨e, r⟩ t => by
    dsimp only at e r
    subst e
    by_cases h : f = g
    · subst h
      right
      exact ⟨v, d, by simp [List.lookup], by simp [List.lookup], r⟩
    · have hb : (f == g) = false := by simpa using h
      have e1 : List.lookup f ((g, v) :: gs) = gs.lookup f := by simp [List.lookup, hb]
      have e2 : List.lookup f ((g, d) :: fs) = fs.lookup f := by simp [List.lookup, hb]
      rw [e1, e2]
      exact PKW.lookup t
theorem sim_call {sp : Sp} {t : TA} {E : XK} {np : Nat} (hs : sp = spOf X.K cl np F) (ha : SimA X.K cl t fa) : SimE X.K cl (tCall sp [] E t) (eCall F np fa) := fun wd σ ρ S H Q d S' w q h kk => by
  subst hs
  obtain ⟨ds, S1, h1, h⟩ := bindR_inv h
  split at h
  · rename_i hl
    refine ha wd σ ρ S H _ ds S1 w q h1 fun wd1 vs H1 w1 x1 r1 => ?_
    rw [List.append_nil]
    exact ⟨wd1, S1, ds, d, S', w1, r1, hl, h, fun wd2 v H2 w2 x2 r2 => kk wd2 v H2 w2 (x1.trans x2) r2⟩
  · cases h
theorem de_call {j : Nat} (c : CalD X.prog X.w X.K X.mg X.base cl k x n F) (hr : Room j X.A) (hk : k ≤ j) (hg : Gl X x) (ha : DA X cl (e :: es) fa) (hdb : (x == ("__debug__" : Str)) = false := by decide)
    (he : starEach (e :: es) X.env = (false, eval e X.env) :: starEach es X.env := by rfl) (hpl : (backTo pos (starEach es X.env)).any (·.1) = false := by rfl) : DE X cl (.Call (.Name x p) (e :: es) [] pos) (eCall F n fa) := by
  obtain ⟨f, fd, ps, hn, Fo, hm, hkp, hb⟩ := c
  obtain ⟨t, pa, sa⟩ := ha
  subst hn
  exact ⟨_, pe_call Fo (hr.mono hk) hg hm hkp hb .nil pass0 pa hdb he hpl, sim_call rfl sa⟩
theorem sim_nil {K : PySem.W.Frag} : SimA K cl tNil aNil := fun wd σ ρ S H Q d S' w q h k => by cases h; exact k wd [] H w .refl .nil
theorem de_call0 {j : Nat} (c : CalD X.prog X.w X.K X.mg X.base cl k x n F) (hr : Room j X.A) (hk : k ≤ j) (hg : Gl X x) (hdb : (x == ("__debug__" : Str)) = false := by decide) : DE X cl (.Call (.Name x p) [] [] pos) (eCall F n aNil) := by
  obtain ⟨f, fd, ps, hn, Fo, hm, hkp, hb⟩ := c
  subst hn
  exact ⟨_, pe_call0 Fo (hr.mono hk) hg hm hkp hb .nil pass0 hdb, sim_call rfl sim_nil⟩
theorem sim_meth {sp : Sp} {t : TA} {ta : TE} {E : XK} {np c : Nat} (hs : sp = spOf X.K cl np F) (ho : SimE X.K cl ta fo) (ha : SimA X.K cl t fa) : SimE X.K cl (tMeth (cl c) m sp [] E ta t) (eMeth c m F np fo fa) := fun wd σ ρ S H Q d S' w q h kk => by
  subst hs
  obtain ⟨od, S1, h1, g⟩ := bindR_inv h
  clear h
  split at g
  · rename_i i
    split at g
    · rename_i c' fs es
      split at g
      · rename_i hc
        obtain ⟨rfl, hfs⟩ := hc
        obtain ⟨ds, S2, h2, g⟩ := bindR_inv g
        by_cases hl : ds.length + 1 = np
        · rw [if_pos hl] at g
          refine ho wd σ ρ S H _ _ S1 w q h1 fun wd1 v H1 w1 x1 r1 => ?_
          obtain ⟨hi, rfl⟩ := r1
          obtain ⟨dx, f, e1, gs, e2, pk⟩ := w1.ob i _ es
          refine ⟨_, dx, gs, rfl, e2, ?_, ?_⟩
          · rcases PKW.lookup (f := m) pk with ⟨z, _⟩ | ⟨_, _, _, z, _⟩
            · exact z
            · rw [hfs] at z; cases z
          · refine ha wd1 σ ρ S1 H1 _ ds S2 w1 (q.ext x1) h2 fun wd2 vs H2 w2 x2 r2 => ?_
            rw [List.append_nil]
            exact ⟨wd2, S2, .obj i :: ds, d, S', w2, .cons (RV.ext x2 (d := .obj i) ⟨hi, rfl⟩) r2, by simpa using hl, g, fun wd3 v H3 w3 x3 r3 => kk wd3 v H3 w3 ((x1.trans x2).trans x3) r3⟩
        · rw [if_neg hl] at g
          cases g
      · cases g
    · cases g
  · cases g
theorem de_meth {j c : Nat} {pl : Sem Bool} (cm : MetD X.prog X.w X.K X.mg X.base cl k c m n F) (hr : Room j X.A) (hk : k ≤ j) (ho : DE X cl o fo) (ha : DA X cl (e :: es) fa)
    (hst : starEach (e :: es) X.env = (false, eval e X.env) :: starEach es X.env := by rfl) (hpl : (backTo pos (starEach es X.env)).any (·.1) = false := by rfl)
    (ht : eval (.Call (.Attribute o m apos) (e :: es) [] pos) X.env = (do
      let ov ← eval o X.env
      standAt apos.atName
      let (f, first) ← holding [ov] (getMethod ov m pl)
      callWith pos f first (backTo pos (starEach (e :: es) X.env)) (backToKw pos (keywordEach [] X.env))) := by rfl) : DE X cl (.Call (.Attribute o m apos) (e :: es) [] pos) (eMeth c m F n fo fa) := by
  obtain ⟨f, fd, ps, hn, Fo, hc, hm, hb⟩ := cm
  obtain ⟨t, pa, sa⟩ := ha
  obtain ⟨t', po, so⟩ := ho
  subst hn
  exact ⟨_, pe_meth (pl := pl) po hc hm Fo (hr.mono hk) hb .nil pass0 pa hst hpl ht, sim_meth rfl so sa⟩
theorem de_meth0 {j c : Nat} {pl : Sem Bool} (cm : MetD X.prog X.w X.K X.mg X.base cl k c m n F) (hr : Room j X.A) (hk : k ≤ j) (ho : DE X cl o fo)
    (ht : eval (.Call (.Attribute o m apos) [] [] pos) X.env = (do
      let ov ← eval o X.env
      standAt apos.atName
      let (f, first) ← holding [ov] (getMethod ov m pl)
      callWith pos f first (backTo pos (starEach [] X.env)) (backToKw pos (keywordEach [] X.env))) := by rfl) : DE X cl (.Call (.Attribute o m apos) [] [] pos) (eMeth c m F n fo aNil) := by
  obtain ⟨f, fd, ps, hn, Fo, hc, hm, hb⟩ := cm
  obtain ⟨t', po, so⟩ := ho
  subst hn
  exact ⟨_, pe_meth0 (pl := pl) po hc hm Fo (hr.mono hk) hb .nil pass0 ht, sim_meth rfl so sim_nil⟩
theorem sim_make {sp : Sp} {t : TA} {E : XK} {np c : Nat} (hs : sp = spOf X.K cl np F) (ha : SimA X.K cl t fa) : SimE X.K cl (tMake (cl c) sp [] E t) (eMake c F np fa) := fun wd σ ρ S H Q d S' w q h kk => by
  subst hs
  obtain ⟨ds, S1, h1, h⟩ := bindR_inv h
  split at h
  · rename_i hl
    obtain ⟨z, S2, h2, h⟩ := bindR_inv h
    have hz : z = .pd .none ∧ d = .obj S1.length ∧ S' = S2 := by
      cases z with
      | obj _ => cases h
      | pd y =>
        cases y with
        | none => cases h; exact ⟨rfl, rfl, rfl⟩
        | _ => cases h
    · obtain ⟨rfl, hd, hS⟩ := hz
      rw [hd, hS] at kk
      clear h hd hS
      refine ha wd σ ρ S H _ ds S1 w q h1 fun wd1 vs H1 w1 x1 r1 => ?_
      intro x dx hx hdx ne
      rw [List.append_nil]
      have hk1 : ∀ b u, H1 b = some u → (upd (upd H1 dx (.own x)) x (.ins (cl c) dx [])) b = some u := fun b u e => by
        rw [upd_ne (ne_of_none e hx), upd_ne (ne_of_none e hdx)]; exact e
      have hdx1 : (upd (upd H1 dx (.own x)) x (.ins (cl c) dx [])) dx = some (.own x) := by rw [upd_ne ne, upd_same]
      obtain ⟨w2, x2⟩ := w1.push (o := .ins c []) (p := x) (f := fun b => b = x ∨ b = dx) hk1 (fun b hb => by
        rcases hb with rfl | rfl
        · exact ⟨hx, _, upd_same⟩
        · exact ⟨hdx, _, hdx1⟩) ⟨dx, fun b => Iff.rfl, hdx1, [], upd_same, .nil⟩
      refine ⟨_, S1 ++ [.ins c []], .obj S1.length :: ds, .pd .none, S2, w2, .cons ⟨by simp, by simp [Wd.push]⟩ (r1.ext x2), by simpa using hl, h2, fun wd3 v H3 w3 x3 r3 => ⟨r3.none_inv, ?_⟩⟩
      refine kk wd3 _ H3 w3 ((x1.trans x2).trans x3) ⟨by have := x3.len; simp at this; omega, ?_⟩
      rw [x3.ad _ (by simp)]
      simp [Wd.push]
  · cases h
theorem de_make {j c : Nat} (cm : MakD X.prog X.w X.K X.mg X.base cl k c x n F) (hr : Room j X.A) (hk : k + 1 ≤ j) (hg : Gl X x) (ha : DA X cl (e :: es) fa) (hdb : (x == ("__debug__" : Str)) = false := by decide)
    (he : starEach (e :: es) X.env = (false, eval e X.env) :: starEach es X.env := by rfl) (hpl : (backTo pos (starEach es X.env)).any (·.1) = false := by rfl) : DE X cl (.Call (.Name x p) (e :: es) [] pos) (eMake c F n fa) := by
  obtain ⟨f, fd, ps, hn, Fo, hmk, hm, hb⟩ := cm
  obtain ⟨t, pa, sa⟩ := ha
  subst hn
  exact ⟨_, pe_make hmk Fo (hr.mono hk) hg hm hb .nil pass0 pa hdb he hpl, sim_make rfl sa⟩
theorem de_make0 {j c : Nat} (cm : MakD X.prog X.w X.K X.mg X.base cl k c x n F) (hr : Room j X.A) (hk : k + 1 ≤ j) (hg : Gl X x) (hdb : (x == ("__debug__" : Str)) = false := by decide) : DE X cl (.Call (.Name x p) [] [] pos) (eMake c F n aNil) := by
  obtain ⟨f, fd, ps, hn, Fo, hmk, hm, hb⟩ := cm
  subst hn
  exact ⟨_, pe_make0 hmk Fo (hr.mono hk) hg hm hb .nil pass0 hdb, sim_make rfl sim_nil⟩
end
end DM
set_option Elab.async false
set_option linter.all false
set_option maxRecDepth 100000
namespace DM
open PySem L2 PyProof.Rows
theorem szl : sizeLine = 16777216 := sizeLine_eq
/-! ### reading -/
def getL (d : Val) (S : Store) : Option (List PyData) := match d with
  | .pd (.list xs) => some xs
  | .obj h => match S[h]? with
    | some (.lst xs) => some xs
    | some (.lock (.lst xs)) => some xs
    | some (.scr xs) => some xs
    | _ => none
  | _ => none
/-- no script -/
def getR (d : Val) (S : Store) : Option (List PyData) := match d with
  | .pd (.list xs) => some xs
  | .obj h => match S[h]? with
    | some (.lst xs) => some xs
    | some (.lock (.lst xs)) => some xs
    | _ => none
  | _ => none
/-- as values -/
def getV (d : Val) (S : Store) : Option (List Val) := match d with
  | .pd (.list xs) => some (xs.map Val.pd)
  | .obj h => match S[h]? with
    | some (.lst xs) => some (xs.map Val.pd)
    | some (.lock (.lst xs)) => some (xs.map Val.pd)
    | some (.scr xs) => some (xs.map Val.pd)
    | some (.lsv xs) => some xs
    | some (.lock (.lsv xs)) => some xs
    | _ => none
  | _ => none
/-- data -/
def toD (d : Val) (S : Store) : Option PyData := match d with
  | .pd d => some d
  | .obj h => match S[h]? with
    | some (.lst xs) => some (.list xs)
    | some (.lock (.lst xs)) => some (.list xs)
    | some (.scr xs) => some (.list xs)
    | some (.lsv []) => some (.list [])
    | _ => none
section
variable {K : PySem.W.Frag} {cl : Nat → Addr} {wd : Wd} {S : Store} {H : Hp} {v : V} {d : Val}
theorem WR.getL (w : WR K cl wd S H) (r : RV K wd S.length H v d) {xs : List PyData} (h : getL d S = some xs) : ∃ a vs, v = .ref a ∧ SqL K H a vs ∧ RpAll K H (Own wd S.length) vs xs := by
  unfold DM.getL at h
  split at h
  · cases h
    cases r with
    | lst h1 h2 => exact ⟨_, _, rfl, h1.sq, h2⟩
  · rename_i i
    obtain ⟨hi, rfl⟩ := r
    split at h
    · rename_i e
      cases h
      obtain ⟨f, vs, e1, q⟩ := w.ob i _ e
      exact ⟨_, vs, rfl, SqL.of e1, q⟩
    · rename_i e
      cases h
      obtain ⟨f, vs, e1, q⟩ := w.ob i _ e
      exact ⟨_, vs, rfl, SqL.of e1, q⟩
    · rename_i e
      cases h
      obtain ⟨f, vs, e1, q⟩ := w.ob i _ e
      exact ⟨_, vs, rfl, e1.sq, q⟩
    · cases h
  · cases h
theorem WR.getR (w : WR K cl wd S H) (r : RV K wd S.length H v d) {xs : List PyData} (h : getR d S = some xs) : ∃ a vs, v = .ref a ∧ Rd H a (.lst vs) ∧ RpAll K H (Own wd S.length) vs xs := by
  unfold DM.getR at h
  split at h
  · cases h
    cases r with
    | lst h1 h2 => exact ⟨_, _, rfl, h1.1, h2⟩
  · rename_i i
    obtain ⟨hi, rfl⟩ := r
    split at h
    · rename_i e
      cases h
      obtain ⟨f, vs, e1, q⟩ := w.ob i _ e
      exact ⟨_, vs, rfl, .inl e1, q⟩
    · rename_i e
      cases h
      obtain ⟨f, vs, e1, q⟩ := w.ob i _ e
      exact ⟨_, vs, rfl, .inl e1, q⟩
    · cases h
  · cases h
theorem WR.getV (w : WR K cl wd S H) (r : RV K wd S.length H v d) {xs : List Val} (h : getV d S = some xs) : ∃ a vs, v = .ref a ∧ SqL K H a vs ∧ RVs K wd S.length H vs xs := by
  unfold DM.getV at h
  split at h
  · cases h
    cases r with
    | lst h1 h2 => exact ⟨_, _, rfl, h1.sq, h2.rvs⟩
  · rename_i i
    obtain ⟨hi, rfl⟩ := r
    split at h
    · rename_i e
      cases h
      obtain ⟨f, vs, e1, q⟩ := w.ob i _ e
      exact ⟨_, vs, rfl, SqL.of e1, q.rvs⟩
    · rename_i e
      cases h
      obtain ⟨f, vs, e1, q⟩ := w.ob i _ e
      exact ⟨_, vs, rfl, SqL.of e1, q.rvs⟩
    · rename_i e
      cases h
      obtain ⟨f, vs, e1, q⟩ := w.ob i _ e
      exact ⟨_, vs, rfl, e1.sq, q.rvs⟩
    · rename_i e
      cases h
      obtain ⟨f, vs, e1, q⟩ := w.ob i _ e
      exact ⟨_, vs, rfl, SqL.of e1, q⟩
    · rename_i e
      cases h
      obtain ⟨f, vs, e1, q⟩ := w.ob i _ e
      exact ⟨_, vs, rfl, SqL.of e1, q⟩
    · cases h
  · cases h
theorem WR.toD (w : WR K cl wd S H) (r : RV K wd S.length H v d) {x : PyData} (h : toD d S = some x) : Dp K H v x := by
  unfold DM.toD at h
  split at h
  · cases h
    exact Rp.dp _ _ r
  · rename_i i
    obtain ⟨hi, rfl⟩ := r
    split at h
    · rename_i e
      cases h
      obtain ⟨f, vs, e1, q⟩ := w.ob i _ e
      exact .lst (SqL.of e1) (RpAll.dp _ _ q)
    · rename_i e
      cases h
      obtain ⟨f, vs, e1, q⟩ := w.ob i _ e
      exact .lst (SqL.of e1) (RpAll.dp _ _ q)
    · rename_i e
      cases h
      obtain ⟨f, vs, e1, q⟩ := w.ob i _ e
      exact .lst e1.sq (RpAll.dp _ _ q)
    · rename_i e
      cases h
      obtain ⟨f, vs, e1, q⟩ := w.ob i _ e
      cases q
      exact .lst (SqL.of e1) .nil
    · cases h
/-- a new frozen tuple, list; a new list of the store -/
theorem WR.newT (w : WR K cl wd S H) {vs : List V} {ds : List PyData} (r : RpAll K H (Own wd S.length) vs ds) {p : Addr} (hp : H p = none) :
    WR K cl wd S (upd H p (.tup vs)) ∧ Ext wd S H wd S (upd H p (.tup vs)) ∧ RV K wd S.length (upd H p (.tup vs)) (.ref p) (.pd (.tuple ds)) := by
  have hk := upd_keeps (o := .tup vs) hp
  exact ⟨w.mono_all hk, Ext.all w hk, .tup ⟨upd_same, w.fresh hp⟩ (RpAll.mono (fun b o e n => ⟨hk b o e, n⟩) _ _ r)⟩
theorem WR.newF (w : WR K cl wd S H) {vs : List V} {ds : List PyData} (r : RpAll K H (Own wd S.length) vs ds) {p : Addr} (hp : H p = none) :
    WR K cl wd S (upd H p (.lst vs)) ∧ Ext wd S H wd S (upd H p (.lst vs)) ∧ RV K wd S.length (upd H p (.lst vs)) (.ref p) (.pd (.list ds)) := by
  have hk := upd_keeps (o := .lst vs) hp
  exact ⟨w.mono_all hk, Ext.all w hk, .lst ⟨.inl upd_same, w.fresh hp⟩ (RpAll.mono (fun b o e n => ⟨hk b o e, n⟩) _ _ r)⟩
theorem WR.newL (w : WR K cl wd S H) {vs : List V} {ds : List PyData} (r : RpAll K H (Own wd S.length) vs ds) {p : Addr} (hp : H p = none) :
    ∃ wd', WR K cl wd' (S ++ [.lst ds]) (upd H p (.lst vs)) ∧ Ext wd S H wd' (S ++ [.lst ds]) (upd H p (.lst vs)) ∧ RV K wd' (S ++ [Ob.lst ds]).length (upd H p (.lst vs)) (.ref p) (.obj S.length) := by
  have hk := upd_keeps (o := .lst vs) hp
  obtain ⟨w2, x2⟩ := w.push (o := .lst ds) (p := p) (f := fun b => b = p) hk (fun b hb => by subst hb; exact ⟨hp, _, upd_same⟩) ⟨fun b => Iff.rfl, vs, upd_same, RpAll.mono (fun b o e n => ⟨hk b o e, by
    rw [push_own]
    rintro (z | z)
    · exact n z
    · subst z; rw [hp] at e; cases e⟩) _ _ r⟩
  exact ⟨_, w2, x2, ⟨by simp, by simp [Wd.push]⟩⟩
theorem WR.newLV (w : WR K cl wd S H) {vs : List V} {ds : List Val} (r : RVs K wd S.length H vs ds) {p : Addr} (hp : H p = none) :
    ∃ wd', WR K cl wd' (S ++ [.lsv ds]) (upd H p (.lst vs)) ∧ Ext wd S H wd' (S ++ [.lsv ds]) (upd H p (.lst vs)) ∧ RV K wd' (S ++ [Ob.lsv ds]).length (upd H p (.lst vs)) (.ref p) (.obj S.length) := by
  have hk := upd_keeps (o := .lst vs) hp
  have kk : ∀ b u, H b = some u → ¬ Own wd S.length b → upd H p (.lst vs) b = some u ∧ ¬ Own (wd.push S.length p fun b => b = p) (S.length + 1) b := fun b o e n => ⟨hk b o e, by
    rw [push_own]
    rintro (z | z)
    · exact n z
    · subst z; rw [hp] at e; cases e⟩
  have r' : RVs K (wd.push S.length p fun b => b = p) (S.length + 1) (upd H p (.lst vs)) vs ds := by
    have ad : ∀ i, i < S.length → (wd.push S.length p fun b => b = p).ad i = wd.ad i := fun i hi => by
      have : i ≠ S.length := by omega
      simp [Wd.push, this]
    generalize hH : upd H p (.lst vs) = H'
    rw [hH] at kk
    clear hH hk
    induction r with
    | nil => exact .nil
    | @cons v vs' d ds' r _ ih =>
      refine .cons ?_ ih
      cases d with
      | pd d => exact Rp.mono kk d v r
      | obj i => exact ⟨by have := r.1; omega, by rw [ad i r.1]; exact r.2⟩
  obtain ⟨w2, x2⟩ := w.push (o := .lsv ds) (p := p) (f := fun b => b = p) hk (fun b hb => by subst hb; exact ⟨hp, _, upd_same⟩) ⟨fun b => Iff.rfl, vs, upd_same, r'⟩
  exact ⟨_, w2, x2, ⟨by simp, by simp [Wd.push]⟩⟩
theorem WR.newDK (w : WR K cl wd S H) {p : Addr} (hp : H p = none) :
    ∃ wd', WR K cl wd' (S ++ [.dK []]) (upd H p (.dK [])) ∧ Ext wd S H wd' (S ++ [.dK []]) (upd H p (.dK [])) ∧ RV K wd' (S ++ [Ob.dK []]).length (upd H p (.dK [])) (.ref p) (.obj S.length) := by
  have hk := upd_keeps (o := .dK []) hp
  obtain ⟨w2, x2⟩ := w.push (o := .dK []) (p := p) (f := fun b => b = p) hk (fun b hb => by subst hb; exact ⟨hp, _, upd_same⟩) ⟨fun b => Iff.rfl, [], upd_same, .nil⟩
  exact ⟨_, w2, x2, ⟨by simp, by simp [Wd.push]⟩⟩
/-- a list of the store changes -/
theorem WR.setL (w : WR K cl wd S H) {h : Nat} {xs ys : List PyData} {vs : List V} (e : S[h]? = some (.lst xs)) (r : RpAll K H (Own wd S.length) vs ys) :
    ∃ wd', WR K cl wd' (S.set h (.lst ys)) (upd H (wd.ad h) (.lst vs)) ∧ Ext wd S H wd' (S.set h (.lst ys)) (upd H (wd.ad h) (.lst vs)) := by
  obtain ⟨f, vs0, e0, _⟩ := w.ob h _ e
  have hf : ∀ b, wd.fp h b → b = wd.ad h := fun b hb => (f b).mp hb
  have own : ∀ b, Own (wd.own h fun b => b = wd.ad h) S.length b → Own wd S.length b := by
    rintro b (z | ⟨i, hi, q⟩)
    · exact .inl z
    by_cases ei : i = h
    · subst ei
      simp [Wd.own] at q
      exact .inr ⟨i, hi, (f b).mpr q⟩
    · simp [Wd.own, ei] at q
      exact .inr ⟨i, hi, q⟩
  have := w.set (o' := .lst ys) (f := fun b => b = wd.ad h) (H' := upd H (wd.ad h) (.lst vs)) e (fun u z => by cases z) (fun b nb u eb => by
    rw [upd_ne (fun z => nb ((f b).mpr z))]; exact eb) (fun b hb => by subst hb; exact ⟨.inl ((f _).mpr rfl), _, upd_same⟩) ⟨fun b => Iff.rfl, vs, upd_same, RpAll.mono (fun b o eb n => ⟨by
      rw [upd_ne (fun z => n (.inr ⟨h, lt_of_get e, (f b).mpr z⟩))]; exact eb, fun z => n (own b z)⟩) _ _ r⟩
  exact ⟨_, this.1, this.2⟩
theorem WR.setLV (w : WR K cl wd S H) {h : Nat} {o : Ob} {ys : List Val} {vs : List V} (e : S[h]? = some o) (ho : (∃ xs, o = .lst xs) ∨ ∃ xs, o = .lsv xs) (r : RVs K wd S.length H vs ys) :
    ∃ wd', WR K cl wd' (S.set h (.lsv ys)) (upd H (wd.ad h) (.lst vs)) ∧ Ext wd S H wd' (S.set h (.lsv ys)) (upd H (wd.ad h) (.lst vs)) := by
  have f : ∀ b, wd.fp h b ↔ b = wd.ad h := by
    rcases ho with ⟨xs, rfl⟩ | ⟨xs, rfl⟩
    · exact (w.ob h _ e).1
    · exact (w.ob h _ e).1
  have own : ∀ b, Own (wd.own h fun b => b = wd.ad h) S.length b → Own wd S.length b := by
    rintro b (z | ⟨i, hi, q⟩)
    · exact .inl z
    by_cases ei : i = h
    · subst ei
      simp [Wd.own] at q
      exact .inr ⟨i, hi, (f b).mpr q⟩
    · simp [Wd.own, ei] at q
      exact .inr ⟨i, hi, q⟩
  have kk : ∀ b u, H b = some u → ¬ Own wd S.length b → upd H (wd.ad h) (.lst vs) b = some u ∧ ¬ Own (wd.own h fun b => b = wd.ad h) S.length b := fun b u eb n => ⟨by
    rw [upd_ne (fun z => n (.inr ⟨h, lt_of_get e, (f b).mpr z⟩))]; exact eb, fun z => n (own b z)⟩
  have r' : RVs K (wd.own h fun b => b = wd.ad h) S.length (upd H (wd.ad h) (.lst vs)) vs ys := by
    generalize hH : upd H (wd.ad h) (.lst vs) = H'
    rw [hH] at kk
    clear hH
    induction r with
    | nil => exact .nil
    | @cons v vs' d ds' r _ ih =>
      refine .cons ?_ ih
      cases d with
      | pd d => exact Rp.mono kk d v r
      | obj i => exact r
  have := w.set (o' := .lsv ys) (f := fun b => b = wd.ad h) (H' := upd H (wd.ad h) (.lst vs)) e (fun u z => by
      rcases ho with ⟨xs, rfl⟩ | ⟨xs, rfl⟩ <;> cases z) (fun b nb u eb => by
    rw [upd_ne (fun z => nb ((f b).mpr z))]; exact eb) (fun b hb => by subst hb; exact ⟨.inl ((f _).mpr rfl), _, upd_same⟩) ⟨fun b => Iff.rfl, vs, upd_same, r'⟩
  exact ⟨_, this.1, this.2⟩
end
/-! ### displays -/
def allPd : List Val → Option (List PyData)
  | [] => some []
  | .pd d :: r => (allPd r).map (d :: ·)
  | .obj _ :: _ => none
theorem allPd_eq : ∀ {ds : List Val} {xs : List PyData}, allPd ds = some xs → ds = xs.map Val.pd
  | [], _, h => by cases h; rfl
  | .pd d :: r, xs, h => by
    unfold allPd at h
    cases hr : allPd r with
    | none => rw [hr] at h; cases h
    | some ys =>
      rw [hr] at h
      cases h
      rw [allPd_eq hr]
      rfl
  | .obj _ :: _, _, h => by cases h
@[simp] theorem allPd_map : ∀ (xs : List PyData), allPd (xs.map Val.pd) = some xs
  | [] => rfl
  | x :: xs => by simp [allPd, allPd_map xs]
def uTup : List Val → M Val := fun ds S => match allPd ds with
  | some xs => if xs.length ≤ 16777216 then some (.pd (.tuple xs), S) else none
  | none => none
def uLst : List Val → M Val := fun ds S => match allPd ds with
  | some xs => if xs.length ≤ 16777216 then some (.pd (.list xs), S) else none
  | none => none
/-- a list that will be changed -/
def uLstM : List Val → M Val := fun ds S => if ds.length ≤ 16777216 then match allPd ds with
  | some xs => some (.obj S.length, S ++ [.lst xs])
  | none => some (.obj S.length, S ++ [.lsv ds])
  else none
def uLstV : List Val → M Val := fun ds S => if ds.length ≤ 16777216 then some (.obj S.length, S ++ [.lsv ds]) else none
section
variable {X : Cx} {cl : Nat → Addr} {pos : Pos} {es : List Expr} {fs : DEnv → M (List Val)}
theorem de_tup {x1} (h : DA X cl es fs) : DE X cl (.Tuple es x1 pos) (eA uTup fs) := by
  obtain ⟨t, p, s⟩ := h
  refine ⟨_, pe_tup p, fun wd σ ρ S H Q d S' w q h k => ?_⟩
  obtain ⟨ds, S1, h1, h⟩ := bindR_inv h
  refine s wd σ ρ S H _ ds S1 w q h1 fun wd1 vs H1 w1 x1 r1 => ?_
  unfold uTup at h
  split at h
  · rename_i xs ex
    have := allPd_eq ex
    subst this
    split at h
    · rename_i hl
      cases h
      refine ⟨by rw [r1.length, List.length_map, szl]; exact hl, fun p hp => ?_⟩
      obtain ⟨w2, x2, r2⟩ := w1.newT r1.pds hp
      exact k _ _ _ w2 (x1.trans x2) r2
    · cases h
  · cases h
theorem de_lst (h : DA X cl es fs) : DE X cl (.List es pos) (eA uLst fs) := by
  obtain ⟨t, p, s⟩ := h
  refine ⟨_, pe_lst p, fun wd σ ρ S H Q d S' w q h k => ?_⟩
  obtain ⟨ds, S1, h1, h⟩ := bindR_inv h
  refine s wd σ ρ S H _ ds S1 w q h1 fun wd1 vs H1 w1 x1 r1 => ?_
  unfold uLst at h
  split at h
  · rename_i xs ex
    have := allPd_eq ex
    subst this
    split at h
    · rename_i hl
      cases h
      refine ⟨by rw [r1.length, List.length_map, szl]; exact hl, fun p hp => ?_⟩
      obtain ⟨w2, x2, r2⟩ := w1.newF r1.pds hp
      exact k _ _ _ w2 (x1.trans x2) r2
    · cases h
  · cases h
theorem de_lstM (h : DA X cl es fs) : DE X cl (.List es pos) (eA uLstM fs) := by
  obtain ⟨t, p, s⟩ := h
  refine ⟨_, pe_lst p, fun wd σ ρ S H Q d S' w q h k => ?_⟩
  obtain ⟨ds, S1, h1, h⟩ := bindR_inv h
  refine s wd σ ρ S H _ ds S1 w q h1 fun wd1 vs H1 w1 x1 r1 => ?_
  unfold uLstM at h
  split at h
  · rename_i hl
    refine ⟨by rw [r1.length, szl]; exact hl, fun p hp => ?_⟩
    split at h
    · rename_i xs ex
      have := allPd_eq ex
      subst this
      cases h
      obtain ⟨wd2, w2, x2, r2⟩ := w1.newL r1.pds hp
      exact k _ _ _ w2 (x1.trans x2) r2
    · cases h
      obtain ⟨wd2, w2, x2, r2⟩ := w1.newLV r1 hp
      exact k _ _ _ w2 (x1.trans x2) r2
  · cases h
theorem de_lstV (h : DA X cl es fs) : DE X cl (.List es pos) (eA uLstV fs) := by
  obtain ⟨t, p, s⟩ := h
  refine ⟨_, pe_lst p, fun wd σ ρ S H Q d S' w q h k => ?_⟩
  obtain ⟨ds, S1, h1, h⟩ := bindR_inv h
  refine s wd σ ρ S H _ ds S1 w q h1 fun wd1 vs H1 w1 x1 r1 => ?_
  unfold uLstV at h
  split at h
  · rename_i hl
    refine ⟨by rw [r1.length, szl]; exact hl, fun p hp => ?_⟩
    cases h
    obtain ⟨wd2, w2, x2, r2⟩ := w1.newLV r1 hp
    exact k _ _ _ w2 (x1.trans x2) r2
  · cases h
end
/-! ### arithmetic -/
instance (i j : Int) : Decidable (CMul i j) := by unfold CMul; infer_instance
instance (i j : Int) : Decidable (CMulW i j) := by unfold CMulW; infer_instance
instance (i j : Int) : Decidable (CPow i j) := by unfold CPow; infer_instance
def uAdd : Val → Val → M Val := fun a b S => match a, b with
  | .pd (.int i), .pd (.int j) => some (.pd (.int (i + j)), S)
  | .pd (.str i), .pd (.str j) => if i.length + j.length ≤ 16777216 then some (.pd (.str (i ++ j)), S) else none
  | .pd (.tuple xs), .pd (.tuple ys) => if xs.length + ys.length ≤ 16777216 then some (.pd (.tuple (xs ++ ys)), S) else none
  | a, b => match getL a S, getL b S with
    | some xs, some ys => if xs.length + ys.length ≤ 16777216 then some (.pd (.list (xs ++ ys)), S) else none
    | _, _ => none
def uAddM : Val → Val → M Val := fun a b S => match getL a S, getL b S with
  | some xs, some ys => if xs.length + ys.length ≤ 16777216 then some (.obj S.length, S ++ [.lst (xs ++ ys)]) else none
  | _, _ => none
def uSub : Val → Val → M Val := fun a b S => match a, b with
  | .pd (.int i), .pd (.int j) => some (.pd (.int (i - j)), S)
  | _, _ => none
/-- a text times an int -/
def repS (x : Str) (n : Nat) : Str := ⟨(List.replicate n x.cps.toList).flatten.toArray⟩
theorem repS_len (x : Str) (n : Nat) : (repS x n).length = n * x.length := by
  show (List.replicate n x.cps.toList).flatten.toArray.size = _
  rw [List.size_toArray, List.length_flatten, List.map_replicate, List.sum_replicate_nat]
  rfl
def uMul : Val → Val → M Val := fun a b S => match a, b with
  | .pd (.int i), .pd (.int j) => if CMul i j ∨ CMulW i j then some (.pd (.int (i * j)), S) else none
  | .pd (.str z), .pd (.int j) => if 0 ≤ j ∧ j ≤ 4096 ∧ z.length ≤ 4096 then some (.pd (.str (repS z j.toNat)), S) else none
  | a, .pd (.int j) => match getR a S with
    | some xs => if -(2 ^ 63) ≤ j ∧ j < 2 ^ 63 ∧ xs.length * j.toNat ≤ 16777216 then some (.pd (.list (List.replicate j.toNat xs).flatten), S) else none
    | none => none
  | _, _ => none
def uMulM : Val → Val → M Val := fun a b S => match b with
  | .pd (.int j) => match getR a S with
    | some xs => if -(2 ^ 63) ≤ j ∧ j < 2 ^ 63 ∧ xs.length * j.toNat ≤ 16777216 then some (.obj S.length, S ++ [.lst (List.replicate j.toNat xs).flatten]) else none
    | none => none
  | _ => none
def uMod : Val → Val → M Val := fun a b S => match a, b with
  | .pd (.int i), .pd (.int j) => if 0 < j then some (.pd (.int (i % j)), S) else none
  | _, _ => none
def uDiv : Val → Val → M Val := fun a b S => match a, b with
  | .pd (.int i), .pd (.int j) => if 0 < j ∧ (j < 1073741824 ∨ j.natAbs.log2 < 9000) then some (.pd (.int (i / j)), S) else none
  | _, _ => none
def uPow : Val → Val → M Val := fun a b S => match a, b with
  | .pd (.int i), .pd (.int j) => if CPow i j then some (.pd (.int (i ^ j.toNat)), S) else none
  | _, _ => none
def uShl : Val → Val → M Val := fun a b S => match a, b with
  | .pd (.int i), .pd (.int j) => if CPow i j then some (.pd (.int (i * 2 ^ j.toNat)), S) else none
  | _, _ => none
def uShr : Val → Val → M Val := fun a b S => match a, b with
  | .pd (.int i), .pd (.int j) => if 0 ≤ j then some (.pd (.int (i / 2 ^ j.toNat)), S) else none
  | _, _ => none
def uBand : Val → Val → M Val := fun a b S => match a, b with
  | .pd (.int i), .pd (.int j) => some (.pd (.int (Builtin.bitAnd i j)), S)
  | _, _ => none
def uNeg : Val → M Val := fun a S => match a with
  | .pd (.int i) => some (.pd (.int (-i)), S)
  | _ => none
def uLt (p : Int → Int → Bool) : Val → Val → M Val := fun a b S => match a, b with
  | .pd (.int i), .pd (.int j) => some (.pd (.bool (p i j)), S)
  | _, _ => none
/-- lists that may be known things -/
def rCatR (K : PySem.W.Frag) : R2 := fun x y H Q => ∃ l b xs zs, x = .ref l ∧ y = .ref b ∧ SqL K H l xs ∧ SqL K H b zs ∧ xs.length + zs.length ≤ sizeLine ∧ ∀ p, H p = none → Q (.ref p) (upd H p (.lst (xs ++ zs)))
theorem lstR {X : Cx} {pins : List (Addr × Obj)} {σ : L2.St} {H : Hp} {s : Shared} {l : Addr} {xs : List V} (I : Inv X pins σ H s) (hH : Rd H l (.lst xs)) : xs.length ≤ sizeLine ∧ ∃ (its : List Value) (n : Nat), Vals xs its ∧ xs.length = its.length ∧ s.heap.get? l = some { cls := .type "list", data := .seq its.toArray n } := by
  obtain ⟨z, its, n, r, e⟩ := hH.ok I.hok
  exact ⟨z, its, n, r, r.length, e⟩
theorem op_catR {X : Cx} : OpR X (binaryOp .Add) (rCatR X.K) := by
  intro pins s σ H x y v u Q I rx ry h
  obtain ⟨l, b, xs, zs, rfl, rfl, hH, hB, hz, q⟩ := h
  cases rx
  cases ry
  obtain ⟨its, r, pl, _⟩ := I.list hH
  obtain ⟨its2, r2, pl2, _⟩ := I.list hB
  have hl := r.length
  have hl2 := r2.length
  obtain ⟨⟨cls, dd, data, sl⟩, ho, hc, n, hd⟩ := pl.isList
  obtain ⟨⟨cls2, dd2, data2, sl2⟩, ho2, hc2, n2, hd2⟩ := pl2.isList
  simp only at hc hd hc2 hd2
  subst hc hd hc2 hd2
  have ea : its.toArray ++ its2.toArray = (its ++ its2).toArray := by simp
  refine concat_meets ⟨_, ho, rfl⟩ ⟨_, ho2, rfl⟩ noFill_list_add seq_list_add PySem.F.slot_list_add PySem.F.entry_list_add (PySem.F.args_list_add_2 _ _) (PyProof.Rows.list_addW l b its.toArray its2.toArray n n2 dd dd2 sl sl2 (by rw [List.size_toArray, List.size_toArray]; omega)) ⟨ho, ho2, ?_⟩
  rw [ea]
  exact ⟨.ref _, _, I.lnew (t' := s.toks) (r.append r2) (by rw [List.length_append]; omega), rfl, q _ I.fresh⟩
def rRepR : R2 := fun x y H Q => ∃ l k xs, x = .ref l ∧ y = .int k ∧ Rd H l (.lst xs) ∧ -(2 ^ 63) ≤ k ∧ k < 2 ^ 63 ∧ xs.length * k.toNat ≤ sizeLine ∧
  ∀ p, H p = none → Q (.ref p) (upd H p (.lst (List.replicate k.toNat xs).flatten))
theorem op_repR {X : Cx} : OpR X (binaryOp .Mult) rRepR := by
  intro pins s σ H x y v u Q I rx ry h
  obtain ⟨l, k, xs, rfl, rfl, hH, h1, h2, hz, q⟩ := h
  cases rx
  obtain ⟨t, rfl⟩ := ry
  obtain ⟨z, its, n, r, hl, e⟩ := lstR I hH
  have hlen : its.toArray.size * k.toNat ≤ sizeLine := by rw [List.size_toArray, ← hl]; exact hz
  have hcap : ¬ its.toArray.size * k.toNat > (2 ^ 63 - 1) / 8 := by
    have : (sizeLine : Nat) ≤ (2 ^ 63 - 1) / 8 := by decide
    omega
  have hfit : ¬ (!Builtin.List.listFitsIndex k) = true := by
    rw [fitsIndex_both h1 h2]
    exact Bool.false_ne_true
  have hlong : ¬ Builtin.List.listTooLong (its.toArray.size * k.toNat) = true := by
    rw [notLongL hlen]
    exact Bool.false_ne_true
  have hnew : List.foldl (fun x1 x2 => x1 ++ x2) #[] (List.replicate (if its.toArray.isEmpty = true then 0 else k.toNat) its.toArray) = (List.replicate k.toNat its).flatten.toArray := by
    have f0 : ∀ m : Nat, List.foldl (fun x1 x2 => x1 ++ x2) #[] (List.replicate m its.toArray) = (List.replicate m its).flatten.toArray := fun m => by
      have := foldl_rep its m []
      rw [List.nil_append] at this
      exact this
    rw [f0]
    cases its with
    | nil => simp
    | cons a r' => rw [if_neg (by simp)]
  refine wpAny_binaryOp_repeat_ref (T := "list") (U := "int") (by decide) ⟨_, e, rfl⟩ (fun s' => typeIs_int s' k t) noFill_list_mul F.fills_int_mul F.slot_int_rmul repeat_list F.slot_int_index.lookup
    (call_meets F.slot_int_rmul (typeIs_int s k t) F.entry_int_rmul (F.args_int_rmul_2 _ _) (int___rmul___int_list k t l its.toArray n)
      ⟨e, rfl, ⟨_, e, rfl⟩, call_meets F.slot_list_mul ⟨_, e, rfl⟩ F.entry_list_mul (F.args_list_mul_2 _ _) (AutoListH.list___mul___list_int_3 l its.toArray n k t hfit hcap hlong) ⟨e, ?_⟩⟩)
  rw [hnew]
  exact ⟨.ref _, _, I.lnew (t' := s.toks) (r.rep k.toNat) (by rw [PyProof.Rows.lm_len_rep_flat, Nat.mul_comm]; exact hz), rfl, q _ I.fresh⟩
def rAddA (K : PySem.W.Frag) : R2 := fun x y H Q => (rI0 fun i j => .int (i + j)) x y H Q ∨ (∃ i j, x = .str i ∧ y = .str j ∧ i.length + j.length ≤ sizeLine ∧ Q (.str (i ++ j)) H) ∨ rCatR K x y H Q ∨ rCatA K x y H Q
theorem repS_fold (x : Array Nat) : ∀ (n : Nat) (b : Array Nat), (List.replicate n x).foldl (· ++ ·) b = b ++ (List.replicate n x.toList).flatten.toArray
  | 0, b => by simp
  | n + 1, b => by
    rw [List.replicate_succ, List.foldl_cons, repS_fold x n, List.replicate_succ, List.flatten_cons]
    apply Array.toList_inj.mp
    simp
def rRepS : R2 := fun x y H Q => ∃ (z : Str) (n : Nat), x = .str z ∧ y = .int n ∧ n ≤ 4096 ∧ z.length ≤ 4096 ∧ Q (.str (repS z n)) H
theorem op_repS {X : Cx} : OpR X (binaryOp .Mult) rRepS := by
  intro pins s σ H x y v u Q I rx ry h
  obtain ⟨z, n, rfl, rfl, h1, h2, q⟩ := h
  obtain ⟨t, rfl⟩ := rx
  obtain ⟨t', rfl⟩ := ry
  have hb : z.length * n ≤ 4096 * 4096 := Nat.mul_le_mul h2 h1
  refine PySem.P.mul_str (by rw [decide_eq_false (by omega), decide_eq_false (by omega)]; rfl) (fun h0 _ => ?_) (fun _ _ => ?_) ?_
  · have h3 : (4096 : Int) ≤ (2 ^ 63 - 1) / (n : Int) := by
      rw [Int.le_ediv_iff_mul_le (by omega)]
      have : (4096 : Int) * n ≤ 4096 * 4096 := by omega
      omega
    omega
  · show decide (z.length * (n : Int).toNat > sizeLine) = false
    rw [Int.toNat_natCast, decide_eq_false]
    unfold sizeLine
    omega
  · split
    · rename_i h3
      have e : n = 0 := by omega
      subst e
      exact ⟨by decide, ⟨.str (repS z 0), H, I.tok _, ⟨_, rfl⟩, q⟩⟩
    · split
      · rename_i h3 h4
        have e : repS z n = z := by
          rw [Bool.or_eq_true, beq_iff_eq, beq_iff_eq] at h4
          unfold repS
          rcases h4 with h4 | h4
          · have e : n = 1 := by omega
            subst e
            simp
          · have e2 : z.cps = #[] := Array.eq_empty_of_size_eq_zero h4
            obtain ⟨c⟩ := z
            simp only at e2
            subst e2
            simp
        rw [e] at q
        exact ⟨.str z, H, I, ⟨_, rfl⟩, q⟩
      · have e : (⟨(List.replicate (n : Int).toNat z.cps).foldl (· ++ ·) #[]⟩ : Str) = repS z n := by
          rw [repS_fold, Int.toNat_natCast]
          unfold repS
          simp
        rw [e]
        refine ⟨?_, ⟨.str (repS z n), H, I.tok _, ⟨_, rfl⟩, q⟩⟩
        rw [repS_len, Nat.mul_comm]
        unfold sizeLine
        omega
def rMulA : R2 := fun x y H Q => (rI CMul fun i j => .int (i * j)) x y H Q ∨ (rI CMulW fun i j => .int (i * j)) x y H Q ∨ rRepS x y H Q ∨ rRepR x y H Q
def rDivA : R2 := fun x y H Q => (rI CDiv fun i j => .int (i / j)) x y H Q ∨ (rI CDivW fun i j => .int (i / j)) x y H Q
theorem op_addA {X : Cx} : OpR X (binaryOp .Add) (rAddA X.K) := op_add.or (op_add_str.or (op_catR.or op_catA))
theorem op_mulA {X : Cx} : OpR X (binaryOp .Mult) rMulA := op_mul.or (op_mulW.or (op_repS.or op_repR))
theorem op_divA {X : Cx} : OpR X (binaryOp .FloorDiv) rDivA := op_fdiv.or op_fdivW
section
variable {K : PySem.W.Frag} {cl : Nat → Addr}
theorem RV.int_inv {wd : Wd} {n : Nat} {H : Hp} {v : V} {i : Int} (r : RV K wd n H v (.pd (.int i))) : v = .int i := by cases r; rfl
theorem RV.str_inv {wd : Wd} {n : Nat} {H : Hp} {v : V} {i : Str} (r : RV K wd n H v (.pd (.str i))) : v = .str i := by cases r; rfl
theorem RV.bool_inv {wd : Wd} {n : Nat} {H : Hp} {v : V} {i : Bool} (r : RV K wd n H v (.pd (.bool i))) : v = .bl i := by cases r; rfl
theorem RV.tup_inv {wd : Wd} {n : Nat} {H : Hp} {v : V} {ds : List PyData} (r : RV K wd n H v (.pd (.tuple ds))) : ∃ a vs, v = .ref a ∧ FzT K H (Own wd n) a vs ∧ RpAll K H (Own wd n) vs ds := by
  cases r with
  | tup h1 h2 => exact ⟨_, _, rfl, h1, h2⟩
theorem so_add : SimO K cl (rAddA K) uAdd := fun wd S H x y dx dy Q d S' w rx ry h k => by
  unfold uAdd at h
  split at h
  · cases h
    obtain rfl := rx.int_inv
    obtain rfl := ry.int_inv
    exact .inl ⟨_, _, rfl, rfl, k wd _ H w .refl (.int _)⟩
  · split at h
    · rename_i hl
      cases h
      obtain rfl := rx.str_inv
      obtain rfl := ry.str_inv
      exact .inr (.inl ⟨_, _, rfl, rfl, by rw [szl]; exact hl, k wd _ H w .refl (.str _)⟩)
    · cases h
  · rename_i xs ys
    split at h
    · rename_i hl
      cases h
      obtain ⟨a, vs, rfl, f1, r1⟩ := rx.tup_inv
      obtain ⟨b, us, rfl, f2, r2⟩ := ry.tup_inv
      have l1 := r1.length
      have l2 := r2.length
      refine .inr (.inr (.inr ⟨a, b, vs, us, rfl, rfl, f1.sq, f2.sq, by rw [szl, l1, l2]; exact hl, fun z => ?_, fun _ z => ?_, fun _ _ p hp => ?_⟩))
      · subst z
        cases r1
        exact k wd _ H w .refl ry
      · subst z
        cases r2
        rw [List.append_nil] at k
        exact k wd _ H w .refl rx
      · obtain ⟨w2, x2, r3⟩ := w.newT (r1.append r2) hp
        exact k _ _ _ w2 x2 r3
    · cases h
  · split at h
    · rename_i xs ys e1 e2
      split at h
      · rename_i hl
        cases h
        obtain ⟨a, vs, rfl, f1, r1⟩ := w.getL rx e1
        obtain ⟨b, us, rfl, f2, r2⟩ := w.getL ry e2
        have l1 := r1.length
        have l2 := r2.length
        refine .inr (.inr (.inl ⟨a, b, vs, us, rfl, rfl, f1, f2, by rw [szl, l1, l2]; exact hl, fun p hp => ?_⟩))
        obtain ⟨w2, x2, r3⟩ := w.newF (r1.append r2) hp
        exact k _ _ _ w2 x2 r3
      · cases h
    · cases h
theorem so_addM : SimO K cl (rCatR K) uAddM := fun wd S H x y dx dy Q d S' w rx ry h k => by
  unfold uAddM at h
  split at h
  · rename_i xs ys e1 e2
    split at h
    · rename_i hl
      cases h
      obtain ⟨a, vs, rfl, f1, r1⟩ := w.getL rx e1
      obtain ⟨b, us, rfl, f2, r2⟩ := w.getL ry e2
      have l1 := r1.length
      have l2 := r2.length
      refine ⟨a, b, vs, us, rfl, rfl, f1, f2, by rw [szl, l1, l2]; exact hl, fun p hp => ?_⟩
      obtain ⟨wd2, w2, x2, r3⟩ := w.newL (r1.append r2) hp
      exact k _ _ _ w2 x2 r3
    · cases h
  · cases h
theorem so_sub : SimO K cl (rI0 fun i j => .int (i - j)) uSub := fun wd S H x y dx dy Q d S' w rx ry h k => by
  unfold uSub at h
  split at h
  · cases h
    obtain rfl := rx.int_inv
    obtain rfl := ry.int_inv
    exact ⟨_, _, rfl, rfl, k wd _ H w .refl (.int _)⟩
  · cases h
theorem RpAll.rep {H : Hp} {O : Addr → Prop} {vs : List V} {ds : List PyData} (r : RpAll K H O vs ds) : ∀ n : Nat, RpAll K H O (List.replicate n vs).flatten (List.replicate n ds).flatten
  | 0 => .nil
  | n + 1 => by
    simp only [List.replicate_succ, List.flatten_cons]
    exact r.append (RpAll.rep r n)
theorem so_mul : SimO K cl rMulA uMul := fun wd S H x y dx dy Q d S' w rx ry h k => by
  unfold uMul at h
  split at h
  · split at h
    · rename_i hc
      cases h
      obtain rfl := rx.int_inv
      obtain rfl := ry.int_inv
      rcases hc with hc | hc
      · exact .inl ⟨_, _, rfl, rfl, hc, k wd _ H w .refl (.int _)⟩
      · exact .inr (.inl ⟨_, _, rfl, rfl, hc, k wd _ H w .refl (.int _)⟩)
    · cases h
  · split at h
    · rename_i hc
      cases h
      obtain rfl := rx.str_inv
      obtain rfl := ry.int_inv
      refine .inr (.inr (.inl ⟨_, Int.toNat _, rfl, ?_, by omega, hc.2.2, k wd _ H w .refl (.str _)⟩))
      rw [Int.toNat_of_nonneg hc.1]
    · cases h
  · split at h
    · rename_i xs e1
      split at h
      · rename_i hl
        cases h
        obtain ⟨a, vs, rfl, f1, r1⟩ := w.getR rx e1
        obtain rfl := ry.int_inv
        have l1 := r1.length
        refine .inr (.inr (.inr ⟨a, _, vs, rfl, rfl, f1, hl.1, hl.2.1, by rw [szl, l1]; exact hl.2.2, fun p hp => ?_⟩))
        obtain ⟨w2, x2, r3⟩ := w.newF (r1.rep _) hp
        exact k _ _ _ w2 x2 r3
      · cases h
    · cases h
  · cases h
theorem so_mulM : SimO K cl rRepR uMulM := fun wd S H x y dx dy Q d S' w rx ry h k => by
  unfold uMulM at h
  split at h
  · split at h
    · rename_i xs e1
      split at h
      · rename_i hl
        cases h
        obtain ⟨a, vs, rfl, f1, r1⟩ := w.getR rx e1
        obtain rfl := ry.int_inv
        have l1 := r1.length
        refine ⟨a, _, vs, rfl, rfl, f1, hl.1, hl.2.1, by rw [szl, l1]; exact hl.2.2, fun p hp => ?_⟩
        obtain ⟨wd2, w2, x2, r3⟩ := w.newL (r1.rep _) hp
        exact k _ _ _ w2 x2 r3
      · cases h
    · cases h
  · cases h
theorem so_mod : SimO K cl (rI (fun _ j => 0 < j) fun i j => .int (i % j)) uMod := fun wd S H x y dx dy Q d S' w rx ry h k => by
  unfold uMod at h
  split at h
  · split at h
    · rename_i hc
      cases h
      obtain rfl := rx.int_inv
      obtain rfl := ry.int_inv
      exact ⟨_, _, rfl, rfl, hc, k wd _ H w .refl (.int _)⟩
    · cases h
  · cases h
theorem so_div : SimO K cl rDivA uDiv := fun wd S H x y dx dy Q d S' w rx ry h k => by
  unfold uDiv at h
  split at h
  · split at h
    · rename_i hc
      cases h
      obtain rfl := rx.int_inv
      obtain rfl := ry.int_inv
      rcases hc.2 with z | z
      · exact .inl ⟨_, _, rfl, rfl, ⟨hc.1, z⟩, k wd _ H w .refl (.int _)⟩
      · exact .inr ⟨_, _, rfl, rfl, ⟨hc.1, z⟩, k wd _ H w .refl (.int _)⟩
    · cases h
  · cases h
theorem so_pow : SimO K cl (rI CPow fun i j => .int (i ^ j.toNat)) uPow := fun wd S H x y dx dy Q d S' w rx ry h k => by
  unfold uPow at h
  split at h
  · split at h
    · rename_i hc
      cases h
      obtain rfl := rx.int_inv
      obtain rfl := ry.int_inv
      exact ⟨_, _, rfl, rfl, hc, k wd _ H w .refl (.int _)⟩
    · cases h
  · cases h
theorem so_shl : SimO K cl (rI CPow fun i j => .int (i * 2 ^ j.toNat)) uShl := fun wd S H x y dx dy Q d S' w rx ry h k => by
  unfold uShl at h
  split at h
  · split at h
    · rename_i hc
      cases h
      obtain rfl := rx.int_inv
      obtain rfl := ry.int_inv
      exact ⟨_, _, rfl, rfl, hc, k wd _ H w .refl (.int _)⟩
    · cases h
  · cases h
theorem so_shr : SimO K cl (rI (fun _ j => 0 ≤ j) fun i j => .int (i / 2 ^ j.toNat)) uShr := fun wd S H x y dx dy Q d S' w rx ry h k => by
  unfold uShr at h
  split at h
  · split at h
    · rename_i hc
      cases h
      obtain rfl := rx.int_inv
      obtain rfl := ry.int_inv
      exact ⟨_, _, rfl, rfl, hc, k wd _ H w .refl (.int _)⟩
    · cases h
  · cases h
theorem so_band : SimO K cl (rI0 fun i j => .int (Builtin.bitAnd i j)) uBand := fun wd S H x y dx dy Q d S' w rx ry h k => by
  unfold uBand at h
  split at h
  · cases h
    obtain rfl := rx.int_inv
    obtain rfl := ry.int_inv
    exact ⟨_, _, rfl, rfl, k wd _ H w .refl (.int _)⟩
  · cases h
theorem su_neg : SimU K cl (rU fun i => .int (-i)) uNeg := fun wd S H x dx Q d S' w rx h k => by
  unfold uNeg at h
  split at h
  · cases h
    obtain rfl := rx.int_inv
    exact ⟨_, rfl, k wd _ H w .refl (.int _)⟩
  · cases h
theorem so_lt {p : Int → Int → Bool} : SimO K cl (rI0 fun i j => .bl (p i j)) (uLt p) := fun wd S H x y dx dy Q d S' w rx ry h k => by
  unfold uLt at h
  split at h
  · cases h
    obtain rfl := rx.int_inv
    obtain rfl := ry.int_inv
    exact ⟨_, _, rfl, rfl, k wd _ H w .refl (.bl _)⟩
  · cases h
/-! equality of data -/
def uEq : Val → Val → M Val := fun a b S => match toD a S, toD b S with
  | some x, some y => if SeqAt.shaped x = true ∧ SeqAt.shaped y = true then some (.pd (.bool (PyData.eqv x y)), S) else none
  | _, _ => none
def uNe : Val → Val → M Val := fun a b S => match toD a S, toD b S with
  | some x, some y => if SeqAt.shaped x = true ∧ SeqAt.shaped y = true then some (.pd (.bool (!PyData.eqv x y)), S) else none
  | _, _ => none
theorem so_eq : SimO K cl (rEqD K) uEq := fun wd S H x y dx dy Q d S' w rx ry h k => by
  unfold uEq at h
  split at h
  · rename_i e1 e2
    split at h
    · rename_i hs
      cases h
      exact ⟨_, _, w.toD rx e1, w.toD ry e2, hs.1, hs.2, k wd _ H w .refl (.bl _)⟩
    · cases h
  · cases h
theorem so_ne : SimO K cl (rNeD K) uNe := fun wd S H x y dx dy Q d S' w rx ry h k => by
  unfold uNe at h
  split at h
  · rename_i e1 e2
    split at h
    · rename_i hs
      cases h
      exact ⟨_, _, w.toD rx e1, w.toD ry e2, hs.1, hs.2, k wd _ H w .refl (.bl _)⟩
    · cases h
  · cases h
def isNon : Val → Bool
  | .pd .none => true
  | _ => false
def uIs : Val → Val → M Val := fun a b S => match b with
  | .pd .none => some (.pd (.bool (isNon a)), S)
  | _ => none
def uIsNot : Val → Val → M Val := fun a b S => match b with
  | .pd .none => some (.pd (.bool (!isNon a)), S)
  | _ => none
theorem RV.isNon {wd : Wd} {n : Nat} {H : Hp} {v : V} {d : Val} (r : RV K wd n H v d) : decide (v = .non) = isNon d := by
  cases d with
  | obj h => obtain ⟨_, rfl⟩ := r; rfl
  | pd d => cases r <;> rfl
theorem so_is : SimO K cl (fun x y H Q => y = .non ∧ Q (.bl (decide (x = .non))) H) uIs := fun wd S H x y dx dy Q d S' w rx ry h k => by
  unfold uIs at h
  split at h
  · cases h
    exact ⟨ry.none_inv, by rw [rx.isNon]; exact k wd _ H w .refl (.bl _)⟩
  · cases h
theorem so_isnot : SimO K cl (fun x y H Q => y = .non ∧ Q (.bl (!decide (x = .non))) H) uIsNot := fun wd S H x y dx dy Q d S' w rx ry h k => by
  unfold uIsNot at h
  split at h
  · cases h
    exact ⟨ry.none_inv, by rw [rx.isNon]; exact k wd _ H w .refl (.bl _)⟩
  · cases h
end
end DM
set_option Elab.async false
set_option linter.all false
set_option maxRecDepth 100000
namespace DM
open PySem L2 PyProof.Rows
/-! ### items and slices -/
theorem atI_rel {K : PySem.W.Frag} {wd : Wd} {n : Nat} {H : Hp} {vs : List V} {ds : List Val} {i : Int} {d : Val} (r : RVs K wd n H vs ds) (h : atI ds i = some d) : ∃ v, atI vs i = some v ∧ RV K wd n H v d := by
  unfold atI at h ⊢
  rw [r.length]
  cases e : ixN ds.length i with
  | none => rw [e] at h; cases h
  | some j =>
    rw [e] at h
    exact r.get h
theorem atI_map {i : Int} {xs : List PyData} : atI (xs.map Val.pd) i = (atI xs i).map Val.pd := by
  unfold atI
  rw [List.length_map]
  cases ixN xs.length i with
  | none => rfl
  | some j => simp
def uIx : Val → Val → M Val := fun a b S => match b with
  | .pd (.int i) => match a with
    | .pd (.tuple xs) => (atI xs i).map fun d => (.pd d, S)
    | .pd (.str z) => if z.length ≤ 16777216 then (atI z.cps.toList i).map fun c => (.pd (.str ⟨#[c]⟩), S) else none
    | a => (getV a S).bind fun xs => (atI xs i).map fun d => (d, S)
  | _ => none
theorem so_ix {K : PySem.W.Frag} {cl : Nat → Addr} : SimO K cl (rIx K) uIx := fun wd S H x y dx dy Q d S' w rx ry h k => by
  unfold uIx at h
  split at h
  · rename_i i
    obtain rfl := ry.int_inv
    split at h
    · rename_i xs
      cases e : atI xs i with
      | none => rw [e] at h; cases h
      | some c =>
        rw [e] at h
        cases h
        obtain ⟨a, vs, rfl, f, r⟩ := rx.tup_inv
        obtain ⟨v, h1, h2⟩ := atI_rel (d := .pd c) r.rvs (by rw [atI_map, e]; rfl)
        exact .inr (.inl ⟨a, vs, i, v, rfl, rfl, f.sq, h1, k wd v H w .refl h2⟩)
    · rename_i z
      split at h
      · rename_i hz
        cases e : atI z.cps.toList i with
        | none => rw [e] at h; cases h
        | some c =>
          rw [e] at h
          cases h
          obtain rfl := rx.str_inv
          exact .inr (.inr ⟨z, i, c, rfl, rfl, by rw [szl]; exact hz, e, k wd _ H w .refl (.str _)⟩)
      · cases h
    · cases e : getV dx S with
      | none => rw [e] at h; cases h
      | some xs =>
        rw [e] at h
        have h : (atI xs i).map (fun d => (d, S)) = some (d, S') := h
        cases e2 : atI xs i with
        | none => rw [e2] at h; cases h
        | some c =>
          rw [e2] at h
          cases h
          obtain ⟨a, vs, rfl, f, r⟩ := w.getV rx e
          obtain ⟨v, h1, h2⟩ := atI_rel r e2
          exact .inl ⟨a, vs, i, v, rfl, rfl, f, h1, k wd v H w .refl h2⟩
  · cases h
theorem de_ix {X : Cx} {cl : Nat → Addr} {pos : Pos} {a b : Expr} {fa fb : DEnv → M Val} (ha : DE X cl a fa) (hb : DE X cl b fb) (hs : PlainIx b := by exact fun _ _ => rfl) : DE X cl (.Subscript a b pos) (eO uIx fa fb) := by
  obtain ⟨ta, pa, sa⟩ := ha
  obtain ⟨tb, pb, sb⟩ := hb
  exact ⟨_, pe_ix ix_seq pa pb hs, sim_o so_ix sa sb⟩
/-- a slice's part -/
def fNo : DEnv → M (Option Int) := fun _ S => some (none, S)
def fPart (f : DEnv → M Val) : DEnv → M (Option Int) := fun ρ S => bindR (f ρ S) fun d S1 => match d with
  | .pd (.int i) => some (some i, S1)
  | _ => none
def DO (X : Cx) (cl : Nat → Addr) (e : Option Expr) (f : DEnv → M (Option Int)) : Prop := ∃ t, PO X e t ∧ ∀ (wd : Wd) (σ : L2.St) (ρ : DEnv) (S : Store) (H : Hp) (Q : Option Int → Hp → Prop) (o : Option Int) (S' : Store), WR X.K cl wd S H → ER X.K wd S.length H σ ρ → f ρ S = some (o, S') →
  (∀ wd' H', WR X.K cl wd' S' H' → Ext wd S H wd' S' H' → Q o H') → t σ H Q
def cutP {α : Type} (xs : List α) (lo hi : Option Int) : List α := (xs.drop (HT.sIx xs.length 0 lo)).take (HT.sIx xs.length xs.length hi - HT.sIx xs.length 0 lo)
def uSl (d : Val) (lo hi : Option Int) : M Val := fun S => match d with
  | .pd (.tuple xs) => if HT.sIx xs.length 0 lo = 0 ∧ HT.sIx xs.length xs.length hi = xs.length then none else some (.pd (.tuple (cutP xs lo hi)), S)
  | d => (getL d S).map fun xs => (.pd (.list (cutP xs lo hi)), S)
def uSlM (d : Val) (lo hi : Option Int) : M Val := fun S => (getL d S).map fun xs => (.obj S.length, S ++ [.lst (cutP xs lo hi)])
def eSl (u : Val → Option Int → Option Int → M Val) (fe : DEnv → M Val) (fl fh : DEnv → M (Option Int)) : DEnv → M Val := fun ρ S => bindR (fe ρ S) fun d S1 => bindR (fl ρ S1) fun lo S2 => bindR (fh ρ S2) fun hi S3 => u d lo hi S3
def rSlA (K : PySem.W.Frag) : V → Option Int → Option Int → Hp → VK → Prop := fun x lo hi H Q => rSlL K x lo hi H Q ∨ rSlT K x lo hi H Q
section
variable {X : Cx} {cl : Nat → Addr} {pos p2 : Pos} {e : Expr} {lo hi : Option Expr} {fe : DEnv → M Val} {fl fh : DEnv → M (Option Int)}
theorem do_none : DO X cl none fNo := ⟨_, po_none, fun wd σ ρ S H Q o S' w q h k => by cases h; exact k wd H w .refl⟩
theorem do_some (he : DE X cl e fe) : DO X cl (some e) (fPart fe) := by
  obtain ⟨t, p, s⟩ := he
  refine ⟨_, po_some p, fun wd σ ρ S H Q o S' w q h k => ?_⟩
  obtain ⟨d, S1, h1, h⟩ := bindR_inv h
  refine s wd σ ρ S H _ d S1 w q h1 fun wd1 v H1 w1 x1 r1 => ?_
  split at h
  · cases h
    exact ⟨_, r1.int_inv, k wd1 H1 w1 x1⟩
  · cases h
theorem RpAll.cut {K : PySem.W.Frag} {H : Hp} {O : Addr → Prop} {vs : List V} {ds : List PyData} (r : RpAll K H O vs ds) (lo hi : Option Int) : RpAll K H O (cutV vs lo hi) (cutP ds lo hi) := by
  unfold cutV cutP
  rw [r.length]
  exact (r.drop _).take _
def SimSl (K : PySem.W.Frag) (cl : Nat → Addr) (r : V → Option Int → Option Int → Hp → VK → Prop) (u : Val → Option Int → Option Int → M Val) : Prop := ∀ (wd : Wd) (S : Store) (H : Hp) (x : V) (dx : Val) (lo hi : Option Int) (Q : VK) (d : Val) (S' : Store), WR K cl wd S H → RV K wd S.length H x dx → u dx lo hi S = some (d, S') →
  (∀ wd' v H', WR K cl wd' S' H' → Ext wd S H wd' S' H' → RV K wd' S'.length H' v d → Q v H') → r x lo hi H Q
theorem sl_a {K : PySem.W.Frag} : SimSl K cl (rSlA K) uSl := fun wd S H x dx lo hi Q d S' w rx h k => by
  unfold uSl at h
  split at h
  · rename_i xs
    split at h
    · cases h
    · rename_i hn
      cases h
      obtain ⟨a, vs, rfl, f, r⟩ := rx.tup_inv
      refine .inr ⟨a, vs, rfl, f.sq, by rw [r.length]; exact hn, fun p hp => ?_⟩
      obtain ⟨w2, x2, r2⟩ := w.newT (r.cut lo hi) hp
      exact k _ _ _ w2 x2 r2
  · cases e : getL dx S with
    | none => rw [e] at h; cases h
    | some xs =>
      rw [e] at h
      cases h
      obtain ⟨a, vs, rfl, f, r⟩ := w.getL rx e
      refine .inl ⟨a, vs, rfl, f, fun p hp => ?_⟩
      obtain ⟨w2, x2, r2⟩ := w.newF (r.cut lo hi) hp
      exact k _ _ _ w2 x2 r2
theorem sl_m {K : PySem.W.Frag} : SimSl K cl (rSlA K) uSlM := fun wd S H x dx lo hi Q d S' w rx h k => by
  unfold uSlM at h
  cases e : getL dx S with
  | none => rw [e] at h; cases h
  | some xs =>
    rw [e] at h
    cases h
    obtain ⟨a, vs, rfl, f, r⟩ := w.getL rx e
    refine .inl ⟨a, vs, rfl, f, fun p hp => ?_⟩
    obtain ⟨wd2, w2, x2, r2⟩ := w.newL (r.cut lo hi) hp
    exact k _ _ _ w2 x2 r2
theorem de_sl {u : Val → Option Int → Option Int → M Val} (hu : SimSl X.K cl (rSlA X.K) u) (he : DE X cl e fe) (hl : DO X cl lo fl) (hh : DO X cl hi fh) : DE X cl (.Subscript e (.Slice lo hi none p2) pos) (eSl u fe fl fh) := by
  obtain ⟨t, p, s⟩ := he
  obtain ⟨t1, p1, s1⟩ := hl
  obtain ⟨t2, p2', s2⟩ := hh
  refine ⟨_, pe_slice (sl_list.or sl_tup) p p1 p2', fun wd σ ρ S H Q d S' w q h k => ?_⟩
  obtain ⟨x, S1, h1, h⟩ := bindR_inv h
  obtain ⟨l, S2, h2, h⟩ := bindR_inv h
  obtain ⟨u', S3, h3, h⟩ := bindR_inv h
  refine s wd σ ρ S H _ x S1 w q h1 fun wd1 v1 H1 w1 x1 r1 => ?_
  refine s1 wd1 σ ρ S1 H1 _ l S2 w1 (q.ext x1) h2 fun wd2 H2 w2 x2 => ?_
  refine s2 wd2 σ ρ S2 H2 _ u' S3 w2 ((q.ext x1).ext x2) h3 fun wd3 H3 w3 x3 => ?_
  exact hu wd3 S3 H3 v1 x l u' Q d S' w3 ((r1.ext x2).ext x3) h fun wd4 v4 H4 w4 x4 r4 => k wd4 v4 H4 w4 (((x1.trans x2).trans x3).trans x4) r4
end
/-! ### xs[i] = v -/
def SimSet (K : PySem.W.Frag) (cl : Nat → Addr) (t : TSet) (u : Val → Val → Val → M Unit) : Prop := ∀ (wd : Wd) (S : Store) (H : Hp) (o i v : V) (od id' vd : Val) (Q : Hp → Prop) (S' : Store), WR K cl wd S H → RV K wd S.length H o od → RV K wd S.length H i id' → RV K wd S.length H v vd → u od id' vd S = some ((), S') →
  (∀ wd' H', WR K cl wd' S' H' → Ext wd S H wd' S' H' → Q H') → t o i v H Q
def uSet : Val → Val → Val → M Unit := fun o i v S => match o, i with
  | .obj h, .pd (.int j) => match S[h]? with
    | some (.lst xs) => match v with
      | .pd d => (ixN xs.length j).map fun n => ((), S.set h (.lst (xs.set n d)))
      | .obj _ => none
    | some (.lsv xs) => (ixN xs.length j).map fun n => ((), S.set h (.lsv (xs.set n v)))
    | _ => none
  | _, _ => none
theorem ss_list {K : PySem.W.Frag} {cl : Nat → Addr} : SimSet K cl rSetL uSet := fun wd S H o i v od id' vd Q S' w ro ri rv h k => by
  unfold uSet at h
  split at h
  · rename_i hh j
    obtain rfl := ri.int_inv
    obtain ⟨hi, rfl⟩ := ro
    split at h
    · rename_i xs e
      split at h
      · rename_i d
        cases en : ixN xs.length j with
        | none => rw [en] at h; cases h
        | some n =>
          rw [en] at h
          cases h
          obtain ⟨f, vs, e1, r⟩ := w.ob hh _ e
          obtain ⟨wd2, w2, x2⟩ := w.setL e (r.set n rv)
          exact ⟨_, vs, j, n, rfl, rfl, e1, by rw [r.length]; exact en, k _ _ w2 x2⟩
      · cases h
    · rename_i xs e
      cases en : ixN xs.length j with
      | none => rw [en] at h; cases h
      | some n =>
        rw [en] at h
        cases h
        obtain ⟨f, vs, e1, r⟩ := w.ob hh _ e
        obtain ⟨wd2, w2, x2⟩ := w.setLV e (.inr ⟨_, rfl⟩) (r.set n rv)
        exact ⟨_, vs, j, n, rfl, rfl, e1, by rw [r.length]; exact en, k _ _ w2 x2⟩
    · cases h
  · cases h
def nSub (u : Val → Val → Val → M Unit) (fo fi : DEnv → M Val) : Val → DEnv → M DEnv := fun d ρ S => bindR (fo ρ S) fun o S1 => bindR (fi ρ S1) fun i S2 => bindR (u o i d S2) fun _ S3 => some (ρ, S3)
theorem dg_sub {X : Cx} {cl : Nat → Addr} {pos : Pos} {o i : Expr} {fo fi : DEnv → M Val} {t : TSet} {u : Val → Val → Val → M Unit} (hs : PSet X t) (hu : SimSet X.K cl t u) (ho : DE X cl o fo) (hi : DE X cl i fi) (ha : ∀ v, assign (.Subscript o i pos) X.env v = (do
      let ov ← holding [v] (eval o X.env)
      let iv ← holding [v, ov] (eval i X.env)
      standAt pos
      holding [v, ov, iv] (setItem ov iv v)
      release [v, ov, iv] []) := by intro _; rfl) : DG X cl (.Subscript o i pos) (nSub u fo fi) := by
  obtain ⟨t1, p1, s1⟩ := ho
  obtain ⟨t2, p2, s2⟩ := hi
  refine ⟨_, pg_sub p1 p2 hs ha, fun wd σ ρ S H v d Q ρ' S' w q r h k => ?_⟩
  obtain ⟨x, S1, h1, h⟩ := bindR_inv h
  obtain ⟨y, S2, h2, h⟩ := bindR_inv h
  obtain ⟨z, S3, h3, h⟩ := bindR_inv h
  cases h
  refine s1 wd σ ρ S H _ x S1 w q h1 fun wd1 v1 H1 w1 x1 r1 => ?_
  refine s2 wd1 σ ρ S1 H1 _ y S2 w1 (q.ext x1) h2 fun wd2 v2 H2 w2 x2 r2 => ?_
  exact hu wd2 S2 H2 v1 v2 v x y d _ _ w2 (r1.ext x2) r2 ((r.ext x1).ext x2) h3 fun wd3 H3 w3 x3 => k wd3 σ H3 w3 ((x1.trans x2).trans x3) (((q.ext x1).ext x2).ext x3)
/-! ### built-in functions -/
section
variable {X : Cx} {cl : Nat → Addr} {pos p : Pos} {x : Str} {e : Expr} {es : List Expr} {fs : DEnv → M (List Val)} {id T : String} {r : List V → Hp → VK → Prop} {u : List Val → M Val}
theorem de_callB (hc : CallR X (.builtin id) r) (hu : SimC X.K cl r u) (hg : Gl X x) (hm : X.mg x = none) (hv : bootBuiltins x = some (.builtin id)) (ha : DA X cl (e :: es) fs) (hn : x ≠ "__name__" := by decide) (hdb : (x == ("__debug__" : Str)) = false := by decide)
    (he : starEach (e :: es) X.env = (false, eval e X.env) :: starEach es X.env := by rfl) (hpl : (backTo pos (starEach es X.env)).any (·.1) = false := by rfl) : DE X cl (.Call (.Name x p) (e :: es) [] pos) (eA u fs) := by
  obtain ⟨t, pa, sa⟩ := ha
  exact ⟨_, pe_callB hc hg hm hv pa hn hdb he hpl, sim_a hu sa⟩
theorem de_callTy (hc : CallR X (.type T) r) (hu : SimC X.K cl r u) (hg : Gl X x) (hm : X.mg x = none) (hv : bootBuiltins x = some (.type T)) (ha : DA X cl (e :: es) fs) (hn : x ≠ "__name__" := by decide) (hdb : (x == ("__debug__" : Str)) = false := by decide)
    (he : starEach (e :: es) X.env = (false, eval e X.env) :: starEach es X.env := by rfl) (hpl : (backTo pos (starEach es X.env)).any (·.1) = false := by rfl) : DE X cl (.Call (.Name x p) (e :: es) [] pos) (eA u fs) := by
  obtain ⟨t, pa, sa⟩ := ha
  exact ⟨_, pe_callTy hc hg hm hv pa hn hdb he hpl, sim_a hu sa⟩
end
section
variable {K : PySem.W.Frag} {cl : Nat → Addr}
theorem RVs.one_inv {wd : Wd} {n : Nat} {H : Hp} {vs : List V} {d : Val} (r : RVs K wd n H vs [d]) : ∃ v, vs = [v] ∧ RV K wd n H v d := by
  cases r with
  | cons r t => cases t; exact ⟨_, rfl, r⟩
theorem RVs.two_inv {wd : Wd} {n : Nat} {H : Hp} {vs : List V} {d e : Val} (r : RVs K wd n H vs [d, e]) : ∃ v u, vs = [v, u] ∧ RV K wd n H v d ∧ RV K wd n H u e := by
  cases r with
  | cons r t =>
    obtain ⟨u, rfl, q⟩ := t.one_inv
    exact ⟨_, u, rfl, r, q⟩
/-- int(n), int(flag) -/
def uInt : List Val → M Val := fun ds S => match ds with
  | [.pd (.int i)] => some (.pd (.int i), S)
  | [.pd (.bool b)] => some (.pd (.int (if b then 1 else 0)), S)
  | _ => none
theorem sc_int : SimC K cl (fun xs H Q => (∃ i, xs = [.int i] ∧ Q (.int i) H) ∨ ∃ k, xs = [.bl k] ∧ Q (.int (if k then 1 else 0)) H) uInt := fun wd S H xs ds Q d S' w r h k => by
  unfold uInt at h
  split at h
  · cases h
    obtain ⟨v, rfl, r1⟩ := r.one_inv
    obtain rfl := r1.int_inv
    exact .inl ⟨_, rfl, k wd _ H w .refl (.int _)⟩
  · cases h
    obtain ⟨v, rfl, r1⟩ := r.one_inv
    obtain rfl := r1.bool_inv
    exact .inr ⟨_, rfl, k wd _ H w .refl (.int _)⟩
  · cases h
def uLen : List Val → M Val := fun ds S => match ds with
  | [.pd (.str z)] => if z.length ≤ 16777216 then some (.pd (.int z.length), S) else none
  | [.pd (.tuple xs)] => some (.pd (.int xs.length), S)
  | [.obj h] => match S[h]? with
    | some (.lst xs) => some (.pd (.int xs.length), S)
    | some (.lock (.lst xs)) => some (.pd (.int xs.length), S)
    | some (.scr xs) => some (.pd (.int xs.length), S)
    | some (.lsv xs) => some (.pd (.int xs.length), S)
    | some (.lock (.lsv xs)) => some (.pd (.int xs.length), S)
    | some (.dK kvs) => some (.pd (.int kvs.length), S)
    | some (.dV kvs) => some (.pd (.int kvs.length), S)
    | some (.dT kvs) => some (.pd (.int kvs.length), S)
    | _ => none
  | [.pd (.list xs)] => some (.pd (.int xs.length), S)
  | _ => none
theorem PKV.length {κ : Type} {R : V → PyData → Prop} : ∀ {ks : List (κ × V)} {kvs : List (κ × PyData)}, PKV R ks kvs → ks.length = kvs.length := fun h => Paired.length h
theorem PKW.length {κ : Type} {R : V → Val → Prop} : ∀ {ks : List (κ × V)} {kvs : List (κ × Val)}, PKW R ks kvs → ks.length = kvs.length := fun h => Paired.length h
def rLenA (K : PySem.W.Frag) : List V → Hp → VK → Prop := fun xs H Q => ((∃ x n, xs = [x] ∧ LenV K x H n ∧ Q (.int n) H) ∨ ∃ a kvs, xs = [V.ref a] ∧ H a = some (.dK kvs) ∧ Q (.int kvs.length) H) ∨ rLenT xs H Q
theorem cr_lenA {X : Cx} : CallR X (.builtin "len") (rLenA X.K) := (call_len.or call_lenD).or call_len_dT
theorem sc_len : SimC K cl (rLenA K) uLen := fun wd S H xs ds Q d S' w r h k => by
  unfold uLen at h
  split at h
  · split at h
    · rename_i hz
      cases h
      obtain ⟨v, rfl, r1⟩ := r.one_inv
      obtain rfl := r1.str_inv
      exact .inl (.inl ⟨_, _, rfl, ⟨by rw [szl]; exact hz, rfl⟩, k wd _ H w .refl (.int _)⟩)
    · cases h
  · cases h
    obtain ⟨v, rfl, r1⟩ := r.one_inv
    obtain ⟨a, vs, rfl, f, q⟩ := r1.tup_inv
    exact .inl (.inl ⟨_, _, rfl, .inr ⟨vs, f.sq, q.length.symm⟩, k wd _ H w .refl (.int _)⟩)
  · obtain ⟨v, rfl, r1⟩ := r.one_inv
    obtain ⟨hi, rfl⟩ := r1
    split at h
    · rename_i e
      cases h
      obtain ⟨f, vs, e1, q⟩ := w.ob _ _ e
      exact .inl (.inl ⟨_, _, rfl, .inl ⟨vs, SqL.of e1, q.length.symm⟩, k wd _ H w .refl (.int _)⟩)
    · rename_i e
      cases h
      obtain ⟨f, vs, e1, q⟩ := w.ob _ _ e
      exact .inl (.inl ⟨_, _, rfl, .inl ⟨vs, SqL.of e1, q.length.symm⟩, k wd _ H w .refl (.int _)⟩)
    · rename_i e
      cases h
      obtain ⟨f, vs, e1, q⟩ := w.ob _ _ e
      exact .inl (.inl ⟨_, _, rfl, .inl ⟨vs, e1.sq, q.length.symm⟩, k wd _ H w .refl (.int _)⟩)
    · rename_i e
      cases h
      obtain ⟨f, vs, e1, q⟩ := w.ob _ _ e
      exact .inl (.inl ⟨_, _, rfl, .inl ⟨vs, SqL.of e1, q.length.symm⟩, k wd _ H w .refl (.int _)⟩)
    · rename_i e
      cases h
      obtain ⟨f, vs, e1, q⟩ := w.ob _ _ e
      exact .inl (.inl ⟨_, _, rfl, .inl ⟨vs, SqL.of e1, q.length.symm⟩, k wd _ H w .refl (.int _)⟩)
    · rename_i e
      cases h
      obtain ⟨f, vs, e1, q⟩ := w.ob _ _ e
      exact .inl (.inr ⟨_, vs, rfl, e1, by rw [q.length]; exact k wd _ H w .refl (.int _)⟩)
    · rename_i e
      cases h
      obtain ⟨f, vs, e1, q⟩ := w.ob _ _ e
      exact .inl (.inr ⟨_, vs, rfl, e1, by rw [q.length]; exact k wd _ H w .refl (.int _)⟩)
    · rename_i e
      cases h
      obtain ⟨f, vs, e1, q⟩ := w.ob _ _ e
      exact .inr ⟨_, vs, rfl, e1, by rw [q.length]; exact k wd _ H w .refl (.int _)⟩
    · cases h
  · cases h
    obtain ⟨v, rfl, r1⟩ := r.one_inv
    cases r1 with
    | lst f q => exact .inl (.inl ⟨_, _, rfl, .inl ⟨_, f.sq, q.length.symm⟩, k wd _ H w .refl (.int _)⟩)
  · cases h
def uMin2 (p : Int → Int → Int) : List Val → M Val := fun ds S => match ds with
  | [.pd (.int i), .pd (.int j)] => some (.pd (.int (p i j)), S)
  | _ => none
theorem sc_min2 {p : Int → Int → Int} : SimC K cl (fun xs H Q => ∃ i j, xs = [.int i, .int j] ∧ Q (.int (p i j)) H) (uMin2 p) := fun wd S H xs ds Q d S' w r h k => by
  unfold uMin2 at h
  split at h
  · cases h
    obtain ⟨v, u, rfl, r1, r2⟩ := r.two_inv
    obtain rfl := r1.int_inv
    obtain rfl := r2.int_inv
    exact ⟨_, _, rfl, k wd _ H w .refl (.int _)⟩
  · cases h
def uStr : List Val → M Val := fun ds S => match ds with
  | [.pd (.int i)] => if i.natAbs.log2 < 1920 then some (.pd (.str (toString i)), S) else none
  | _ => none
theorem sc_str : SimC K cl (fun xs H Q => ∃ i, xs = [.int i] ∧ i.natAbs.log2 < 1920 ∧ Q (.str (toString i)) H) uStr := fun wd S H xs ds Q d S' w r h k => by
  unfold uStr at h
  split at h
  · split at h
    · rename_i hz
      cases h
      obtain ⟨v, rfl, r1⟩ := r.one_inv
      obtain rfl := r1.int_inv
      exact ⟨_, rfl, hz, k wd _ H w .refl (.str _)⟩
    · cases h
  · cases h
/-- list(xs), tuple(xs) -/
def seqP (d : Val) (S : Store) : Option (List PyData) := match d with
  | .pd (.tuple xs) => some xs
  | d => getL d S
theorem WR.seqP {wd : Wd} {S : Store} {H : Hp} {v : V} {d : Val} (w : WR K cl wd S H) (r : RV K wd S.length H v d) {xs : List PyData} (h : seqP d S = some xs) : ∃ a vs, v = .ref a ∧ (SqL K H a vs ∨ SqT K H a vs) ∧ RpAll K H (Own wd S.length) vs xs := by
  unfold DM.seqP at h
  split at h
  · cases h
    obtain ⟨a, vs, rfl, f, q⟩ := r.tup_inv
    exact ⟨a, vs, rfl, .inr f.sq, q⟩
  · obtain ⟨a, vs, rfl, f, q⟩ := w.getL r h
    exact ⟨a, vs, rfl, .inl f, q⟩
def uList : List Val → M Val := fun ds S => match ds with
  | [d] => (seqP d S).map fun xs => (.pd (.list xs), S)
  | _ => none
def uListM : List Val → M Val := fun ds S => match ds with
  | [d] => (seqP d S).map fun xs => (.obj S.length, S ++ [.lst xs])
  | _ => none
theorem sc_list : SimC K cl (fun xs H Q => ∃ p ys, xs = [.ref p] ∧ (SqL K H p ys ∨ SqT K H p ys) ∧ ∀ l, H l = none → Q (.ref l) (upd H l (.lst ys))) uList := fun wd S H xs ds Q d S' w r h k => by
  unfold uList at h
  split at h
  · rename_i d0
    cases e : seqP d0 S with
    | none => rw [e] at h; cases h
    | some ys =>
      rw [e] at h
      cases h
      obtain ⟨v, rfl, r1⟩ := r.one_inv
      obtain ⟨a, vs, rfl, f, q⟩ := w.seqP r1 e
      refine ⟨a, vs, rfl, f, fun p hp => ?_⟩
      obtain ⟨w2, x2, r2⟩ := w.newF q hp
      exact k _ _ _ w2 x2 r2
  · cases h
theorem sc_listM : SimC K cl (fun xs H Q => ∃ p ys, xs = [.ref p] ∧ (SqL K H p ys ∨ SqT K H p ys) ∧ ∀ l, H l = none → Q (.ref l) (upd H l (.lst ys))) uListM := fun wd S H xs ds Q d S' w r h k => by
  unfold uListM at h
  split at h
  · rename_i d0
    cases e : seqP d0 S with
    | none => rw [e] at h; cases h
    | some ys =>
      rw [e] at h
      cases h
      obtain ⟨v, rfl, r1⟩ := r.one_inv
      obtain ⟨a, vs, rfl, f, q⟩ := w.seqP r1 e
      refine ⟨a, vs, rfl, f, fun p hp => ?_⟩
      obtain ⟨wd2, w2, x2, r2⟩ := w.newL q hp
      exact k _ _ _ w2 x2 r2
  · cases h
def uTuple : List Val → M Val := fun ds S => match ds with
  | [d] => (seqP d S).map fun xs => (.pd (.tuple xs), S)
  | _ => none
theorem sc_tuple : SimC K cl (fun xs H Q => ∃ p ys, xs = [.ref p] ∧ ((SqL K H p ys ∧ ∀ l, H l = none → Q (.ref l) (upd H l (.tup ys))) ∨ (SqT K H p ys ∧ Q (.ref p) H))) uTuple := fun wd S H xs ds Q d S' w r h k => by
  unfold uTuple at h
  split at h
  · rename_i d0
    cases e : seqP d0 S with
    | none => rw [e] at h; cases h
    | some ys =>
      rw [e] at h
      cases h
      obtain ⟨v, rfl, r1⟩ := r.one_inv
      unfold DM.seqP at e
      split at e
      · cases e
        have r1' := r1
        obtain ⟨a, vs, rfl, f, q⟩ := r1.tup_inv
        exact ⟨a, vs, rfl, .inr ⟨f.sq, k wd _ H w .refl r1'⟩⟩
      · obtain ⟨a, vs, rfl, f, q⟩ := w.getL r1 e
        refine ⟨a, vs, rfl, .inl ⟨f, fun p hp => ?_⟩⟩
        obtain ⟨w2, x2, r2⟩ := w.newT q hp
        exact k _ _ _ w2 x2 r2
  · cases h
/-- sum of rgI -/
def allInt : List PyData → Option (List Int)
  | [] => some []
  | .int i :: r => (allInt r).map (i :: ·)
  | _ :: _ => none
theorem allInt_eq : ∀ {ds : List PyData} {xs : List Int}, allInt ds = some xs → ds = xs.map PyData.int
  | [], _, h => by cases h; rfl
  | .int i :: r, xs, h => by
    unfold allInt at h
    cases hr : allInt r with
    | none => rw [hr] at h; cases h
    | some ys =>
      rw [hr] at h
      cases h
      rw [allInt_eq hr]
      rfl
  | .none :: _, _, h => by cases h
  | .bool _ :: _, _, h => by cases h
  | .str _ :: _, _, h => by cases h
  | .list _ :: _, _, h => by cases h
  | .tuple _ :: _, _, h => by cases h
  | .dict _ :: _, _, h => by cases h
@[simp] theorem allInt_map : ∀ (xs : List Int), allInt (xs.map PyData.int) = some xs
  | [] => rfl
  | x :: xs => by simp [allInt, allInt_map xs]
theorem RpAll.ints {H : Hp} {O : Addr → Prop} : ∀ {xs : List Int} {vs : List V}, RpAll K H O vs (xs.map PyData.int) → vs = xs.map V.int
  | [], _, h => by cases h; rfl
  | x :: xs, _, h => by
    cases h with
    | cons r t =>
      cases r
      rw [RpAll.ints t]
      rfl
def uSum : List Val → M Val := fun ds S => match ds with
  | [d] => (getL d S).bind fun xs => (allInt xs).map fun ns => (.pd (.int ns.sum), S)
  | _ => none
theorem sc_sum : SimC K cl (rSum K) uSum := fun wd S H xs ds Q d S' w r h k => by
  unfold uSum at h
  split at h
  · rename_i d0
    cases e : getL d0 S with
    | none => rw [e] at h; cases h
    | some ys =>
      rw [e] at h
      have h : (allInt ys).map (fun ns => (Val.pd (.int ns.sum), S)) = some (d, S') := h
      cases e2 : allInt ys with
      | none => rw [e2] at h; cases h
      | some ns =>
        rw [e2] at h
        cases h
        obtain ⟨v, rfl, r1⟩ := r.one_inv
        obtain ⟨a, vs, rfl, f, q⟩ := w.getL r1 e
        have := allInt_eq e2
        subst this
        obtain rfl := q.ints
        exact ⟨a, ns, rfl, f, k wd _ H w .refl (.int _)⟩
  · cases h
end
/-! ### methods of lists -/
def SimM (K : PySem.W.Frag) (cl : Nat → Addr) (r : V → List V → Hp → VK → Prop) (u : Val → List Val → M Val) : Prop := ∀ (wd : Wd) (S : Store) (H : Hp) (x : V) (xs : List V) (dx : Val) (ds : List Val) (Q : VK) (d : Val) (S' : Store), WR K cl wd S H → RV K wd S.length H x dx → RVs K wd S.length H xs ds → u dx ds S = some (d, S') →
  (∀ wd' v H', WR K cl wd' S' H' → Ext wd S H wd' S' H' → RV K wd' S'.length H' v d → Q v H') → r x xs H Q
/-- the kind of a value, for a built-in's method -/
def isTy (T : String) (d : Val) (S : Store) : Bool := match d with
  | .pd (.str _) => T == "str"
  | .pd (.int _) => T == "int"
  | .pd (.list _) => T == "list"
  | .obj h => match S[h]? with
    | some (.lst _) => T == "list"
    | some (.lsv _) => T == "list"
    | some (.lock (.lst _)) => T == "list"
    | some (.lock (.lsv _)) => T == "list"
    | some (.dK _) => T == "dict"
    | some (.dV _) => T == "dict"
    | some (.dT _) => T == "dict"
    | _ => false
  | _ => false
theorem WR.ty {K : PySem.W.Frag} {cl : Nat → Addr} {wd : Wd} {S : Store} {H : Hp} {v : V} {d : Val} {T : String} (w : WR K cl wd S H) (r : RV K wd S.length H v d) (h : isTy T d S = true) : tyV K T v H := by
  unfold isTy at h
  split at h
  · obtain rfl := r.str_inv
    exact eq_of_beq h
  · obtain rfl := r.int_inv
    exact eq_of_beq h
  · have e := eq_of_beq h
    cases r with
    | lst f q => exact .inl ⟨e, _, f.sq⟩
  · obtain ⟨hi, rfl⟩ := r
    split at h
    · rename_i e
      obtain ⟨f, vs, e1, q⟩ := w.ob _ _ e
      exact .inl ⟨eq_of_beq h, _, SqL.of e1⟩
    · rename_i e
      obtain ⟨f, vs, e1, q⟩ := w.ob _ _ e
      exact .inl ⟨eq_of_beq h, _, SqL.of e1⟩
    · rename_i e
      obtain ⟨f, vs, e1, q⟩ := w.ob _ _ e
      exact .inl ⟨eq_of_beq h, _, SqL.of e1⟩
    · rename_i e
      obtain ⟨f, vs, e1, q⟩ := w.ob _ _ e
      exact .inl ⟨eq_of_beq h, _, SqL.of e1⟩
    · rename_i e
      obtain ⟨f, vs, e1, q⟩ := w.ob _ _ e
      exact .inr (.inr (.inl ⟨eq_of_beq h, .inl ⟨_, e1⟩⟩))
    · rename_i e
      obtain ⟨f, vs, e1, q⟩ := w.ob _ _ e
      exact .inr (.inr (.inl ⟨eq_of_beq h, .inl ⟨_, e1⟩⟩))
    · rename_i e
      obtain ⟨f, vs, e1, q⟩ := w.ob _ _ e
      exact .inr (.inr (.inl ⟨eq_of_beq h, .inr ⟨_, e1⟩⟩))
    · cases h
  · cases h
def eBM (T : String) (u : Val → List Val → M Val) (fo : DEnv → M Val) (fa : DEnv → M (List Val)) : DEnv → M Val := fun ρ S => bindR (fo ρ S) fun o S1 => if isTy T o S1 = true then bindR (fa ρ S1) fun ds S2 => u o ds S2 else none
section
variable {X : Cx} {cl : Nat → Addr} {o e : Expr} {es : List Expr} {name : Str} {apos cpos : Pos} {T id : String} {r : V → List V → Hp → VK → Prop} {u : Val → List Val → M Val} {fo : DEnv → M Val} {fs : DEnv → M (List Val)}
theorem de_bm (pa : PlainAttrs T) (slot : Slot T name id) (hty : typeOf (.builtin id) = pure (.type "method_descriptor")) (hm : MtR X id r) (hu : SimM X.K cl r u) (ho : DE X cl o fo) (ha : DA X cl (e :: es) fs)
    (hbase : attributeBase o name X.env (eval o X.env) = eval o X.env := by rfl)
    (hfew : ((backTo cpos (starEach (e :: es) X.env)).all (fun x => !x.1) && (backToKw cpos (keywordEach [] X.env)).all (fun x => x.1.isSome)
      && decide ((e :: es).length + ([] : List Keyword).length + (if ([] : List Keyword).isEmpty then 0 else 1) < 30)) = true := by rfl)
    (hline : (apos.endLine == cpos.line) = true := by rfl) (hs : starEach (e :: es) X.env = (false, eval e X.env) :: starEach es X.env := by rfl) (hplain : (backTo cpos (starEach es X.env)).any (·.1) = false := by rfl) :
    DE X cl (.Call (.Attribute o name apos) (e :: es) [] cpos) (eBM T u fo fs) := by
  obtain ⟨t1, p1, s1⟩ := ho
  obtain ⟨t2, p2, s2⟩ := ha
  refine ⟨_, pe_bm pa slot hty hm p1 p2 hbase hfew hline hs hplain, fun wd σ ρ S H Q d S' w q h k => ?_⟩
  obtain ⟨x, S1, h1, h⟩ := bindR_inv h
  split at h
  · rename_i ht
    obtain ⟨ds, S2, h2, h⟩ := bindR_inv h
    refine s1 wd σ ρ S H _ x S1 w q h1 fun wd1 v1 H1 w1 x1 r1 => ⟨w1.ty r1 ht, ?_⟩
    refine s2 wd1 σ ρ S1 H1 _ ds S2 w1 (q.ext x1) h2 fun wd2 vs H2 w2 x2 r2 => ?_
    exact hu wd2 S2 H2 v1 vs x ds Q d S' w2 (r1.ext x2) r2 h fun wd3 v3 H3 w3 x3 r3 => k wd3 v3 H3 w3 ((x1.trans x2).trans x3) r3
  · cases h
theorem de_bm0 (pa : PlainAttrs T) (slot : Slot T name id) (hty : typeOf (.builtin id) = pure (.type "method_descriptor")) (hm : MtR X id r) (hu : SimM X.K cl r u) (ho : DE X cl o fo)
    (hbase : attributeBase o name X.env (eval o X.env) = eval o X.env := by rfl) (hline : (apos.endLine == cpos.line) = true := by rfl) : DE X cl (.Call (.Attribute o name apos) [] [] cpos) (eBM T u fo aNil) := by
  obtain ⟨t1, p1, s1⟩ := ho
  refine ⟨_, pe_bm0 pa slot hty hm p1 hbase hline, fun wd σ ρ S H Q d S' w q h k => ?_⟩
  obtain ⟨x, S1, h1, h⟩ := bindR_inv h
  split at h
  · rename_i ht
    refine s1 wd σ ρ S H _ x S1 w q h1 fun wd1 v1 H1 w1 x1 r1 => ⟨w1.ty r1 ht, ?_⟩
    exact hu wd1 S1 H1 v1 [] x [] Q d S' w1 r1 .nil h fun wd3 v3 H3 w3 x3 r3 => k wd3 v3 H3 w3 (x1.trans x3) r3
  · cases h
end
section
variable {K : PySem.W.Frag} {cl : Nat → Addr}
def uAppend : Val → List Val → M Val := fun o ds S => match o, ds with
  | .obj h, [d] => match S[h]? with
    | some (.lst xs) => if xs.length < 16777216 then match d with
      | .pd d => some (.pd .none, S.set h (.lst (xs ++ [d])))
      | .obj i => if xs = [] then some (.pd .none, S.set h (.lsv [.obj i])) else none
      else none
    | some (.lsv xs) => if xs.length < 16777216 then some (.pd .none, S.set h (.lsv (xs ++ [d]))) else none
    | _ => none
  | _, _ => none
theorem sm_append : SimM K cl rAppend uAppend := fun wd S H x xs dx ds Q d S' w rx r h k => by
  unfold uAppend at h
  split at h
  · rename_i hh d0
    obtain ⟨hi, rfl⟩ := rx
    obtain ⟨v, rfl, rv⟩ := r.one_inv
    split at h
    · rename_i ys e
      obtain ⟨f, vs, e1, q⟩ := w.ob hh _ e
      split at h
      · rename_i hl
        split at h
        · cases h
          obtain ⟨wd2, w2, x2⟩ := w.setL e (q.append (.cons rv .nil))
          exact ⟨_, vs, v, rfl, rfl, e1, by rw [q.length, szl]; exact hl, k _ _ _ w2 x2 .non⟩
        · split at h
          · rename_i hn
            cases h
            subst hn
            cases q
            obtain ⟨wd2, w2, x2⟩ := w.setLV e (.inl ⟨_, rfl⟩) (RVs.cons rv .nil)
            exact ⟨_, [], v, rfl, rfl, e1, by rw [szl]; decide, k _ _ _ w2 x2 .non⟩
          · cases h
      · cases h
    · rename_i ys e
      obtain ⟨f, vs, e1, q⟩ := w.ob hh _ e
      split at h
      · rename_i hl
        cases h
        obtain ⟨wd2, w2, x2⟩ := w.setLV e (.inr ⟨_, rfl⟩) (q.append (.cons rv .nil))
        exact ⟨_, vs, v, rfl, rfl, e1, by rw [q.length, szl]; exact hl, k _ _ _ w2 x2 .non⟩
      · cases h
    · cases h
  · cases h
end
/-! ### what a loop walks -/
def iList (f : DEnv → M Val) : DEnv → M Iter := fun ρ S => bindR (f ρ S) fun d S1 => match d with
  | .pd (.list xs) => some (⟨xs.map Val.pd, none⟩, S1)
  | .pd (.tuple _) => none
  | .obj h => match S1[h]? with
    | some (.lst xs) => some (⟨xs.map Val.pd, some (h, .lst xs)⟩, S1.set h (.lock (.lst xs)))
    | some (.lsv xs) => some (⟨xs, some (h, .lsv xs)⟩, S1.set h (.lock (.lsv xs)))
    | some (.lock (.lst xs)) => some (⟨xs.map Val.pd, none⟩, S1)
    | some (.lock (.lsv xs)) => some (⟨xs, none⟩, S1)
    | _ => none
  | _ => none
def iTup (f : DEnv → M Val) : DEnv → M Iter := fun ρ S => bindR (f ρ S) fun d S1 => match d with
  | .pd (.tuple xs) => some (⟨xs.map Val.pd, none⟩, S1)
  | _ => none
def rgI (lo : Int) (n : Nat) : List Val := (List.range n).map fun i => .pd (.int (lo + (i : Nat)))
def iRng1 (f : DEnv → M Val) : DEnv → M Iter := fun ρ S => bindR (f ρ S) fun d S1 => match d with
  | .pd (.int j) => if -(2 ^ 62) ≤ j ∧ j < 2 ^ 62 then some (⟨rgI 0 j.toNat, none⟩, S1) else none
  | _ => none
def iRng2 (f g : DEnv → M Val) : DEnv → M Iter := fun ρ S => bindR (f ρ S) fun d S1 => bindR (g ρ S1) fun e S2 => match d, e with
  | .pd (.int i), .pd (.int j) => if -(2 ^ 62) ≤ i ∧ i < 2 ^ 62 ∧ -(2 ^ 62) ≤ j ∧ j < 2 ^ 62 then some (⟨rgI i (j - i).toNat, none⟩, S2) else none
  | _, _ => none
section
variable {X : Cx} {cl : Nat → Addr} {tg e a b : Expr} {f g : DEnv → M Val} {pos p : Pos}
theorem itOk_list {K : PySem.W.Frag} {a : Addr} {items : List Val} {wd : Wd} {S : Store} {H : Hp} (h : ∀ wd' S' H', WR K cl wd' S' H' → Ext wd S H wd' S' H' → ∃ vs, SqL K H' a vs ∧ RVs K wd' S'.length H' vs items) : ItOk K cl (Itl K a) items wd S H := fun wd' S' H' w x => by
  obtain ⟨vs, e, r⟩ := h wd' S' H' w x
  refine ⟨⟨vs, e, Nat.le_of_eq r.length⟩, fun i hi => ?_⟩
  have hi' : i < vs.length := by rw [r.length]; exact hi
  refine ⟨⟨vs, vs[i], e, by simp [hi']⟩, fun y H'' yl => ?_⟩
  obtain ⟨rfl, yl⟩ := yl
  obtain ⟨d, hd, rd⟩ := r.get' (yl vs (e))
  exact ⟨d, hd, w, .refl, rd⟩
theorem di_list (he : DE X cl e f) : DI X cl tg e (iList f) := by
  obtain ⟨t, p, s⟩ := he
  refine ⟨_, pi_list p, fun wd σ ρ S H R it S' w q h k => ?_⟩
  obtain ⟨d, S1, h1, h⟩ := bindR_inv h
  refine s wd σ ρ S H _ d S1 w q h1 fun wd1 v1 H1 w1 x1 r1 => ?_
  split at h
  · cases h
    cases r1 with
    | lst fz ra => exact ⟨_, rfl, ⟨_, fz.sq⟩, k wd1 _ H1 _ w1 x1 rfl w1 (itOk_list fun wd' S' H' w' x' => ⟨_, (fz.mono x'.keep).sq, RVs.ext x' ra.rvs⟩)⟩
  · cases h
  · rename_i hh
    obtain ⟨hi, rfl⟩ := r1
    split at h
    · rename_i xs ex
      cases h
      obtain ⟨fq, vs, e1, ra⟩ := w1.ob hh _ ex
      obtain ⟨w2, x2⟩ := w1.lockL ex (.inl ⟨_, rfl⟩)
      refine ⟨_, rfl, ⟨_, SqL.of e1⟩, k wd1 S1 H1 _ w1 x1 ⟨ex, fun u z => (by cases z), rfl⟩ w2 (itOk_list fun wd' S' H' w' x' => ?_)⟩
      obtain ⟨l1, l2⟩ := x'.lock hh (.lst xs) (List.getElem?_set_self (lt_of_get ex))
      exact ⟨vs, SqL.of (by rw [l2]; exact e1), RVs.ext (x2.trans x') ra.rvs⟩
    · rename_i xs ex
      cases h
      obtain ⟨fq, vs, e1, ra⟩ := w1.ob hh _ ex
      obtain ⟨w2, x2⟩ := w1.lockL ex (.inr ⟨_, rfl⟩)
      refine ⟨_, rfl, ⟨_, SqL.of e1⟩, k wd1 S1 H1 _ w1 x1 ⟨ex, fun u z => (by cases z), rfl⟩ w2 (itOk_list fun wd' S' H' w' x' => ?_)⟩
      obtain ⟨l1, l2⟩ := x'.lock hh (.lsv xs) (List.getElem?_set_self (lt_of_get ex))
      exact ⟨vs, SqL.of (by rw [l2]; exact e1), RVs.ext (x2.trans x') ra⟩
    · rename_i xs ex
      cases h
      obtain ⟨fq, vs, e1, ra⟩ := w1.ob hh _ ex
      refine ⟨_, rfl, ⟨_, SqL.of e1⟩, k wd1 _ H1 _ w1 x1 rfl w1 (itOk_list fun wd' S' H' w' x' => ?_)⟩
      obtain ⟨l1, l2⟩ := x'.lock hh (.lst xs) ex
      exact ⟨vs, SqL.of (by rw [l2]; exact e1), RVs.ext x' ra.rvs⟩
    · rename_i xs ex
      cases h
      obtain ⟨fq, vs, e1, ra⟩ := w1.ob hh _ ex
      refine ⟨_, rfl, ⟨_, SqL.of e1⟩, k wd1 _ H1 _ w1 x1 rfl w1 (itOk_list fun wd' S' H' w' x' => ?_)⟩
      obtain ⟨l1, l2⟩ := x'.lock hh (.lsv xs) ex
      exact ⟨vs, SqL.of (by rw [l2]; exact e1), RVs.ext x' ra⟩
    · cases h
  · cases h
theorem di_tup (he : DE X cl e f) : DI X cl tg e (iTup f) := by
  obtain ⟨t, p, s⟩ := he
  refine ⟨_, pi_tup p, fun wd σ ρ S H R it S' w q h k => ?_⟩
  obtain ⟨d, S1, h1, h⟩ := bindR_inv h
  refine s wd σ ρ S H _ d S1 w q h1 fun wd1 v1 H1 w1 x1 r1 => ?_
  split at h
  · cases h
    obtain ⟨a, vs, rfl, fz, ra⟩ := r1.tup_inv
    refine ⟨_, rfl, ⟨_, fz.sq⟩, k wd1 _ H1 _ w1 x1 rfl w1 fun wd' S' H' w' x' => ?_⟩
    have fz' := fz.mono x'.keep
    have r' := RVs.ext x' ra.rvs
    refine ⟨⟨vs, fz'.sq, Nat.le_of_eq r'.length⟩, fun i hi => ?_⟩
    have hi' : i < vs.length := by rw [r'.length]; exact hi
    refine ⟨⟨vs, vs[i], fz'.sq, by simp [hi']⟩, fun y H'' yl => ?_⟩
    obtain ⟨rfl, yl⟩ := yl
    obtain ⟨d, hd, rd⟩ := r'.get' (yl vs fz'.sq)
    exact ⟨d, hd, w', .refl, rd⟩
  · cases h
theorem itOk_rng {K : PySem.W.Frag} {lo : Int} {n : Nat} {wd : Wd} {S : Store} {H : Hp} : ItOk K cl (Itr lo n) (rgI lo n) wd S H := fun wd' S' H' w x => by
  have hl : (rgI lo n).length = n := by simp [rgI]
  refine ⟨by rw [hl]; exact Nat.le_refl _, fun i hi => ?_⟩
  rw [hl] at hi
  refine ⟨hi, fun y H'' yl => ?_⟩
  obtain ⟨rfl, rfl⟩ := yl
  exact ⟨.pd (.int (lo + i)), by simp [rgI, hi], w, .refl, .int _⟩
theorem di_rng1 (hg : Gl X "range") (hm : X.mg "range" = none) (ha : DE X cl a f) (hs : starEach [a] X.env = [(false, eval a X.env)] := by rfl) : DI X cl tg (.Call (.Name "range" p) [a] [] pos) (iRng1 f) := by
  obtain ⟨t, pa, s⟩ := ha
  refine ⟨_, pi_range1 hg hm (pa_cons pa pa_nil (by rw [hs]; rfl)) hs, fun wd σ ρ S H R it S' w q h k => ?_⟩
  obtain ⟨d, S1, h1, h⟩ := bindR_inv h
  refine s wd σ ρ S H _ d S1 w q h1 fun wd1 v1 H1 w1 x1 r1 => ?_
  split at h
  · split at h
    · rename_i hj
      cases h
      obtain rfl := r1.int_inv
      exact ⟨_, rfl, hj.1, hj.2, k wd1 _ H1 _ w1 x1 rfl w1 itOk_rng⟩
    · cases h
  · cases h
theorem di_rng2 (hg : Gl X "range") (hm : X.mg "range" = none) (ha : DE X cl a f) (hb : DE X cl b g) (hs : starEach [a, b] X.env = [(false, eval a X.env), (false, eval b X.env)] := by rfl) (hs2 : starEach [b] X.env = [(false, eval b X.env)] := by rfl) : DI X cl tg (.Call (.Name "range" p) [a, b] [] pos) (iRng2 f g) := by
  obtain ⟨t, pa, s⟩ := ha
  obtain ⟨t', pb, s'⟩ := hb
  refine ⟨_, pi_range2 hg hm (pa_cons pa (pa_cons pb pa_nil (by rw [hs2]; rfl)) (by rw [hs, hs2])) hs hs2, fun wd σ ρ S H R it S' w q h k => ?_⟩
  obtain ⟨d, S1, h1, h⟩ := bindR_inv h
  obtain ⟨d2, S2, h2, h⟩ := bindR_inv h
  refine s wd σ ρ S H _ d S1 w q h1 fun wd1 v1 H1 w1 x1 r1 => ?_
  refine s' wd1 σ ρ S1 H1 _ d2 S2 w1 (q.ext x1) h2 fun wd2 v2 H2 w2 x2 r2 => ?_
  split at h
  · split at h
    · rename_i hj
      cases h
      obtain rfl := r1.int_inv
      obtain rfl := r2.int_inv
      exact ⟨_, _, rfl, hj, k wd2 _ H2 _ w2 (x1.trans x2) rfl w2 itOk_rng⟩
    · cases h
  · cases h
/-- the locked things are lists -/
theorem lk_list : ∀ ρ S it S', iList f ρ S = some (it, S') → ∀ h o, it.lk = some (h, o) → (∃ xs, o = Ob.lst xs) ∨ ∃ xs, o = Ob.lsv xs := fun ρ S it S' h hh o e => by
  obtain ⟨d, S1, h1, h⟩ := bindR_inv h
  split at h
  · cases h; cases e
  · cases h
  · split at h
    · cases h; cases e; exact .inl ⟨_, rfl⟩
    · cases h; cases e; exact .inr ⟨_, rfl⟩
    · cases h; cases e
    · cases h; cases e
    · cases h
  · cases h
theorem lk_tup : ∀ ρ S it S', iTup f ρ S = some (it, S') → ∀ h o, it.lk = some (h, o) → (∃ xs, o = Ob.lst xs) ∨ ∃ xs, o = Ob.lsv xs := fun ρ S it S' h hh o e => by
  obtain ⟨d, S1, h1, h⟩ := bindR_inv h
  split at h
  · cases h; cases e
  · cases h
theorem lk_rng1 : ∀ ρ S it S', iRng1 f ρ S = some (it, S') → ∀ h o, it.lk = some (h, o) → (∃ xs, o = Ob.lst xs) ∨ ∃ xs, o = Ob.lsv xs := fun ρ S it S' h hh o e => by
  obtain ⟨d, S1, h1, h⟩ := bindR_inv h
  split at h
  · split at h
    · cases h; cases e
    · cases h
  · cases h
theorem lk_rng2 : ∀ ρ S it S', iRng2 f g ρ S = some (it, S') → ∀ h o, it.lk = some (h, o) → (∃ xs, o = Ob.lst xs) ∨ ∃ xs, o = Ob.lsv xs := fun ρ S it S' h hh o e => by
  obtain ⟨d, S1, h1, h⟩ := bindR_inv h
  obtain ⟨d2, S2, h2, h⟩ := bindR_inv h
  split at h
  · split at h
    · cases h; cases e
    · cases h
  · cases h
end
end DM
set_option Elab.async false
set_option linter.all false
set_option maxRecDepth 100000
namespace DM
open PySem L2 PyProof.Rows
section
variable {P : Program} {w : World} {K : PySem.W.Frag} {mg : Str → Option Value} {base : Heap} {cl : Nat → Addr}
theorem fn_okD {x qual : Str} {params : Arguments} {st : List Stmt} {scope : Scope} {dvs : List V} {kws : List (Str × V)} {f : Addr} {fd : FuncData} {N ps : List Str} {k : Nat} {g : DEnv → M Fl} {ex : Nat → Val → M Val} (F : FunD K x qual params st scope dvs kws f fd) (Sc : FnScope N ps scope) (hx : SimX K cl ex)
    (body : ∀ (cdv : Value) (A : Around) (outer : List Env) (s : Shared) (H : Hp) (E : XK), Room k (A.deeper (envOfC qual scope s.heap.objs.size f cdv)) → DSs (cxOf CX0 P w K mg base N qual scope f cdv A outer s H E).nox cl st g) :
    FnOk P w K mg base CX0 (k + 1) f fd ps (spOf K cl ps.length (fnF N.length g ex)) := by
  refine F.ok Sc (fun vs H Q E h => ?_) fun cdv A outer s H vs Q E hr h => ?_
  · obtain ⟨wd, S, ds, d, S', _, r, l, _⟩ := h
    rw [r.length]; exact l
  · obtain ⟨wd, S, ds, d, S', w0, r, l, hF, kq⟩ := h
    obtain ⟨t, p, s⟩ := body cdv A outer s H E hr
    refine ⟨t, p.nox, ?_⟩
    have er : ER K wd S.length H (L2.start N vs) (startD N.length ds) := by
      refine ⟨by simp [L2.start, startD, r.length], fun i d e => ?_⟩
      unfold startD at e
      by_cases hi : i < ds.length
      · rw [List.getElem?_append_left (by simpa using hi), List.getElem?_map] at e
        cases hd : ds[i]? with
        | none => rw [hd] at e; cases e
        | some d' =>
          rw [hd] at e
          cases e
          obtain ⟨v, h1, h2⟩ := r.get hd
          refine ⟨v, ?_, h2⟩
          unfold L2.start
          rw [List.getElem?_append_left (by simpa using lt_of_get h1), List.getElem?_map, h1]
          rfl
      · rw [List.getElem?_append_right (by simpa using hi), List.getElem?_replicate] at e
        split at e <;> cases e
    unfold fnF at hF
    split at hF
    · rename_i ρ' S1 e1
      refine s wd _ _ S H _ _ S1 w0 er e1 fun wd1 σ1 H1 w1 x1 q1 => ?_
      obtain ⟨wd2, w2, x2, r2⟩ := hx wd S H wd1 S1 H1 .non (.pd .none) d S' w0 w1 x1 .non hF
      exact kq wd2 .non H1 w2 x2 r2
    · rename_i d1 S1 e1
      refine s wd _ _ S H _ _ S1 w0 er e1 fun wd1 v1 H1 w1 x1 r1 => ?_
      obtain ⟨wd2, w2, x2, r2⟩ := hx wd S H wd1 S1 H1 v1 d1 d S' w0 w1 x1 r1 hF
      exact kq wd2 v1 H1 w2 x2 r2
    · cases hF
end
/-- the deepest turn of a recursion: not reached -/
theorem fn_okN {P : Program} {w : World} {K : PySem.W.Frag} {mg : Str → Option Value} {base : Heap} {cl : Nat → Addr} {x qual : Str} {params : Arguments} {st : List Stmt} {scope : Scope} {dvs : List V} {kws : List (Str × V)} {f : Addr} {fd : FuncData} {N ps : List Str} (F : FunD K x qual params st scope dvs kws f fd) (Sc : FnScope N ps scope) :
    FnOk P w K mg base CX0 1 f fd ps (spOf K cl ps.length fun _ _ => none) := by
  refine F.ok (k := 0) Sc (fun vs H Q E h => ?_) fun cdv A outer s H vs Q E hr h => ?_
  · obtain ⟨wd, S, ds, d, S', _, r, l, hF, _⟩ := h
    cases hF
  · obtain ⟨wd, S, ds, d, S', w0, r, l, hF, kq⟩ := h
    cases hF
/-- the law's def at the script -/
theorem law_sp {K : PySem.W.Frag} {cl : Nat → Addr} {F : List Val → M Val} {n : Nat} (h : ∀ ns : List Int, ns.length ≤ n → ∃ S', F [.obj 0] [.scr (ns.map PyData.int)] = some (.pd (.bool true), S')) (H : Hp) (a : Addr) (ns : List Int) (hl : ns.length ≤ n) (hS : SqL K H a (ns.map V.int)) :
    spOf K cl 1 F [.ref a] H (fun v _ => v = .bl true) (fun _ _ _ => False) := by
  obtain ⟨S', hF⟩ := h ns hl
  have no : ∀ b, ¬ Own ⟨fun _ => a, fun _ _ => False, fun _ => False⟩ 1 b := by
    rintro b (z | ⟨_, _, z⟩)
    · exact z
    · exact z
  have ra : ∀ ms : List Int, RpAll K H (Own ⟨fun _ => a, fun _ _ => False, fun _ => False⟩ 1) (ms.map V.int) (ms.map PyData.int) := fun ms => by
    induction ms with
    | nil => exact .nil
    | cons m ms ih => exact .cons (.int m) ih
  refine ⟨⟨fun _ => a, fun _ _ => False, fun _ => False⟩, [.scr (ns.map PyData.int)], [.obj 0], _, S', ⟨fun i o e => ?_, fun i j b _ _ z => z.elim, fun i b _ z => z.elim, fun b z => z.elim⟩, .cons ⟨by simp, rfl⟩ .nil, rfl, hF, fun wd' v H' w x r => r.bool_inv⟩
  cases i with
  | zero =>
    simp at e
    subst e
    refine ⟨fun b z => z, _, ?_, ra ns⟩
    rcases hS with h | h
    · exact .inl ⟨h, no a⟩
    · exact .inr h
  | succ i => simp at e
/-! the head's hook: HE3's facts, and a Bool of the fragment besides -/
structure Sy (fa : List He.Fa) (fn : List He.DefD) (ex : PySem.W.Frag → Bool) (K : PySem.W.Frag) : Prop where
  d : He.SaysD fa fn K
  ex : ex K = true
abbrev AlY : Type := He.AlD × Bool
def obsY (n : Nat) (fa : List He.Fa) (fn : List He.DefD) (ex : PySem.W.Frag → Bool) (g : Addr → Option Obj) : AlY := (He.obsDG n fa fn g, ex (He.frG g (He.asD g n)))
def hookY (n : Nat) (fa : List He.Fa) (fn : List He.DefD) (ex : PySem.W.Frag → Bool) : PySem.W.Hook where
  α := AlY
  obs := fun s => obsY n fa fn ex s.heap.get?
  val := fun _ => (He.valD fn, true)
  says := fun _ h => ∃ K : PySem.W.Frag, K.In h ∧ Sy fa fn ex K
  of := fun _ _ e => ⟨_, He.frG_in, ⟨congrArg (fun z : AlY => z.1) e, congrArg (fun z : AlY => z.2) e⟩⟩
  keeps := fun _ _ _ ⟨K, hK, c⟩ k => ⟨K, PySem.W.Frag.In.keeps hK k, c⟩
theorem obsY_eq {n : Nat} {fa : List He.Fa} {fn : List He.DefD} {ex : PySem.W.Frag → Bool} {g : Addr → Option Obj} {s : Shared} (h : ∀ a, g a = s.heap.get? a) : obsY n fa fn ex g = (hookY n fa fn ex).obs s := by
  have e : g = s.heap.get? := funext h
  rw [e]
  rfl
theorem Sy.fact {fa : List He.Fa} {fn : List He.DefD} {ex : PySem.W.Frag → Bool} {K : PySem.W.Frag} (c : Sy fa fn ex K) (i : Nat) {f : He.Fa} (h : fa[i]? = some f := by rfl) : f.ok K = true := c.d.fact i h
theorem Sy.def_ {fa : List He.Fa} {fn : List He.DefD} {ex : PySem.W.Frag → Bool} {K : PySem.W.Frag} (c : Sy fa fn ex K) (i : Nat) {d : He.DefD} (h : fn[i]? = some d := by rfl) : ∃ fd, FunD K d.name d.qual d.params d.body d.scope (d.dvs K) (d.kws K) (He.fAd K d.at_) fd := c.d.def_ i h
end DM
set_option Elab.async false
set_option linter.all false
set_option maxRecDepth 100000
namespace DM
open PySem L2 PyProof.Rows
/-! ### a list or a tuple that is walked -/
theorem PI.or {X : Cx} {tg e : Expr} {w1 w2 : TI} (h1 : PI X tg e w1) (h2 : PI X tg e w2) : PI X tg e (fun σ H R => w1 σ H R ∨ w2 σ H R) := ⟨fun pins s σ H R I h => by
  rcases h with h | h
  · exact h1.run pins s σ H R I h
  · exact h2.run pins s σ H R I h⟩
def iSeq (f : DEnv → M Val) : DEnv → M Iter := fun ρ S => match f ρ S with
  | some (.pd (.tuple xs), S1) => some (⟨xs.map Val.pd, none⟩, S1)
  | _ => iList f ρ S
theorem di_seq {X : Cx} {cl : Nat → Addr} {tg e : Expr} {f : DEnv → M Val} (he : DE X cl e f) : DI X cl tg e (iSeq f) := by
  obtain ⟨t1, p1, s1⟩ := di_list (tg := tg) he
  obtain ⟨t2, p2, s2⟩ := di_tup (tg := tg) he
  refine ⟨_, PI.or p1 p2, fun wd σ ρ S H R it S' w q h k => ?_⟩
  unfold iSeq at h
  split at h
  · rename_i xs S1 h1
    cases h
    refine .inr (s2 wd σ ρ S H R ⟨xs.map Val.pd, none⟩ _ w q ?_ k)
    unfold iTup
    rw [h1]
    rfl
  · exact .inl (s1 wd σ ρ S H R it S' w q h k)
theorem lk_seq {f : DEnv → M Val} : ∀ ρ S it S', iSeq f ρ S = some (it, S') → ∀ h o, it.lk = some (h, o) → (∃ xs, o = Ob.lst xs) ∨ ∃ xs, o = Ob.lsv xs := fun ρ S it S' h hh o e => by
  unfold iSeq at h
  split at h
  · cases h; cases e
  · exact lk_list ρ S it S' h hh o e
/-! ### comprehensions -/
/-- a target that is names: which slots it sets -/
structure SimGc (K : PySem.W.Frag) (cl : Nat → Addr) (t : TG) (ix : List Nat) (g : Val → DEnv → M DEnv) : Prop where
  st : ∀ (d : Val) (ρ : DEnv) (S : Store) (ρ' : DEnv) (S' : Store), g d ρ S = some (ρ', S') → S' = S
  sim : ∀ (wd : Wd) (σ : L2.St) (ρ : DEnv) (S : Store) (H : Hp) (v : V) (d : Val) (Q : L2.St → Hp → Prop) (ρ' : DEnv), WR K cl wd S H → ER K wd S.length H σ ρ → RV K wd S.length H v d → g d ρ S = some (ρ', S) →
    (∀ σ', ER K wd S.length H σ' ρ' → σ'.length = σ.length → (∀ i : Nat, i ∉ ix → σ'[i]? = σ[i]?) → Q σ' H) → t v σ H Q
structure SimGsc (K : PySem.W.Frag) (cl : Nat → Addr) (t : TGs) (ix : List Nat) (g : List Val → DEnv → M DEnv) : Prop where
  st : ∀ (d : List Val) (ρ : DEnv) (S : Store) (ρ' : DEnv) (S' : Store), g d ρ S = some (ρ', S') → S' = S
  sim : ∀ (wd : Wd) (σ : L2.St) (ρ : DEnv) (S : Store) (H : Hp) (vs : List V) (ds : List Val) (Q : L2.St → Hp → Prop) (ρ' : DEnv), WR K cl wd S H → ER K wd S.length H σ ρ → RVs K wd S.length H vs ds → g ds ρ S = some (ρ', S) →
    (∀ σ', ER K wd S.length H σ' ρ' → σ'.length = σ.length → (∀ i : Nat, i ∉ ix → σ'[i]? = σ[i]?) → Q σ' H) → t vs σ H Q
def DC (X : Cx) (cl : Nat → Addr) (tg : Expr) (ix : List Nat) (t : TG) (g : Val → DEnv → M DEnv) : Prop := PG X tg t ∧ SimGc X.K cl t ix g
def DCs (X : Cx) (cl : Nat → Addr) (tgs : List Expr) (ix : List Nat) (t : TGs) (g : List Val → DEnv → M DEnv) : Prop := PGs X tgs t ∧ SimGsc X.K cl t ix g
section
variable {X : Cx} {cl : Nat → Addr} {pos : Pos}
theorem dc_name (i : Nat) {x : Str} (hN : X.N.Nodup) (hi : X.N[i]? = some x) (hx : Loc X.env.scope x) (hf : X.fn x = true ∨ X.env.scope.names.lookup x = some .local := by first | exact .inl rfl | exact .inr rfl | assumption) : DC X cl (.Name x pos) [i] (gName i) (nName i) :=
  ⟨pg_name hN hi hx hf, ⟨fun d ρ S ρ' S' h => by cases h; rfl, fun wd σ ρ S H v d Q ρ' w q r h k => by
    cases h
    refine k _ (q.set i r) (by simp) fun j hj => ?_
    have : i ≠ j := fun z => hj (by simp [z])
    exact List.getElem?_set_ne this⟩⟩
theorem dcs_nil : DCs X cl [] [] gNil nsNil := by
  refine ⟨pgs_nil, ⟨fun d ρ S ρ' S' h => ?_, fun wd σ ρ S H vs ds Q ρ' w q r h k => ?_⟩⟩
  · cases d with
    | nil => cases h; rfl
    | cons _ _ => cases h
  · cases r with
    | nil => cases h; exact ⟨rfl, k σ q rfl fun _ _ => rfl⟩
    | cons r t => cases h
theorem dcs_cons {tg : Expr} {tgs : List Expr} {ix ix' : List Nat} {t : TG} {t' : TGs} {gg : Val → DEnv → M DEnv} {ggs : List Val → DEnv → M DEnv} (h1 : DC X cl tg ix t gg) (h2 : DCs X cl tgs ix' t' ggs) (hs : (assignEach (tg :: tgs) X.env).map (·.2) = assign tg X.env :: (assignEach tgs X.env).map (·.2) := by rfl) : DCs X cl (tg :: tgs) (ix ++ ix') (gCons t t') (nsCons gg ggs) := by
  obtain ⟨p, s⟩ := h1
  obtain ⟨p', s'⟩ := h2
  refine ⟨pgs_cons p p' hs, ⟨fun d ρ S ρ' S' h => ?_, fun wd σ ρ S H vs ds Q ρ' w q r h k => ?_⟩⟩
  · cases d with
    | nil => cases h
    | cons d ds =>
      obtain ⟨x, S1, e1, h2⟩ := bindR_inv h
      have := s.st _ _ _ _ _ e1
      subst this
      exact s'.st _ _ _ _ _ h2
  · cases r with
    | nil => cases h
    | @cons v vs d ds r rs =>
      obtain ⟨x, S1, e1, h2⟩ := bindR_inv h
      have := s.st _ _ _ _ _ e1
      subst this
      refine ⟨_, _, rfl, s.sim wd σ ρ _ H v d _ x w q r e1 fun σ' q' hl ho => ?_⟩
      refine s'.sim wd σ' x _ H vs ds Q ρ' w q' rs h2 fun σ2 q2 hl2 ho2 => k σ2 q2 (by omega) fun i hi => ?_
      rw [List.mem_append, not_or] at hi
      rw [ho2 i hi.2, ho i hi.1]
theorem dc_tup {es : List Expr} {kk n : Nat} {ix : List Nat} {t : TGs} {ggs : List Val → DEnv → M DEnv} (hc : X.calm = true) (h : DCs X cl es ix t ggs) (hn : (assignEach es X.env).length = n := by rfl) (hst : (assignEach es X.env).findIdx? (·.1) = none := by rfl) : DC X cl (.Tuple es kk pos) ix (gTup X.K n t) (nTup n ggs) := by
  obtain ⟨p, s⟩ := h
  refine ⟨pg_tup hc p hn hst, ⟨fun d ρ S ρ' S' h => ?_, fun wd σ ρ S H v d Q ρ' w q r h k => ?_⟩⟩
  · unfold nTup at h
    split at h
    · split at h
      · exact s.st _ _ _ _ _ h
      · cases h
    · split at h
      · split at h
        · exact s.st _ _ _ _ _ h
        · cases h
      · cases h
    · cases h
  · unfold nTup at h
    split at h
    · rename_i ds
      split at h
      · rename_i hl
        obtain ⟨a, vs, rfl, f, ra⟩ := r.tup_inv
        exact ⟨_, _, rfl, f.sq, by rw [ra.length]; exact hl, s.sim wd σ ρ S H _ _ Q ρ' w q ra.rvs h k⟩
      · cases h
    · rename_i hh
      obtain ⟨hi, rfl⟩ := r
      split at h
      · rename_i ds e
        split at h
        · rename_i hl
          obtain ⟨_, vs, fz, rv⟩ := w.ob hh _ e
          exact ⟨_, _, rfl, fz.sq, by rw [rv.length]; exact hl, s.sim wd σ ρ S H _ _ Q ρ' w q rv h k⟩
        · cases h
      · cases h
    · cases h
end
def tYesD : DEnv → M Bool := fun _ S => some (true, S)
def wipeD (ρ : DEnv) : List Nat → DEnv
  | [] => ρ
  | v :: vs => (wipeD ρ vs).set v none
theorem wipe_er {K : PySem.W.Frag} {wd : Wd} {n : Nat} {H : Hp} {σ : L2.St} {ρ : DEnv} (q : ER K wd n H σ ρ) : ∀ vs : List Nat, ER K wd n H (wipe σ vs) (wipeD ρ vs)
  | [] => q
  | v :: vs => by
    have ih := wipe_er q vs
    refine ⟨by simp [wipe, wipeD, ih.len], fun i d e => ?_⟩
    unfold wipeD at e
    unfold wipe
    by_cases hv : v = i
    · subst hv
      have hl : v < (wipeD ρ vs).length := by have := lt_of_get e; simpa using this
      rw [List.getElem?_set_self hl] at e
      cases e
    · rw [List.getElem?_set_ne hv] at e
      obtain ⟨x, h1, h2⟩ := ih.at' i d e
      exact ⟨x, by rw [List.getElem?_set_ne hv]; exact h1, h2⟩
theorem wipe_get {σ : L2.St} : ∀ {vs : List Nat} (i : Nat), (wipe σ vs)[i]? = if i ∈ vs ∧ i < σ.length then some none else σ[i]?
  | [], i => by simp [wipe]
  | v :: vs, i => by
    unfold wipe
    by_cases hv : v = i
    · subst hv
      by_cases hl : v < σ.length
      · rw [List.getElem?_set_self (by rw [wipe_length]; exact hl)]
        simp [hl]
      · rw [List.getElem?_eq_none (by simp [wipe_length]; omega), if_neg (by simp; omega), List.getElem?_eq_none (by omega)]
    · rw [List.getElem?_set_ne hv, wipe_get i]
      have e : (i ∈ v :: vs) ↔ i ∈ vs := by simp [Ne.symm hv]
      simp only [e]
theorem wipe_same {σ σ' : L2.St} {vs : List Nat} (hl : σ'.length = σ.length) (h : ∀ i : Nat, i ∉ vs → σ'[i]? = (wipe σ vs)[i]?) : wipe σ' vs = wipe σ vs := by
  apply List.ext_getElem?
  intro i
  rw [wipe_get, wipe_get, hl]
  by_cases hi : i ∈ vs
  · by_cases hl2 : i < σ.length
    · simp [hi, hl2]
    · rw [if_neg (by omega), if_neg (by omega), List.getElem?_eq_none (by omega), List.getElem?_eq_none (by omega)]
  · rw [if_neg (fun z => hi z.1), if_neg (fun z => hi z.1), h i hi, wipe_get, if_neg (fun z => hi z.1)]
/-- the items of a comprehension -/
def loopC (gg : Val → DEnv → M DEnv) (ft : DEnv → M Bool) (fe : DEnv → M Val) (ρ : DEnv) : List Val → List PyData → M (List PyData)
  | [], acc, S => some (acc, S)
  | d :: ds, acc, S => bindR (gg d ρ S) fun ρ1 S1 => bindR (ft ρ1 S1) fun b S2 => if b = true then bindR (fe ρ1 S2) fun y S3 => match y with
      | .pd y => if acc.length < 16777216 then loopC gg ft fe ρ ds (acc ++ [y]) S3 else none
      | .obj _ => none
    else loopC gg ft fe ρ ds acc S2
def eLc (fi : DEnv → M Iter) (gg : Val → DEnv → M DEnv) (ft : DEnv → M Bool) (fe : DEnv → M Val) (ix : List Nat) : DEnv → M Val := fun ρ S => bindR (fi ρ S) fun it S1 => bindR (loopC gg ft fe (wipeD ρ ix) it.items [] S1) fun ys S2 => some (.pd (.list ys), it.un S2)
/-- .. of which the list is an object of the store, at n -/
def loopM (gg : Val → DEnv → M DEnv) (ft : DEnv → M Bool) (fe : DEnv → M Val) (ρ : DEnv) (n : Nat) : List Val → M Unit
  | [], S => some ((), S)
  | d :: ds, S => bindR (gg d ρ S) fun ρ1 S1 => bindR (ft ρ1 S1) fun b S2 => if b = true then bindR (fe ρ1 S2) fun y S3 => bindR (uAppend (.obj n) [y] S3) fun _ S4 => loopM gg ft fe ρ n ds S4
    else loopM gg ft fe ρ n ds S2
def eLcM (fi : DEnv → M Iter) (gg : Val → DEnv → M DEnv) (ft : DEnv → M Bool) (fe : DEnv → M Val) (ix : List Nat) : DEnv → M Val := fun ρ S => bindR (fi ρ S) fun it S1 => bindR (loopM gg ft fe (wipeD ρ ix) S1.length it.items (S1 ++ [.lst []])) fun _ S2 => some (.obj S1.length, it.un S2)
def eLcV (fi : DEnv → M Iter) (gg : Val → DEnv → M DEnv) (ft : DEnv → M Bool) (fe : DEnv → M Val) (ix : List Nat) : DEnv → M Val := fun ρ S => bindR (fi ρ S) fun it S1 => bindR (loopM gg ft fe (wipeD ρ ix) S1.length it.items (S1 ++ [.lsv []])) fun _ S2 => some (.obj S1.length, it.un S2)
/-- what an unlocking keeps -/
theorem un_ok {K : PySem.W.Frag} {cl : Nat → Addr} {wd wd1 : Wd} {S S0 S1 : Store} {H H1 : Hp} {it : Iter} (x0 : Ext wd S H wd1 S0 H1) (lk : LkOk S0 S1 it) (hk : ∀ h o, it.lk = some (h, o) → (∃ xs, o = .lst xs) ∨ ∃ xs, o = .lsv xs) {wd2 : Wd} {S2 : Store} {H2 : Hp} (w2 : WR K cl wd2 S2 H2) (x2 : Ext wd1 S1 H1 wd2 S2 H2) :
    WR K cl wd2 (it.un S2) H2 ∧ Ext wd S H wd2 (it.un S2) H2 ∧ (it.un S2).length = S2.length := by
  unfold LkOk at lk
  unfold Iter.un
  cases hl : it.lk with
  | none =>
    rw [hl] at lk
    dsimp only at lk ⊢
    subst lk
    exact ⟨w2, x0.trans x2, rfl⟩
  | some p =>
    obtain ⟨hh, o⟩ := p
    rw [hl] at lk
    dsimp only at lk ⊢
    obtain ⟨l1, l2, rfl⟩ := lk
    obtain ⟨y1, y2⟩ := w2.unlock l1 l2 x2 (OR.lock_iff (hk hh o hl)).mp
    exact ⟨y1, x0.trans y2, by simp⟩
section
variable {X : Cx} {cl : Nat → Addr} {elt tg iter : Expr} {ifs : List Expr} {scope : Scope} {own : List (Str × Nat)} {pos : Pos} {fi : DEnv → M Iter} {gg : Val → DEnv → M DEnv} {ft : DEnv → M Bool} {fe : DEnv → M Val} {ix : List Nat}
/-- a list that is being made: hidden -/
def Wd.hide (wd : Wd) (D : Addr) : Wd := ⟨wd.ad, wd.fp, fun b => wd.hid b ∨ b = D⟩
def Wd.show (wd : Wd) (D : Addr) : Wd := ⟨wd.ad, wd.fp, fun b => wd.hid b ∧ b ≠ D⟩
theorem WR.mkHid {K : PySem.W.Frag} {wd : Wd} {S : Store} {H : Hp} {D : Addr} {o : HO} (w : WR K cl wd S H) (hD : H D = none) : WR K cl (wd.hide D) S (upd H D o) ∧ Ext wd S H (wd.hide D) S (upd H D o) := by
  have hk := upd_keeps (o := o) hD
  have keep : ∀ b u, H b = some u → ¬ Own wd S.length b → upd H D o b = some u ∧ ¬ Own (wd.hide D) S.length b := fun b u e n => by
    have ne : b ≠ D := fun z => by rw [z, hD] at e; cases e
    refine ⟨hk b u e, ?_⟩
    rintro ((z | z) | z)
    · exact n (.inl z)
    · exact ne z
    · exact n (.inr z)
  have x : Ext wd S H (wd.hide D) S (upd H D o) := ⟨Nat.le_refl _, fun _ _ => rfl, keep, fun i u e => ⟨e, ((Ext.all w hk).lock i u e).2⟩, fun b h => ⟨.inl h, ((Ext.all w hk).hid b h).2⟩⟩
  refine ⟨⟨fun i u e => OR.mono x.len x.ad keep (fun b hb => ?_) (w.ob i u e), w.dj, fun i b hi hb => ?_, fun b hb => ?_⟩, x⟩
  · obtain ⟨v, hv⟩ := w.lv i b (lt_of_get e) hb
    rw [hv]; exact hk b v hv
  · obtain ⟨v, hv⟩ := w.lv i b hi hb
    exact ⟨v, hk b v hv⟩
  · rcases hb with hb | rfl
    · obtain ⟨⟨v, hv⟩, z⟩ := w.hd b hb
      exact ⟨⟨v, hk b v hv⟩, z⟩
    · exact ⟨⟨_, upd_same⟩, fun i hi q => by
        obtain ⟨v, hv⟩ := w.lv i b hi q
        rw [hD] at hv; cases hv⟩
theorem WR.updHid {K : PySem.W.Frag} {wd0 wd : Wd} {S0 S : Store} {H0 H : Hp} {D : Addr} {o : HO} (w : WR K cl wd S H) (hD : wd.hid D) (x : Ext wd0 S0 H0 wd S H) (w0 : WR K cl wd0 S0 H0) (h0 : H0 D = none) : WR K cl wd S (upd H D o) ∧ Ext wd0 S0 H0 wd S (upd H D o) := by
  obtain ⟨⟨u0, hu0⟩, nf⟩ := w.hd D hD
  have keep : ∀ b u, H b = some u → ¬ Own wd S.length b → upd H D o b = some u ∧ ¬ Own wd S.length b := fun b u e n => ⟨by rw [upd_ne (fun z => n (by rw [z]; exact .inl hD))]; exact e, n⟩
  refine ⟨⟨fun i u e => OR.mono (S := S) (S' := S) (Nat.le_refl _) (fun _ _ => rfl) keep (fun b hb => ?_) (w.ob i u e), w.dj, fun i b hi hb => ?_, fun b hb => ?_⟩, ⟨x.len, x.ad, fun b u e n => ?_, fun i u e => ?_, fun b hb => ?_⟩⟩
  · rw [upd_ne (fun z => nf i (lt_of_get e) (by rw [← z]; exact hb))]
  · obtain ⟨v, hv⟩ := w.lv i b hi hb
    by_cases z : b = D
    · subst z; exact ⟨_, upd_same⟩
    · exact ⟨v, by rw [upd_ne z]; exact hv⟩
  · obtain ⟨⟨v, hv⟩, z⟩ := w.hd b hb
    refine ⟨?_, z⟩
    by_cases z : b = D
    · subst z; exact ⟨_, upd_same⟩
    · exact ⟨v, by rw [upd_ne z]; exact hv⟩
  · obtain ⟨h1, h2⟩ := x.keep b u e n
    exact keep b u h1 h2
  · obtain ⟨h1, h2⟩ := x.lock i u e
    refine ⟨h1, ?_⟩
    rw [upd_ne ?_]
    · exact h2
    · intro z
      rw [z, hu0] at h2
      rw [h0] at h2
      cases h2
  · obtain ⟨h1, h2⟩ := x.hid b hb
    refine ⟨h1, ?_⟩
    rw [upd_ne (fun z => by
      obtain ⟨⟨v, hv⟩, _⟩ := w0.hd b hb
      rw [z, h0] at hv; cases hv)]
    exact h2
theorem WR.unHid {K : PySem.W.Frag} {wd0 wd : Wd} {S0 S : Store} {H0 H : Hp} {D : Addr} (w : WR K cl wd S H) (hD : wd.hid D) (x : Ext wd0 S0 H0 wd S H) (w0 : WR K cl wd0 S0 H0) (h0 : H0 D = none) : WR K cl (wd.show D) S H ∧ Ext wd0 S0 H0 (wd.show D) S H ∧ ¬ Own (wd.show D) S.length D ∧ ∀ b, ¬ Own wd S.length b → ¬ Own (wd.show D) S.length b := by
  obtain ⟨⟨u0, hu0⟩, nf⟩ := w.hd D hD
  have less : ∀ b, ¬ Own wd S.length b → ¬ Own (wd.show D) S.length b := fun b n => by
    rintro (⟨z, _⟩ | z)
    · exact n (.inl z)
    · exact n (.inr z)
  refine ⟨⟨fun i u e => OR.mono (S := S) (S' := S) (wd := wd) (Nat.le_refl _) (fun _ _ => rfl) (fun b u e n => ⟨e, less b n⟩) (fun b _ => rfl) (w.ob i u e), w.dj, w.lv, fun b hb => w.hd b hb.1⟩, ⟨x.len, x.ad, fun b u e n => ?_, x.lock, fun b hb => ?_⟩, ?_, less⟩
  · obtain ⟨h1, h2⟩ := x.keep b u e n
    exact ⟨h1, less b h2⟩
  · obtain ⟨h1, h2⟩ := x.hid b hb
    exact ⟨⟨h1, fun z => by
      obtain ⟨⟨v, hv⟩, _⟩ := w0.hd b hb
      rw [z, h0] at hv; cases hv⟩, h2⟩
  · rintro (⟨_, z⟩ | ⟨i, hi, z⟩)
    · exact z rfl
    · exact nf i hi z
/-- the simulation of a comprehension's reading, a frozen list -/
theorem sim_lc {K : PySem.W.Frag} {ti : TI} {tg : TG} {tt : TT} {te : TE} (hi : SimI K cl ti fi) (hg : SimGc K cl tg ix gg) (ht : SimT K cl tt ft) (he : SimE K cl te fe) (hk : ∀ ρ S it S', fi ρ S = some (it, S') → ∀ h o, it.lk = some (h, o) → (∃ xs, o = Ob.lst xs) ∨ ∃ xs, o = Ob.lsv xs) :
    SimE K cl (tLc ti tg tt te ix) (eLc fi gg ft fe ix) := fun wd σ ρ S H Q d S' w q h k => by
  obtain ⟨it, S1, h1, h⟩ := bindR_inv h
  obtain ⟨ys, S2, h2, h⟩ := bindR_inv h
  cases h
  refine hi wd σ ρ S H _ it S1 w q h1 fun wd1 S0 H1 J w0 x0 lk w1 jo => ?_
  intro D hD
  have q1 : ER K wd1 S1.length H1 σ ρ := by
    have z := q.ext x0
    have : S1.length = S0.length := by
      unfold LkOk at lk
      split at lk
      · rw [lk]
      · rw [lk.2.2]; simp
    rw [this]
    exact z
  obtain ⟨wB, xB⟩ := w1.mkHid (o := .lst []) hD
  refine ⟨fun i m H' => m = it.items.length - i ∧ i ≤ it.items.length ∧ ∃ wd' S' acc vs, WR K cl wd' S' H' ∧ Ext wd1 S1 H1 wd' S' H' ∧ wd'.hid D ∧ H' D = some (.lst vs) ∧ RpAll K H' (Own wd' S'.length) vs acc ∧ loopC gg ft fe (wipeD ρ ix) (it.items.drop i) acc S' = some (ys, S2),
    ⟨_, rfl, Nat.zero_le _, wd1.hide D, S1, [], [], wB, xB, .inr rfl, upd_same, .nil, by simpa using h2⟩, ?_⟩
  rintro i m H' ⟨rfl, hle, wd', S', acc, vs, w', x', hh, eD, ra, hl⟩
  obtain ⟨jst, jgo⟩ := jo wd' S' H' w' x'
  by_cases hlt : i < it.items.length
  · obtain ⟨go, yl⟩ := jgo i hlt
    refine .inr ⟨go, fun H3 => ∃ m', m' < it.items.length - i ∧ (m' = it.items.length - (i + 1) ∧ i + 1 ≤ it.items.length ∧ ∃ wd' S' acc vs, WR K cl wd' S' H3 ∧ Ext wd1 S1 H1 wd' S' H3 ∧ wd'.hid D ∧ H3 D = some (.lst vs) ∧ RpAll K H3 (Own wd' S'.length) vs acc ∧ loopC gg ft fe (wipeD ρ ix) (it.items.drop (i + 1)) acc S' = some (ys, S2)), fun H3 ⟨m', hm, z⟩ => ⟨m', hm, z⟩, fun x H'' y => ?_⟩
    obtain ⟨d, hd, w2, x2, r2⟩ := yl x H'' y
    rw [drop_get hd] at hl
    obtain ⟨ρ3, S3, h3, hl2⟩ := bindR_inv hl
    have := hg.st _ _ _ _ _ h3
    subst this
    obtain ⟨b, S4, h4, hl3⟩ := bindR_inv hl2
    clear hl hl2
    have qq := q1.ext (x'.trans x2)
    refine hg.sim wd' _ _ _ H'' x d _ ρ3 w2 (wipe_er qq ix) r2 h3 fun σ3 q3 hl3' ho3 => ⟨wipe_same (by rw [hl3', wipe_length]) ho3, ?_⟩
    refine ht wd' σ3 ρ3 _ H'' _ b S4 w2 q3 h4 fun wd4 H4 w4 x4 => ?_
    obtain ⟨hh2, e2⟩ := x2.hid D hh
    obtain ⟨hh4, e4⟩ := x4.hid D hh2
    have ra4 := RpAll.mono x4.keep _ _ (RpAll.mono x2.keep _ _ ra)
    cases b with
    | true =>
      rw [if_pos rfl] at hl3 ⊢
      obtain ⟨y, S5, h5, hl5⟩ := bindR_inv hl3
      refine he wd4 σ3 ρ3 S4 H4 _ y S5 w4 (q3.ext x4) h5 fun wd5 v5 H5 w5 x5 r5 => ?_
      obtain ⟨hh5, e5⟩ := x5.hid D hh4
      have ra5 := RpAll.mono x5.keep _ _ ra4
      have eD5 : H5 D = some (.lst vs) := by rw [e5, e4, e2]; exact eD
      split at hl5
      · rename_i y'
        split at hl5
        · rename_i hlen
          refine ⟨vs, eD5, by rw [ra5.length, szl]; exact hlen, ?_⟩
          obtain ⟨w6, x6⟩ := w5.updHid (o := .lst (vs ++ [v5])) hh5 (((x'.trans x2).trans x4).trans x5) w1 hD
          have kk : ∀ b u, H5 b = some u → ¬ Own wd5 S5.length b → upd H5 D (.lst (vs ++ [v5])) b = some u ∧ ¬ Own wd5 S5.length b := fun b u e n => ⟨by rw [upd_ne (fun z => n (by rw [z]; exact .inl hh5))]; exact e, n⟩
          exact ⟨_, by omega, rfl, hlt, wd5, S5, acc ++ [y'], vs ++ [v5], w6, x6, hh5, upd_same, RpAll.mono kk _ _ (ra5.append (.cons r5 .nil)), hl5⟩
        · cases hl5
      · cases hl5
    | false =>
      rw [if_neg Bool.false_ne_true] at hl3 ⊢
      exact ⟨_, by omega, rfl, hlt, wd4, S4, acc, vs, w4, (x'.trans x2).trans x4, hh4, by rw [e4, e2]; exact eD, ra4, hl3⟩
  · have e : i = it.items.length := by omega
    subst e
    rw [List.drop_length] at hl
    cases hl
    obtain ⟨wz, xz, nz, lz⟩ := w'.unHid hh x' w1 hD
    obtain ⟨y1, y2, y3⟩ := un_ok x0 lk (hk ρ S it S1 h1) wz xz
    refine .inl ⟨jst, k _ (.ref D) H' y1 y2 ?_⟩
    rw [y3]
    exact .lst ⟨.inl eD, nz⟩ (RpAll.mono (fun b u e n => ⟨e, lz b n⟩) _ _ ra)
/-- .. a list of the store -/
theorem sim_lcM {K : PySem.W.Frag} {ti : TI} {tg : TG} {tt : TT} {te : TE} {V0 : Bool} (hi : SimI K cl ti fi) (hg : SimGc K cl tg ix gg) (ht : SimT K cl tt ft) (he : SimE K cl te fe) (hk : ∀ ρ S it S', fi ρ S = some (it, S') → ∀ h o, it.lk = some (h, o) → (∃ xs, o = Ob.lst xs) ∨ ∃ xs, o = Ob.lsv xs) :
    SimE K cl (tLc ti tg tt te ix) (if V0 then eLcV fi gg ft fe ix else eLcM fi gg ft fe ix) := fun wd σ ρ S H Q d S' w q h k => by
  have : ∃ it S1 S2 o0, fi ρ S = some (it, S1) ∧ (o0 = Ob.lst [] ∨ o0 = Ob.lsv []) ∧ loopM gg ft fe (wipeD ρ ix) S1.length it.items (S1 ++ [o0]) = some ((), S2) ∧ d = .obj S1.length ∧ S' = it.un S2 := by
    cases V0 with
    | true =>
      rw [if_pos rfl] at h
      obtain ⟨it, S1, h1, h⟩ := bindR_inv h
      obtain ⟨ys, S2, h2, h⟩ := bindR_inv h
      cases h
      exact ⟨it, S1, S2, _, h1, .inr rfl, h2, rfl, rfl⟩
    | false =>
      rw [if_neg Bool.false_ne_true] at h
      obtain ⟨it, S1, h1, h⟩ := bindR_inv h
      obtain ⟨ys, S2, h2, h⟩ := bindR_inv h
      cases h
      exact ⟨it, S1, S2, _, h1, .inl rfl, h2, rfl, rfl⟩
  obtain ⟨it, S1, S2, o0, h1, ho0, h2, rfl, rfl⟩ := this
  clear h
  refine hi wd σ ρ S H _ it S1 w q h1 fun wd1 S0 H1 J w0 x0 lk w1 jo => ?_
  intro D hD
  have q1 : ER K wd1 S1.length H1 σ ρ := by
    have z := q.ext x0
    have : S1.length = S0.length := by
      unfold LkOk at lk
      split at lk
      · rw [lk]
      · rw [lk.2.2]; simp
    rw [this]
    exact z
  obtain ⟨wdB, wB, xB, rB⟩ : ∃ wd', WR K cl wd' (S1 ++ [o0]) (upd H1 D (.lst [])) ∧ Ext wd1 S1 H1 wd' (S1 ++ [o0]) (upd H1 D (.lst [])) ∧ RV K wd' (S1 ++ [o0]).length (upd H1 D (.lst [])) (.ref D) (.obj S1.length) := by
    rcases ho0 with rfl | rfl
    · exact w1.newL .nil hD
    · exact w1.newLV .nil hD
  -- what stands at S1.length is a list at D
  refine ⟨fun i m H' => m = it.items.length - i ∧ i ≤ it.items.length ∧ ∃ wd' S', WR K cl wd' S' H' ∧ Ext wd1 S1 H1 wd' S' H' ∧ wd'.ad S1.length = D ∧ S1.length < S'.length ∧ loopM gg ft fe (wipeD ρ ix) S1.length (it.items.drop i) S' = some ((), S2),
    ⟨_, rfl, Nat.zero_le _, wdB, S1 ++ [o0], wB, xB, by have := rB.2; simpa using this.symm, by simp, by simpa using h2⟩, ?_⟩
  rintro i m H' ⟨rfl, hle, wd', S', w', x', hh, hlen, hl⟩
  obtain ⟨jst, jgo⟩ := jo wd' S' H' w' x'
  by_cases hlt : i < it.items.length
  · obtain ⟨go, yl⟩ := jgo i hlt
    refine .inr ⟨go, fun H3 => ∃ m', m' < it.items.length - i ∧ (m' = it.items.length - (i + 1) ∧ i + 1 ≤ it.items.length ∧ ∃ wd' S', WR K cl wd' S' H3 ∧ Ext wd1 S1 H1 wd' S' H3 ∧ wd'.ad S1.length = D ∧ S1.length < S'.length ∧ loopM gg ft fe (wipeD ρ ix) S1.length (it.items.drop (i + 1)) S' = some ((), S2)), fun H3 ⟨m', hm, z⟩ => ⟨m', hm, z⟩, fun x H'' y => ?_⟩
    obtain ⟨d, hd, w2, x2, r2⟩ := yl x H'' y
    rw [drop_get hd] at hl
    obtain ⟨ρ3, S3, h3, hl2⟩ := bindR_inv hl
    have := hg.st _ _ _ _ _ h3
    subst this
    obtain ⟨b, S4, h4, hl3⟩ := bindR_inv hl2
    clear hl hl2
    have qq := q1.ext (x'.trans x2)
    refine hg.sim wd' _ _ _ H'' x d _ ρ3 w2 (wipe_er qq ix) r2 h3 fun σ3 q3 hl3' ho3 => ⟨wipe_same (by rw [hl3', wipe_length]) ho3, ?_⟩
    refine ht wd' σ3 ρ3 _ H'' _ b S4 w2 q3 h4 fun wd4 H4 w4 x4 => ?_
    have hh4 : wd4.ad S1.length = D := by rw [x4.ad _ hlen]; exact hh
    have hlen4 : S1.length < S4.length := Nat.lt_of_lt_of_le hlen x4.len
    cases b with
    | true =>
      rw [if_pos rfl] at hl3 ⊢
      obtain ⟨y, S5, h5, hl5⟩ := bindR_inv hl3
      obtain ⟨u6, S6, h6, hl6⟩ := bindR_inv hl5
      refine he wd4 σ3 ρ3 S4 H4 _ y S5 w4 (q3.ext x4) h5 fun wd5 v5 H5 w5 x5 r5 => ?_
      have hh5 : wd5.ad S1.length = D := by rw [x5.ad _ hlen4]; exact hh4
      have hlen5 : S1.length < S5.length := Nat.lt_of_lt_of_le hlen4 x5.len
      have ap := sm_append (K := K) (cl := cl) wd5 S5 H5 (.ref D) [v5] (.obj S1.length) [y] (fun _ H6 => ∃ m', m' < it.items.length - i ∧ (m' = it.items.length - (i + 1) ∧ i + 1 ≤ it.items.length ∧ ∃ wd' S', WR K cl wd' S' H6 ∧ Ext wd1 S1 H1 wd' S' H6 ∧ wd'.ad S1.length = D ∧ S1.length < S'.length ∧ loopM gg ft fe (wipeD ρ ix) S1.length (it.items.drop (i + 1)) S' = some ((), S2))) u6 S6 w5 ⟨hlen5, by rw [hh5]⟩ (.cons r5 .nil) h6 fun wd6 v6 H6 w6 x6 r6 =>
        ⟨_, by omega, rfl, hlt, wd6, S6, w6, ((((x'.trans x2).trans x4).trans x5).trans x6), by rw [x6.ad _ hlen5]; exact hh5, Nat.lt_of_lt_of_le hlen5 x6.len, hl6⟩
      obtain ⟨l, xs, y0, e1, e2, e3, e4, e5⟩ := ap
      cases e1
      cases e2
      exact ⟨xs, e3, e4, e5⟩
    | false =>
      rw [if_neg Bool.false_ne_true] at hl3 ⊢
      exact ⟨_, by omega, rfl, hlt, wd4, S4, w4, (x'.trans x2).trans x4, hh4, hlen4, hl3⟩
  · have e : i = it.items.length := by omega
    subst e
    rw [List.drop_length] at hl
    cases hl
    obtain ⟨y1, y2, y3⟩ := un_ok x0 lk (hk ρ S it S1 h1) w' x'
    refine .inl ⟨jst, k _ (.ref D) H' y1 y2 ?_⟩
    rw [y3]
    exact ⟨hlen, by rw [hh]⟩
end
/-! canonical readings -/
def canE (K : PySem.W.Frag) (cl : Nat → Addr) (f : DEnv → M Val) : TE := fun σ H Q => ∃ wd ρ S d S', WR K cl wd S H ∧ ER K wd S.length H σ ρ ∧ f ρ S = some (d, S') ∧ ∀ wd' v H', WR K cl wd' S' H' → Ext wd S H wd' S' H' → RV K wd' S'.length H' v d → Q v H'
def canT (K : PySem.W.Frag) (cl : Nat → Addr) (f : DEnv → M Bool) : TT := fun σ H Q => ∃ wd ρ S d S', WR K cl wd S H ∧ ER K wd S.length H σ ρ ∧ f ρ S = some (d, S') ∧ ∀ wd' H', WR K cl wd' S' H' → Ext wd S H wd' S' H' → Q d H'
theorem DE.can {X : Cx} {cl : Nat → Addr} {e : Expr} {f : DEnv → M Val} (h : DE X cl e f) : PE X e (canE X.K cl f) := by
  obtain ⟨t, p, s⟩ := h
  refine ⟨fun pins st σ H Q I hc => ?_⟩
  obtain ⟨wd, ρ, S, d, S', w, r, hf, k⟩ := hc
  exact p.run pins st σ H Q I (s wd σ ρ S H Q d S' w r hf k)
theorem simE_can {K : PySem.W.Frag} {cl : Nat → Addr} {f : DEnv → M Val} : SimE K cl (canE K cl f) f := fun wd σ ρ S H Q d S' w q h k => ⟨wd, ρ, S, d, S', w, q, h, k⟩
theorem simT_can {K : PySem.W.Frag} {cl : Nat → Addr} {f : DEnv → M Bool} : SimT K cl (canT K cl f) f := fun wd σ ρ S H Q d S' w q h k => ⟨wd, ρ, S, d, S', w, q, h, k⟩
/-- a clause's tests -/
def DTs (X : Cx) (cl : Nat → Addr) (ifs : List Expr) (f : DEnv → M Bool) : Prop := PTs X ifs (canT X.K cl f)
theorem dts_nil {X : Cx} {cl : Nat → Addr} : DTs X cl [] tYesD := ⟨fun pins s σ H Q I h => by
  obtain ⟨wd, ρ, S, d, S', w, r, hf, k⟩ := h
  cases hf
  exact pts_nil.run pins s σ H Q I (k wd H w .refl)⟩
theorem dts_one {X : Cx} {cl : Nat → Addr} {c : Expr} {ft : DEnv → M Bool} (h : DT X cl c ft) : DTs X cl [c] ft := by
  obtain ⟨t, p, s⟩ := h
  refine ⟨fun pins st σ H Q I hc => ?_⟩
  obtain ⟨wd, ρ, S, d, S', w, r, hf, k⟩ := hc
  exact (pts_one p).run pins st σ H Q I (s wd σ ρ S H Q d S' w r hf k)
section
variable {X : Cx} {cl : Nat → Addr} {elt tg iter : Expr} {ifs : List Expr} {scope : Scope} {own : List (Str × Nat)} {pos : Pos} {fi : DEnv → M Iter} {gg : Val → DEnv → M DEnv} {ft : DEnv → M Bool} {fe : DEnv → M Val} {t : TG}
theorem de_lc (hc : X.calm = true) (hN : X.N.Nodup) (hi : DI X cl tg iter fi) (ok : BlkOk X.N X.env.scope scope own)
    (hg : ∀ (s : Shared) (H : Hp) (C : Addr) (c : List (Str × Addr)) (fp : List Addr), DC (X.blk s H scope (compEnvC scope c C X.env) fp) cl tg (own.map (·.2)) t gg) (ht : ∀ (s : Shared) (H : Hp) (C : Addr) (c : List (Str × Addr)) (fp : List Addr), DTs (X.blk s H scope (compEnvC scope c C X.env) fp) cl ifs ft)
    (he : ∀ (s : Shared) (H : Hp) (C : Addr) (c : List (Str × Addr)) (fp : List Addr), DE (X.blk s H scope (compEnvC scope c C X.env) fp) cl elt fe)
    (hk : ∀ ρ S it S', fi ρ S = some (it, S') → ∀ h o, it.lk = some (h, o) → (∃ xs, o = Ob.lst xs) ∨ ∃ xs, o = Ob.lsv xs) (hs : ∀ x, foldedSetIterable iter X.env x = pure x := by intro _; rfl) :
    DE X cl (.ListComp elt [⟨tg, iter, ifs, 0⟩] scope pos) (eLc fi gg ft fe (own.map (·.2))) := by
  obtain ⟨ti, pi, si⟩ := hi
  have sg := (hg X.s_0 X.H_0 0 [] []).2
  exact ⟨_, pe_lc (tt := canT X.K cl ft) (te := canE X.K cl fe) hc hN pi ok (fun s H C c fp => (hg s H C c fp).1) (fun s H C c fp => ht s H C c fp) (fun s H C c fp => (he s H C c fp).can) hs, sim_lc si sg simT_can simE_can hk⟩
theorem de_lcM (hc : X.calm = true) (hN : X.N.Nodup) (hi : DI X cl tg iter fi) (ok : BlkOk X.N X.env.scope scope own)
    (hg : ∀ (s : Shared) (H : Hp) (C : Addr) (c : List (Str × Addr)) (fp : List Addr), DC (X.blk s H scope (compEnvC scope c C X.env) fp) cl tg (own.map (·.2)) t gg) (ht : ∀ (s : Shared) (H : Hp) (C : Addr) (c : List (Str × Addr)) (fp : List Addr), DTs (X.blk s H scope (compEnvC scope c C X.env) fp) cl ifs ft)
    (he : ∀ (s : Shared) (H : Hp) (C : Addr) (c : List (Str × Addr)) (fp : List Addr), DE (X.blk s H scope (compEnvC scope c C X.env) fp) cl elt fe)
    (hk : ∀ ρ S it S', fi ρ S = some (it, S') → ∀ h o, it.lk = some (h, o) → (∃ xs, o = Ob.lst xs) ∨ ∃ xs, o = Ob.lsv xs) (hs : ∀ x, foldedSetIterable iter X.env x = pure x := by intro _; rfl) :
    DE X cl (.ListComp elt [⟨tg, iter, ifs, 0⟩] scope pos) (eLcM fi gg ft fe (own.map (·.2))) := by
  obtain ⟨ti, pi, si⟩ := hi
  have sg := (hg X.s_0 X.H_0 0 [] []).2
  exact ⟨_, pe_lc (tt := canT X.K cl ft) (te := canE X.K cl fe) hc hN pi ok (fun s H C c fp => (hg s H C c fp).1) (fun s H C c fp => ht s H C c fp) (fun s H C c fp => (he s H C c fp).can) hs, sim_lcM (V0 := false) si sg simT_can simE_can hk⟩
theorem de_lcV (hc : X.calm = true) (hN : X.N.Nodup) (hi : DI X cl tg iter fi) (ok : BlkOk X.N X.env.scope scope own)
    (hg : ∀ (s : Shared) (H : Hp) (C : Addr) (c : List (Str × Addr)) (fp : List Addr), DC (X.blk s H scope (compEnvC scope c C X.env) fp) cl tg (own.map (·.2)) t gg) (ht : ∀ (s : Shared) (H : Hp) (C : Addr) (c : List (Str × Addr)) (fp : List Addr), DTs (X.blk s H scope (compEnvC scope c C X.env) fp) cl ifs ft)
    (he : ∀ (s : Shared) (H : Hp) (C : Addr) (c : List (Str × Addr)) (fp : List Addr), DE (X.blk s H scope (compEnvC scope c C X.env) fp) cl elt fe)
    (hk : ∀ ρ S it S', fi ρ S = some (it, S') → ∀ h o, it.lk = some (h, o) → (∃ xs, o = Ob.lst xs) ∨ ∃ xs, o = Ob.lsv xs) (hs : ∀ x, foldedSetIterable iter X.env x = pure x := by intro _; rfl) :
    DE X cl (.ListComp elt [⟨tg, iter, ifs, 0⟩] scope pos) (eLcV fi gg ft fe (own.map (·.2))) := by
  obtain ⟨ti, pi, si⟩ := hi
  have sg := (hg X.s_0 X.H_0 0 [] []).2
  exact ⟨_, pe_lc (tt := canT X.K cl ft) (te := canE X.K cl fe) hc hN pi ok (fun s H C c fp => (hg s H C c fp).1) (fun s H C c fp => ht s H C c fp) (fun s H C c fp => (he s H C c fp).can) hs, sim_lcM (V0 := true) si sg simT_can simE_can hk⟩
theorem ds_setLc {i : Nat} {y : Str} {py spos : Pos} (hc : X.calm = true) (hN : X.N.Nodup) (hy : X.N[i]? = some y) (hyl : X.env.scope.names.lookup y = some .local)
    (hsw : swapsWith (.ListComp elt [⟨tg, iter, ifs, 0⟩] scope pos) (some (.Name y py)) spos.line X.env = pure true) (hi : DI X cl tg iter fi) (ok : BlkOk X.N X.env.scope scope own)
    (hg : ∀ (s : Shared) (H : Hp) (C : Addr) (c : List (Str × Addr)) (fp : List Addr), DC (X.blk s H scope (compEnvC scope c C X.env) fp) cl tg (own.map (·.2)) t gg) (ht : ∀ (s : Shared) (H : Hp) (C : Addr) (c : List (Str × Addr)) (fp : List Addr), DTs (X.blk s H scope (compEnvC scope c C X.env) fp) cl ifs ft)
    (he : ∀ (s : Shared) (H : Hp) (C : Addr) (c : List (Str × Addr)) (fp : List Addr), DE (X.blk s H scope (compEnvC scope c C X.env) fp) cl elt fe)
    (hk : ∀ ρ S it S', fi ρ S = some (it, S') → ∀ h o, it.lk = some (h, o) → (∃ xs, o = Ob.lst xs) ∨ ∃ xs, o = Ob.lsv xs) (hs : ∀ x, foldedSetIterable iter X.env x = pure x := by intro _; rfl) :
    DS X cl (.Assign [.Name y py] (.ListComp elt [⟨tg, iter, ifs, 0⟩] scope pos) spos) (gAsg (eLc fi gg ft fe (own.map (·.2))) (nName i)) := by
  obtain ⟨ti, pi, si⟩ := hi
  have sg := (hg X.s_0 X.H_0 0 [] []).2
  refine ⟨_, ps_setLc (tt := canT X.K cl ft) (te := canE X.K cl fe) hc hN hy hyl hsw pi ok (fun s H C c fp => (hg s H C c fp).1) (fun s H C c fp => ht s H C c fp) (fun s H C c fp => (he s H C c fp).can) hs, fun wd σ ρ S H D fl S' w q h k => ?_⟩
  obtain ⟨x, S1, h1, h⟩ := bindR_inv h
  obtain ⟨y, S2, h2, h⟩ := bindR_inv h
  cases h2
  cases h
  exact (sim_lc si sg simT_can simE_can hk) wd σ ρ S H _ x _ w q h1 fun wd1 v1 H1 w1 x1 r1 => k wd1 _ H1 w1 x1 ((q.ext x1).set i r1)
theorem ds_setLcM {i : Nat} {y : Str} {py spos : Pos} (hc : X.calm = true) (hN : X.N.Nodup) (hy : X.N[i]? = some y) (hyl : X.env.scope.names.lookup y = some .local)
    (hsw : swapsWith (.ListComp elt [⟨tg, iter, ifs, 0⟩] scope pos) (some (.Name y py)) spos.line X.env = pure true) (hi : DI X cl tg iter fi) (ok : BlkOk X.N X.env.scope scope own)
    (hg : ∀ (s : Shared) (H : Hp) (C : Addr) (c : List (Str × Addr)) (fp : List Addr), DC (X.blk s H scope (compEnvC scope c C X.env) fp) cl tg (own.map (·.2)) t gg) (ht : ∀ (s : Shared) (H : Hp) (C : Addr) (c : List (Str × Addr)) (fp : List Addr), DTs (X.blk s H scope (compEnvC scope c C X.env) fp) cl ifs ft)
    (he : ∀ (s : Shared) (H : Hp) (C : Addr) (c : List (Str × Addr)) (fp : List Addr), DE (X.blk s H scope (compEnvC scope c C X.env) fp) cl elt fe)
    (hk : ∀ ρ S it S', fi ρ S = some (it, S') → ∀ h o, it.lk = some (h, o) → (∃ xs, o = Ob.lst xs) ∨ ∃ xs, o = Ob.lsv xs) (hs : ∀ x, foldedSetIterable iter X.env x = pure x := by intro _; rfl) :
    DS X cl (.Assign [.Name y py] (.ListComp elt [⟨tg, iter, ifs, 0⟩] scope pos) spos) (gAsg (eLcM fi gg ft fe (own.map (·.2))) (nName i)) := by
  obtain ⟨ti, pi, si⟩ := hi
  have sg := (hg X.s_0 X.H_0 0 [] []).2
  refine ⟨_, ps_setLc (tt := canT X.K cl ft) (te := canE X.K cl fe) hc hN hy hyl hsw pi ok (fun s H C c fp => (hg s H C c fp).1) (fun s H C c fp => ht s H C c fp) (fun s H C c fp => (he s H C c fp).can) hs, fun wd σ ρ S H D fl S' w q h k => ?_⟩
  obtain ⟨x, S1, h1, h⟩ := bindR_inv h
  obtain ⟨y, S2, h2, h⟩ := bindR_inv h
  cases h2
  cases h
  exact (sim_lcM (V0 := false) si sg simT_can simE_can hk) wd σ ρ S H _ x _ w q h1 fun wd1 v1 H1 w1 x1 r1 => k wd1 _ H1 w1 x1 ((q.ext x1).set i r1)
theorem ds_setLcV {i : Nat} {y : Str} {py spos : Pos} (hc : X.calm = true) (hN : X.N.Nodup) (hy : X.N[i]? = some y) (hyl : X.env.scope.names.lookup y = some .local)
    (hsw : swapsWith (.ListComp elt [⟨tg, iter, ifs, 0⟩] scope pos) (some (.Name y py)) spos.line X.env = pure true) (hi : DI X cl tg iter fi) (ok : BlkOk X.N X.env.scope scope own)
    (hg : ∀ (s : Shared) (H : Hp) (C : Addr) (c : List (Str × Addr)) (fp : List Addr), DC (X.blk s H scope (compEnvC scope c C X.env) fp) cl tg (own.map (·.2)) t gg) (ht : ∀ (s : Shared) (H : Hp) (C : Addr) (c : List (Str × Addr)) (fp : List Addr), DTs (X.blk s H scope (compEnvC scope c C X.env) fp) cl ifs ft)
    (he : ∀ (s : Shared) (H : Hp) (C : Addr) (c : List (Str × Addr)) (fp : List Addr), DE (X.blk s H scope (compEnvC scope c C X.env) fp) cl elt fe)
    (hk : ∀ ρ S it S', fi ρ S = some (it, S') → ∀ h o, it.lk = some (h, o) → (∃ xs, o = Ob.lst xs) ∨ ∃ xs, o = Ob.lsv xs) (hs : ∀ x, foldedSetIterable iter X.env x = pure x := by intro _; rfl) :
    DS X cl (.Assign [.Name y py] (.ListComp elt [⟨tg, iter, ifs, 0⟩] scope pos) spos) (gAsg (eLcV fi gg ft fe (own.map (·.2))) (nName i)) := by
  obtain ⟨ti, pi, si⟩ := hi
  have sg := (hg X.s_0 X.H_0 0 [] []).2
  refine ⟨_, ps_setLc (tt := canT X.K cl ft) (te := canE X.K cl fe) hc hN hy hyl hsw pi ok (fun s H C c fp => (hg s H C c fp).1) (fun s H C c fp => ht s H C c fp) (fun s H C c fp => (he s H C c fp).can) hs, fun wd σ ρ S H D fl S' w q h k => ?_⟩
  obtain ⟨x, S1, h1, h⟩ := bindR_inv h
  obtain ⟨y, S2, h2, h⟩ := bindR_inv h
  cases h2
  cases h
  exact (sim_lcM (V0 := true) si sg simT_can simE_can hk) wd σ ρ S H _ x _ w q h1 fun wd1 v1 H1 w1 x1 r1 => k wd1 _ H1 w1 x1 ((q.ext x1).set i r1)
end
end DM
set_option Elab.async false
set_option linter.all false
set_option maxRecDepth 100000
/-! DMLib: the combinators' equations, for simp -/
namespace DM
open PySem L2 PyProof.Rows
section
variable {ρ : DEnv} {S : Store}
@[simp] theorem eVar_z {d : Val} {r : DEnv} : eVar 0 (some d :: r) S = some (d, S) := rfl
@[simp] theorem eVar_s {n : Nat} {o : Option Val} {r : DEnv} : eVar (n + 1) (o :: r) S = eVar n r S := by simp [eVar]
@[simp] theorem eC_e {d : PyData} : eC d ρ S = some (.pd d, S) := rfl
@[simp] theorem eU_e {u : Val → M Val} {fa : DEnv → M Val} : eU u fa ρ S = bindR (fa ρ S) fun a S1 => u a S1 := rfl
@[simp] theorem eO_e {u : Val → Val → M Val} {fa fb : DEnv → M Val} : eO u fa fb ρ S = bindR (fa ρ S) fun a S1 => bindR (fb ρ S1) fun b S2 => u a b S2 := rfl
@[simp] theorem aNil_e : aNil ρ S = some ([], S) := rfl
@[simp] theorem aCons_e {fa : DEnv → M Val} {fr : DEnv → M (List Val)} : aCons fa fr ρ S = bindR (fa ρ S) fun a S1 => bindR (fr ρ S1) fun r S2 => some (a :: r, S2) := rfl
@[simp] theorem eA_e {u : List Val → M Val} {fa : DEnv → M (List Val)} : eA u fa ρ S = bindR (fa ρ S) fun a S1 => u a S1 := rfl
/-- the value of a test -/
def toB (a : Val) : M Bool := fun S => match a with
  | .pd (.bool b) => some (b, S)
  | _ => none
@[simp] theorem toB_e {b : Bool} : toB (.pd (.bool b)) S = some (b, S) := rfl
@[simp] theorem tVal_e {fa : DEnv → M Val} : tVal fa ρ S = bindR (fa ρ S) fun a S1 => toB a S1 := rfl
@[simp] theorem tAnd_e {fa fb : DEnv → M Bool} : DM.tAnd fa fb ρ S = bindR (fa ρ S) fun a S1 => if a = true then fb ρ S1 else some (false, S1) := rfl
@[simp] theorem tOr_e {fa fb : DEnv → M Bool} : DM.tOr fa fb ρ S = bindR (fa ρ S) fun a S1 => if a = true then some (true, S1) else fb ρ S1 := rfl
@[simp] theorem tNot_e {fa : DEnv → M Bool} : DM.tNot fa ρ S = bindR (fa ρ S) fun a S1 => some (!a, S1) := rfl
@[simp] theorem eAnd_e {fa fb : DEnv → M Val} : eAnd fa fb ρ S = bindR (fa ρ S) fun a S1 => bindR (toB a S1) fun b S2 => if b = true then fb ρ S2 else some (.pd (.bool false), S2) := by
  unfold eAnd
  congr 1
  funext a S1
  cases a with
  | obj _ => rfl
  | pd d => cases d with
    | bool b => cases b <;> rfl
    | _ => rfl
@[simp] theorem eOr_e {fa fb : DEnv → M Val} : eOr fa fb ρ S = bindR (fa ρ S) fun a S1 => bindR (toB a S1) fun b S2 => if b = true then some (.pd (.bool true), S2) else fb ρ S2 := by
  unfold eOr
  congr 1
  funext a S1
  cases a with
  | obj _ => rfl
  | pd d => cases d with
    | bool b => cases b <;> rfl
    | _ => rfl
@[simp] theorem eNot_e {fa : DEnv → M Val} : eNot fa ρ S = bindR (fa ρ S) fun a S1 => bindR (toB a S1) fun b S2 => some (.pd (.bool (!b)), S2) := by
  unfold eNot
  congr 1
  funext a S1
  cases a with
  | obj _ => rfl
  | pd d => cases d <;> rfl
@[simp] theorem eIf_e {c : DEnv → M Bool} {fa fb : DEnv → M Val} : eIf c fa fb ρ S = bindR (c ρ S) fun b S1 => if b = true then fa ρ S1 else fb ρ S1 := rfl
@[simp] theorem eChain_e {u u' : Val → Val → M Val} {fa fb fc : DEnv → M Val} : eChain u u' fa fb fc ρ S = bindR (fa ρ S) fun a S1 => bindR (fb ρ S1) fun b S2 => bindR (u a b S2) fun z S3 => bindR (toB z S3) fun t S4 => if t = true then bindR (fc ρ S4) fun c S5 => u' b c S5 else some (.pd (.bool false), S4) := by
  unfold eChain
  congr 1
  funext a S1
  congr 1
  funext b S2
  congr 1
  funext z S3
  cases z with
  | obj _ => rfl
  | pd d => cases d with
    | bool b => cases b <;> rfl
    | _ => rfl
/-- what stands behind a statement -/
def seqR (r : Option (Fl × Store)) (k : DEnv → M Fl) : Option (Fl × Store) := match r with
  | none => none
  | some (.nx ρ', S') => k ρ' S'
  | some (.rt d, S') => some (.rt d, S')
  | some (.bk ρ', S') => some (.bk ρ', S')
  | some (.ct ρ', S') => some (.ct ρ', S')
@[simp] theorem seqR_nx {k : DEnv → M Fl} : seqR (some (.nx ρ, S)) k = k ρ S := rfl
@[simp] theorem seqR_rt {d : Val} {k : DEnv → M Fl} : seqR (some (.rt d, S)) k = some (.rt d, S) := rfl
@[simp] theorem seqR_bk {k : DEnv → M Fl} : seqR (some (.bk ρ, S)) k = some (.bk ρ, S) := rfl
@[simp] theorem seqR_ct {k : DEnv → M Fl} : seqR (some (.ct ρ, S)) k = some (.ct ρ, S) := rfl
@[simp] theorem gSeq_e {g1 g2 : DEnv → M Fl} : gSeq g1 g2 ρ S = seqR (g1 ρ S) g2 := rfl
@[simp] theorem gNext_e : gNext ρ S = some (.nx ρ, S) := rfl
@[simp] theorem gAsg_e {fe : DEnv → M Val} {gg : Val → DEnv → M DEnv} : gAsg fe gg ρ S = bindR (fe ρ S) fun d S1 => bindR (gg d ρ S1) fun ρ' S2 => some (.nx ρ', S2) := rfl
@[simp] theorem gRet_e {fe : DEnv → M Val} : gRet fe ρ S = bindR (fe ρ S) fun d S1 => some (.rt d, S1) := rfl
@[simp] theorem gRetN_e : gRetN ρ S = some (.rt (.pd .none), S) := rfl
@[simp] theorem gIf_e {c : DEnv → M Bool} {g1 g2 : DEnv → M Fl} : gIf c g1 g2 ρ S = bindR (c ρ S) fun b S1 => if b = true then g1 ρ S1 else g2 ρ S1 := rfl
@[simp] theorem gExpr_e {fe : DEnv → M Val} : gExpr fe ρ S = bindR (fe ρ S) fun _ S1 => some (.nx ρ, S1) := rfl
@[simp] theorem gBreak_e : gBreak ρ S = some (.bk ρ, S) := rfl
@[simp] theorem gCont_e : gCont ρ S = some (.ct ρ, S) := rfl
@[simp] theorem nName_e {i : Nat} {d : Val} : nName i d ρ S = some (ρ.set i (some d), S) := rfl
@[simp] theorem nsNil_e : nsNil [] ρ S = some (ρ, S) := rfl
@[simp] theorem nsCons_e {g : Val → DEnv → M DEnv} {gs : List Val → DEnv → M DEnv} {d : Val} {r : List Val} : nsCons g gs (d :: r) ρ S = bindR (g d ρ S) fun ρ1 S1 => gs r ρ1 S1 := rfl
@[simp] theorem nTup_e {n : Nat} {gs : List Val → DEnv → M DEnv} {ds : List PyData} : nTup n gs (.pd (.tuple ds)) ρ S = if ds.length = n then gs (ds.map Val.pd) ρ S else none := rfl
@[simp] theorem nSub_e {u : Val → Val → Val → M Unit} {fo fi : DEnv → M Val} {d : Val} : nSub u fo fi d ρ S = bindR (fo ρ S) fun o S1 => bindR (fi ρ S1) fun i S2 => bindR (u o i d S2) fun _ S3 => some (ρ, S3) := rfl
theorem eCall_e {F : List Val → M Val} {n : Nat} {fa : DEnv → M (List Val)} : eCall F n fa ρ S = bindR (fa ρ S) fun ds S1 => if ds.length = n then F ds S1 else none := rfl
@[simp] theorem eCall_0 {F : List Val → M Val} : eCall F 0 aNil ρ S = F [] S := by
  rw [eCall_e]
  rfl
@[simp] theorem eCall_1 {F : List Val → M Val} {f0 : DEnv → M Val} : eCall F 1 (aCons f0 aNil) ρ S = bindR (f0 ρ S) fun a0 S1 => F [a0] S1 := by
  rw [eCall_e]
  cases h0 : f0 ρ S with
  | none => simp [h0]
  | some p0 =>
  obtain ⟨a0, S1⟩ := p0
  simp [h0]
@[simp] theorem eCall_2 {F : List Val → M Val} {f0 f1 : DEnv → M Val} : eCall F 2 (aCons f0 (aCons f1 aNil)) ρ S = bindR (f0 ρ S) fun a0 S1 => bindR (f1 ρ S1) fun a1 S2 => F [a0, a1] S2 := by
  rw [eCall_e]
  cases h0 : f0 ρ S with
  | none => simp [h0]
  | some p0 =>
  obtain ⟨a0, S1⟩ := p0
  cases h1 : f1 ρ S1 with
  | none => simp [h1, h0]
  | some p1 =>
  obtain ⟨a1, S2⟩ := p1
  simp [h0, h1]
@[simp] theorem eCall_3 {F : List Val → M Val} {f0 f1 f2 : DEnv → M Val} : eCall F 3 (aCons f0 (aCons f1 (aCons f2 aNil))) ρ S = bindR (f0 ρ S) fun a0 S1 => bindR (f1 ρ S1) fun a1 S2 => bindR (f2 ρ S2) fun a2 S3 => F [a0, a1, a2] S3 := by
  rw [eCall_e]
  cases h0 : f0 ρ S with
  | none => simp [h0]
  | some p0 =>
  obtain ⟨a0, S1⟩ := p0
  cases h1 : f1 ρ S1 with
  | none => simp [h1, h0]
  | some p1 =>
  obtain ⟨a1, S2⟩ := p1
  cases h2 : f2 ρ S2 with
  | none => simp [h2, h0, h1]
  | some p2 =>
  obtain ⟨a2, S3⟩ := p2
  simp [h0, h1, h2]
@[simp] theorem eCall_4 {F : List Val → M Val} {f0 f1 f2 f3 : DEnv → M Val} : eCall F 4 (aCons f0 (aCons f1 (aCons f2 (aCons f3 aNil)))) ρ S = bindR (f0 ρ S) fun a0 S1 => bindR (f1 ρ S1) fun a1 S2 => bindR (f2 ρ S2) fun a2 S3 => bindR (f3 ρ S3) fun a3 S4 => F [a0, a1, a2, a3] S4 := by
  rw [eCall_e]
  cases h0 : f0 ρ S with
  | none => simp [h0]
  | some p0 =>
  obtain ⟨a0, S1⟩ := p0
  cases h1 : f1 ρ S1 with
  | none => simp [h1, h0]
  | some p1 =>
  obtain ⟨a1, S2⟩ := p1
  cases h2 : f2 ρ S2 with
  | none => simp [h2, h0, h1]
  | some p2 =>
  obtain ⟨a2, S3⟩ := p2
  cases h3 : f3 ρ S3 with
  | none => simp [h3, h0, h1, h2]
  | some p3 =>
  obtain ⟨a3, S4⟩ := p3
  simp [h0, h1, h2, h3]
@[simp] theorem eCall_5 {F : List Val → M Val} {f0 f1 f2 f3 f4 : DEnv → M Val} : eCall F 5 (aCons f0 (aCons f1 (aCons f2 (aCons f3 (aCons f4 aNil))))) ρ S = bindR (f0 ρ S) fun a0 S1 => bindR (f1 ρ S1) fun a1 S2 => bindR (f2 ρ S2) fun a2 S3 => bindR (f3 ρ S3) fun a3 S4 => bindR (f4 ρ S4) fun a4 S5 => F [a0, a1, a2, a3, a4] S5 := by
  rw [eCall_e]
  cases h0 : f0 ρ S with
  | none => simp [h0]
  | some p0 =>
  obtain ⟨a0, S1⟩ := p0
  cases h1 : f1 ρ S1 with
  | none => simp [h1, h0]
  | some p1 =>
  obtain ⟨a1, S2⟩ := p1
  cases h2 : f2 ρ S2 with
  | none => simp [h2, h0, h1]
  | some p2 =>
  obtain ⟨a2, S3⟩ := p2
  cases h3 : f3 ρ S3 with
  | none => simp [h3, h0, h1, h2]
  | some p3 =>
  obtain ⟨a3, S4⟩ := p3
  cases h4 : f4 ρ S4 with
  | none => simp [h4, h0, h1, h2, h3]
  | some p4 =>
  obtain ⟨a4, S5⟩ := p4
  simp [h0, h1, h2, h3, h4]
@[simp] theorem eCall_6 {F : List Val → M Val} {f0 f1 f2 f3 f4 f5 : DEnv → M Val} : eCall F 6 (aCons f0 (aCons f1 (aCons f2 (aCons f3 (aCons f4 (aCons f5 aNil)))))) ρ S = bindR (f0 ρ S) fun a0 S1 => bindR (f1 ρ S1) fun a1 S2 => bindR (f2 ρ S2) fun a2 S3 => bindR (f3 ρ S3) fun a3 S4 => bindR (f4 ρ S4) fun a4 S5 => bindR (f5 ρ S5) fun a5 S6 => F [a0, a1, a2, a3, a4, a5] S6 := by
  rw [eCall_e]
  cases h0 : f0 ρ S with
  | none => simp [h0]
  | some p0 =>
  obtain ⟨a0, S1⟩ := p0
  cases h1 : f1 ρ S1 with
  | none => simp [h1, h0]
  | some p1 =>
  obtain ⟨a1, S2⟩ := p1
  cases h2 : f2 ρ S2 with
  | none => simp [h2, h0, h1]
  | some p2 =>
  obtain ⟨a2, S3⟩ := p2
  cases h3 : f3 ρ S3 with
  | none => simp [h3, h0, h1, h2]
  | some p3 =>
  obtain ⟨a3, S4⟩ := p3
  cases h4 : f4 ρ S4 with
  | none => simp [h4, h0, h1, h2, h3]
  | some p4 =>
  obtain ⟨a4, S5⟩ := p4
  cases h5 : f5 ρ S5 with
  | none => simp [h5, h0, h1, h2, h3, h4]
  | some p5 =>
  obtain ⟨a5, S6⟩ := p5
  simp [h0, h1, h2, h3, h4, h5]
@[simp] theorem eCall_7 {F : List Val → M Val} {f0 f1 f2 f3 f4 f5 f6 : DEnv → M Val} : eCall F 7 (aCons f0 (aCons f1 (aCons f2 (aCons f3 (aCons f4 (aCons f5 (aCons f6 aNil))))))) ρ S = bindR (f0 ρ S) fun a0 S1 => bindR (f1 ρ S1) fun a1 S2 => bindR (f2 ρ S2) fun a2 S3 => bindR (f3 ρ S3) fun a3 S4 => bindR (f4 ρ S4) fun a4 S5 => bindR (f5 ρ S5) fun a5 S6 => bindR (f6 ρ S6) fun a6 S7 => F [a0, a1, a2, a3, a4, a5, a6] S7 := by
  rw [eCall_e]
  cases h0 : f0 ρ S with
  | none => simp [h0]
  | some p0 =>
  obtain ⟨a0, S1⟩ := p0
  cases h1 : f1 ρ S1 with
  | none => simp [h1, h0]
  | some p1 =>
  obtain ⟨a1, S2⟩ := p1
  cases h2 : f2 ρ S2 with
  | none => simp [h2, h0, h1]
  | some p2 =>
  obtain ⟨a2, S3⟩ := p2
  cases h3 : f3 ρ S3 with
  | none => simp [h3, h0, h1, h2]
  | some p3 =>
  obtain ⟨a3, S4⟩ := p3
  cases h4 : f4 ρ S4 with
  | none => simp [h4, h0, h1, h2, h3]
  | some p4 =>
  obtain ⟨a4, S5⟩ := p4
  cases h5 : f5 ρ S5 with
  | none => simp [h5, h0, h1, h2, h3, h4]
  | some p5 =>
  obtain ⟨a5, S6⟩ := p5
  cases h6 : f6 ρ S6 with
  | none => simp [h6, h0, h1, h2, h3, h4, h5]
  | some p6 =>
  obtain ⟨a6, S7⟩ := p6
  simp [h0, h1, h2, h3, h4, h5, h6]
@[simp] theorem eBM_e {T : String} {u : Val → List Val → M Val} {fo : DEnv → M Val} {fa : DEnv → M (List Val)} : eBM T u fo fa ρ S = bindR (fo ρ S) fun o S1 => if isTy T o S1 = true then bindR (fa ρ S1) fun ds S2 => u o ds S2 else none := rfl
/-- a call's end -/
def endR (r : Option (Fl × Store)) (ex : Val → M Val) : Option (Val × Store) := match r with
  | some (.nx _, S') => ex (.pd .none) S'
  | some (.rt d, S') => ex d S'
  | _ => none
@[simp] theorem endR_nx {ex : Val → M Val} : endR (some (.nx ρ, S)) ex = ex (.pd .none) S := rfl
@[simp] theorem endR_rt {ex : Val → M Val} {d : Val} : endR (some (.rt d, S)) ex = ex d S := rfl
theorem fnF_e {n : Nat} {g : DEnv → M Fl} {ex : Nat → Val → M Val} {ds : List Val} : fnF n g ex ds S = endR (g (startD n ds) S) (ex S.length) := by
  unfold fnF endR
  split <;> simp_all
/-! operations -/
variable {i j : Int}
@[simp] theorem uAdd_int : uAdd (.pd (.int i)) (.pd (.int j)) S = some (.pd (.int (i + j)), S) := rfl
@[simp] theorem uSub_int : uSub (.pd (.int i)) (.pd (.int j)) S = some (.pd (.int (i - j)), S) := rfl
@[simp] theorem uMul_int : uMul (.pd (.int i)) (.pd (.int j)) S = if CMul i j ∨ CMulW i j then some (.pd (.int (i * j)), S) else none := rfl
@[simp] theorem uMod_int : uMod (.pd (.int i)) (.pd (.int j)) S = if 0 < j then some (.pd (.int (i % j)), S) else none := rfl
@[simp] theorem uDiv_int : uDiv (.pd (.int i)) (.pd (.int j)) S = if 0 < j ∧ (j < 1073741824 ∨ j.natAbs.log2 < 9000) then some (.pd (.int (i / j)), S) else none := rfl
@[simp] theorem uLt_int {p : Int → Int → Bool} : uLt p (.pd (.int i)) (.pd (.int j)) S = some (.pd (.bool (p i j)), S) := rfl
@[simp] theorem uNeg_int : uNeg (.pd (.int i)) S = some (.pd (.int (-i)), S) := rfl
@[simp] theorem uInt_int : uInt [.pd (.int i)] S = some (.pd (.int i), S) := rfl
@[simp] theorem uInt_bool {b : Bool} : uInt [.pd (.bool b)] S = some (.pd (.int (if b then 1 else 0)), S) := rfl
@[simp] theorem shaped_int : SeqAt.shaped (.int i) = true := by
  unfold SeqAt.shaped
  simp [PyData.canLay0, PyData.depth]
@[simp] theorem shaped_bool {b : Bool} : SeqAt.shaped (.bool b) = true := by
  unfold SeqAt.shaped
  simp [PyData.canLay0, PyData.depth]
@[simp] theorem shaped_none : SeqAt.shaped .none = true := by
  unfold SeqAt.shaped
  simp [PyData.canLay0, PyData.depth]
theorem beqI : (i == j) = decide (i = j) := by
  by_cases h : i = j <;> simp [h]
@[simp] theorem uEq_int : uEq (.pd (.int i)) (.pd (.int j)) S = some (.pd (.bool (decide (i = j))), S) := by
  simp [uEq, toD, PyData.eqv, beqI]
@[simp] theorem uNe_int : uNe (.pd (.int i)) (.pd (.int j)) S = some (.pd (.bool (!decide (i = j))), S) := by
  simp [uNe, toD, PyData.eqv, beqI]
@[simp] theorem uEq_bool {a b : Bool} : uEq (.pd (.bool a)) (.pd (.bool b)) S = some (.pd (.bool (a == b)), S) := by
  simp [uEq, toD, PyData.eqv]
@[simp] theorem uNe_bool {a b : Bool} : uNe (.pd (.bool a)) (.pd (.bool b)) S = some (.pd (.bool (!(a == b))), S) := by
  simp [uNe, toD, PyData.eqv]
@[simp] theorem uIs_none {a : Val} : uIs a (.pd .none) S = some (.pd (.bool (isNon a)), S) := rfl
@[simp] theorem uIsNot_none {a : Val} : uIsNot a (.pd .none) S = some (.pd (.bool (!isNon a)), S) := rfl
@[simp] theorem isNon_none : isNon (.pd .none) = true := rfl
@[simp] theorem isNon_int : isNon (.pd (.int i)) = false := rfl
@[simp] theorem isNon_obj {h : Nat} : isNon (.obj h) = false := rfl
@[simp] theorem uPow_int : uPow (.pd (.int i)) (.pd (.int j)) S = if CPow i j then some (.pd (.int (i ^ j.toNat)), S) else none := rfl
@[simp] theorem uTup_e {ds : List PyData} (h : ds.length ≤ 16777216) : uTup (ds.map Val.pd) S = some (.pd (.tuple ds), S) := by
  simp [uTup, h]
@[simp] theorem allPd_nil : allPd [] = some [] := rfl
@[simp] theorem allPd_cons {d : PyData} {r : List Val} : allPd (.pd d :: r) = (allPd r).map (d :: ·) := rfl
/-- items -/
theorem uIx_list {xs : List PyData} : uIx (.pd (.list xs)) (.pd (.int i)) S = (atI xs i).map fun d => (.pd d, S) := by
  simp only [uIx, getV, Option.bind_some, atI_map]
  cases atI xs i <;> rfl
theorem uIx_tup {xs : List PyData} : uIx (.pd (.tuple xs)) (.pd (.int i)) S = (atI xs i).map fun d => (.pd d, S) := rfl
theorem uIx_obj {h : Nat} {xs : List PyData} (e : S[h]? = some (.lst xs)) : uIx (.obj h) (.pd (.int i)) S = (atI xs i).map fun d => (.pd d, S) := by
  simp only [uIx, getV, e, Option.bind_some, atI_map]
  cases atI xs i <;> rfl
/-! the newest object -/
theorem get_app {S0 : Store} {n : Nat} {o : Ob} (hn : S0.length = n) : (S0 ++ [o])[n]? = some o := by
  subst hn
  simp
theorem set_app {S0 : Store} {n : Nat} {o o' : Ob} (hn : S0.length = n) : (S0 ++ [o]).set n o' = S0 ++ [o'] := by
  subst hn
  simp
@[simp] theorem isTy_app {S0 : Store} {n : Nat} {xs : List PyData} (hn : S0.length = n) : isTy "list" (.obj n) (S0 ++ [.lst xs]) = true := by
  simp [isTy, get_app hn]
@[simp] theorem uAppend_app {S0 : Store} {n : Nat} {xs : List PyData} {d : PyData} (hn : S0.length = n) : uAppend (.obj n) [.pd d] (S0 ++ [.lst xs]) = if xs.length < 16777216 then some (.pd .none, S0 ++ [.lst (xs ++ [d])]) else none := by
  simp [uAppend, get_app hn, set_app hn]
@[simp] theorem uIx_app {S0 : Store} {n : Nat} {xs : List PyData} (hn : S0.length = n) : uIx (.obj n) (.pd (.int i)) (S0 ++ [.lst xs]) = (atI xs i).map fun d => (.pd d, S0 ++ [.lst xs]) := by
  have e := get_app (o := .lst xs) hn
  simp only [uIx, getV, e, Option.bind_some, atI_map]
  cases atI xs i <;> rfl
theorem uIx_set {h : Nat} {xs : List PyData} (hh : h < S.length) : uIx (.obj h) (.pd (.int i)) (S.set h (.lst xs)) = (atI xs i).map fun d => (.pd d, S.set h (.lst xs)) := uIx_obj (List.getElem?_set_self hh)
theorem atI_in {α : Type} {xs : List α} {n : Nat} (h : n < xs.length) : atI xs (n : Int) = xs[n]? := by
  unfold atI ixN
  rw [if_pos (by omega), if_pos (by omega)]
  simp
theorem atI_pos {α : Type} {xs : List α} (h0 : 0 ≤ i) (h : i < xs.length) : atI xs i = xs[i.toNat]? := by
  unfold atI ixN
  rw [if_pos h0, if_pos h]
  simp
theorem getD_lt {α : Type} {xs : List α} {n : Nat} {d : α} (h : n < xs.length) : xs.getD n d = xs[n] := by
  simp [List.getD, h]
/-- an item of a mapped list -/
theorem atI_mapD {α β : Type} {f : α → β} {xs : List α} {d : α} (h0 : 0 ≤ i) (h : i < xs.length) : atI (xs.map f) i = some (f (xs.getD i.toNat d)) := by
  have hl : i.toNat < xs.length := by omega
  rw [atI_pos h0 (by simpa using h), getD_lt hl]
  simp [hl]
theorem ixN_pos {n : Nat} (h0 : 0 ≤ i) (h : i < n) : ixN n i = some i.toNat := by
  unfold ixN
  rw [if_pos h0, if_pos h]
theorem uSet_obj {h : Nat} {xs : List PyData} {d : PyData} (e : S[h]? = some (.lst xs)) (h0 : 0 ≤ i) (h1 : i < xs.length) : uSet (.obj h) (.pd (.int i)) (.pd d) S = some ((), S.set h (.lst (xs.set i.toNat d))) := by
  unfold uSet
  simp [e, ixN_pos h0 h1]
/-- an item of some, at an open place -/
theorem uIx_some {xs : List PyData} (h0 : 0 ≤ i) (h : i < xs.length) : ∃ d, d ∈ xs ∧ uIx (.pd (.list xs)) (.pd (.int i)) S = some (.pd d, S) := by
  have hl : i.toNat < xs.length := by omega
  refine ⟨xs[i.toNat], List.getElem_mem _, ?_⟩
  rw [uIx_list, atI_pos h0 h]
  simp [hl]
theorem exitF_same {n : Nat} {d : Val} (h : S.length = n) : exitF n d S = some (d, S) := by
  unfold exitF
  rw [if_pos h]
/-- the store's objects speak of one another alone -/
def Wf (S : Store) : Prop := ∀ o ∈ S, Ob.blw S.length o = true
theorem Wf.set {S : Store} (w : Wf S) {h : Nat} {o : Ob} (ho : o.blw S.length = true) : Wf (S.set h o) := by
  intro u hu
  rw [List.length_set]
  rcases List.mem_or_eq_of_mem_set hu with z | rfl
  · exact w u z
  · exact ho
theorem Val.blw_mono {n m : Nat} (h : n ≤ m) : ∀ {d : Val}, d.blw n = true → d.blw m = true
  | .pd _, _ => rfl
  | .obj i, q => by
    simp [Val.blw] at q ⊢
    omega
theorem Ob.blw_mono {n m : Nat} (h : n ≤ m) {o : Ob} (q : o.blw n = true) : o.blw m = true := by
  have vs : ∀ xs : List Val, xs.all (Val.blw n) = true → xs.all (Val.blw m) = true := fun xs q => by
    rw [List.all_eq_true] at q ⊢
    exact fun x hx => Val.blw_mono h (q x hx)
  have kv : ∀ {κ : Type} (xs : List (κ × Val)), (xs.all fun p => p.2.blw n) = true → (xs.all fun p => p.2.blw m) = true := fun xs q => by
    rw [List.all_eq_true] at q ⊢
    exact fun x hx => Val.blw_mono h (q x hx)
  cases o with
  | lsv xs => exact vs xs q
  | tpv xs => exact vs xs q
  | dV xs => exact kv xs q
  | ins c fs => exact kv fs q
  | lock u =>
    cases u with
    | lsv xs => exact vs xs q
    | _ => rfl
  | _ => rfl
theorem Wf.app {S : Store} (w : Wf S) {o : Ob} (ho : o.blw (S.length + 1) = true) : Wf (S ++ [o]) := by
  intro u hu
  rw [List.length_append]
  rcases List.mem_append.mp hu with z | z
  · exact Ob.blw_mono (by simp) (w u z)
  · simp at z
    subst z
    exact ho
theorem exitF_app {S S1 : Store} {d : PyData} (h : Wf S) : exitF S.length (.pd d) (S ++ S1) = some (.pd d, S) := by
  unfold exitF
  by_cases h1 : S1 = []
  · subst h1
    simp
  · rw [if_neg (by cases S1 with
      | nil => exact absurd rfl h1
      | cons a r => simp), if_pos ⟨by
        simp only [List.take_left]
        exact List.all_eq_true.mpr h, by simp⟩]
    simp
theorem exitF_app' {S0 : Store} {n : Nat} {o : Ob} {d : PyData} (w : Wf S0) (hn : S0.length = n) : exitF n (.pd d) (S0 ++ [o]) = some (.pd d, S0) := by
  subst hn
  exact exitF_app w
theorem exitN_app {S : Store} {o : Ob} (h : Wf S) (ho : o.blw S.length = true) (hl : ∀ u, o ≠ .lock u) : exitN S.length (.obj S.length) (S ++ [o]) = some (.obj S.length, S ++ [o]) := by
  unfold exitN
  rw [if_pos ⟨by
    simp only [List.take_left]
    exact List.all_eq_true.mpr h, by simp⟩]
  simp [ho, hl]
end
theorem log2_lt {m : Int} (h : 0 < m ∧ m < 1073741824 * 4) : m.natAbs.log2 < 9000 := by
  have h1 : m.natAbs < 2 ^ 32 := by omega
  have h2 : m.natAbs ≠ 0 := by omega
  exact Nat.lt_trans ((Nat.log2_lt h2).mpr h1) (by omega)
/-! loops -/
section
variable {gg : Val → DEnv → M DEnv} {gb : DEnv → M Fl}
/-- one turn of a loop -/
def turnG (gg : Val → DEnv → M DEnv) (gb : DEnv → M Fl) (d : Val) : DEnv → M Fl := fun ρ S => bindR (gg d ρ S) fun ρ1 S1 => gb ρ1 S1
@[simp] theorem loopG_nil {ρ : DEnv} {S : Store} : loopG gg gb [] ρ S = some (.nx ρ, S) := rfl
theorem loopG_cons {d : Val} {ds : List Val} {ρ : DEnv} {S : Store} : loopG gg gb (d :: ds) ρ S = match turnG gg gb d ρ S with
    | none => none
    | some (.nx ρ2, S2) => loopG gg gb ds ρ2 S2
    | some (.ct ρ2, S2) => loopG gg gb ds ρ2 S2
    | some (.bk ρ2, S2) => some (.nx ρ2, S2)
    | some (.rt d, S2) => some (.rt d, S2) := by
  show (bindR (gg d ρ S) _ : Option (Fl × Store)) = _
  unfold turnG
  cases gg d ρ S with
  | none => rfl
  | some p => rfl
/-- a loop that goes through, by what holds between its turns -/
theorem loopG_inv {I : List Val → DEnv → Store → Prop} : ∀ (ds : List Val) (ρ : DEnv) (S : Store), I ds ρ S → (∀ d r ρ S, I (d :: r) ρ S → ∃ ρ' S', turnG gg gb d ρ S = some (.nx ρ', S') ∧ I r ρ' S') → ∃ ρ' S', loopG gg gb ds ρ S = some (.nx ρ', S') ∧ I [] ρ' S'
  | [], ρ, S, h, _ => ⟨ρ, S, rfl, h⟩
  | d :: r, ρ, S, h, t => by
    obtain ⟨ρ1, S1, e1, h1⟩ := t d r ρ S h
    obtain ⟨ρ2, S2, e2, h2⟩ := loopG_inv r ρ1 S1 h1 t
    exact ⟨ρ2, S2, by rw [loopG_cons, e1]; exact e2, h2⟩
@[simp] theorem gFor_e {fi : DEnv → M Iter} {ρ : DEnv} {S : Store} : gFor fi gg gb ρ S = bindR (fi ρ S) fun it S1 => bindR (loopG gg gb it.items ρ S1) fun fl S2 => some (fl, it.un S2) := rfl
def rng1 (d : Val) : M Iter := fun S => match d with
  | .pd (.int j) => if -(2 ^ 62) ≤ j ∧ j < 2 ^ 62 then some (⟨rgI 0 j.toNat, none⟩, S) else none
  | _ => none
@[simp] theorem rng1_int {j : Int} {S : Store} : rng1 (.pd (.int j)) S = if -(2 ^ 62) ≤ j ∧ j < 2 ^ 62 then some (⟨rgI 0 j.toNat, none⟩, S) else none := rfl
@[simp] theorem iRng1_e {f : DEnv → M Val} {ρ : DEnv} {S : Store} : DM.iRng1 f ρ S = bindR (f ρ S) fun d S1 => rng1 d S1 := rfl
def rng2 (d e : Val) : M Iter := fun S => match d, e with
  | .pd (.int i), .pd (.int j) => if -(2 ^ 62) ≤ i ∧ i < 2 ^ 62 ∧ -(2 ^ 62) ≤ j ∧ j < 2 ^ 62 then some (⟨rgI i (j - i).toNat, none⟩, S) else none
  | _, _ => none
@[simp] theorem rng2_int {i j : Int} {S : Store} : rng2 (.pd (.int i)) (.pd (.int j)) S = if -(2 ^ 62) ≤ i ∧ i < 2 ^ 62 ∧ -(2 ^ 62) ≤ j ∧ j < 2 ^ 62 then some (⟨rgI i (j - i).toNat, none⟩, S) else none := rfl
@[simp] theorem iRng2_e {f g : DEnv → M Val} {ρ : DEnv} {S : Store} : DM.iRng2 f g ρ S = bindR (f ρ S) fun d S1 => bindR (g ρ S1) fun e S2 => rng2 d e S2 := rfl
def seqI (d : Val) : M Iter := fun S => match d with
  | .pd (.list xs) => some (⟨xs.map Val.pd, none⟩, S)
  | .pd (.tuple xs) => some (⟨xs.map Val.pd, none⟩, S)
  | .obj h => match S[h]? with
    | some (.lst xs) => some (⟨xs.map Val.pd, some (h, .lst xs)⟩, S.set h (.lock (.lst xs)))
    | some (.lsv xs) => some (⟨xs, some (h, .lsv xs)⟩, S.set h (.lock (.lsv xs)))
    | some (.lock (.lst xs)) => some (⟨xs.map Val.pd, none⟩, S)
    | some (.lock (.lsv xs)) => some (⟨xs, none⟩, S)
    | _ => none
  | _ => none
@[simp] theorem iSeq_e {f : DEnv → M Val} {ρ : DEnv} {S : Store} : iSeq f ρ S = bindR (f ρ S) fun d S1 => seqI d S1 := by
  unfold iSeq
  split
  · rename_i xs S1 h
    rw [h]
    rfl
  · rename_i h
    unfold iList
    cases e : f ρ S with
    | none => rfl
    | some p =>
      obtain ⟨d, S1⟩ := p
      simp only [bindR_some]
      cases d with
      | obj i => rfl
      | pd d =>
        cases d with
        | tuple xs => exact absurd e (h xs S1)
        | _ => rfl
@[simp] theorem seqI_list {xs : List PyData} {S : Store} : seqI (.pd (.list xs)) S = some (⟨xs.map Val.pd, none⟩, S) := rfl
@[simp] theorem seqI_tup {xs : List PyData} {S : Store} : seqI (.pd (.tuple xs)) S = some (⟨xs.map Val.pd, none⟩, S) := rfl
@[simp] theorem un_none {xs : List Val} {S : Store} : Iter.un ⟨xs, none⟩ S = S := rfl
theorem loopW_s {c : DEnv → M Bool} {n : Nat} {ρ : DEnv} {S : Store} : loopW c gb (n + 1) ρ S = bindR (c ρ S) fun b S1 => if b = true then (match gb ρ S1 with
    | none => none
    | some (.nx ρ2, S2) => loopW c gb n ρ2 S2
    | some (.ct ρ2, S2) => loopW c gb n ρ2 S2
    | some (.bk ρ2, S2) => some (.nx ρ2, S2)
    | some (.rt d, S2) => some (.rt d, S2))
    else some (.nx ρ, S1) := rfl
@[simp] theorem fNo_e {ρ : DEnv} {S : Store} : fNo ρ S = some (none, S) := rfl
/-- a part of a slice -/
def asI (d : Val) : M (Option Int) := fun S => match d with
  | .pd (.int i) => some (some i, S)
  | _ => none
@[simp] theorem asI_int {i : Int} {S : Store} : asI (.pd (.int i)) S = some (some i, S) := rfl
@[simp] theorem fPart_e {f : DEnv → M Val} {ρ : DEnv} {S : Store} : fPart f ρ S = bindR (f ρ S) fun d S1 => asI d S1 := rfl
@[simp] theorem eSl_e {u : Val → Option Int → Option Int → M Val} {fe : DEnv → M Val} {fl fh : DEnv → M (Option Int)} {ρ : DEnv} {S : Store} : eSl u fe fl fh ρ S = bindR (fe ρ S) fun d S1 => bindR (fl ρ S1) fun lo S2 => bindR (fh ρ S2) fun hi S3 => u d lo hi S3 := rfl
@[simp] theorem cutP_take {α : Type} {xs : List α} {n : Nat} : cutP xs none (some (n : Int)) = xs.take n := by
  unfold cutP
  rw [HT.sIx_none, HT.sIx_nat, List.drop_zero, Nat.sub_zero]
  rcases Nat.le_total n xs.length with h | h
  · rw [Nat.min_eq_left h]
  · rw [Nat.min_eq_right h, List.take_of_length_le (Nat.le_refl _), List.take_of_length_le h]
@[simp] theorem cutP_takeL {α : Type} {xs : List α} {n : Nat} : cutP xs none (some (OfNat.ofNat n : Int)) = xs.take n := cutP_take
@[simp] theorem cutP_drop {α : Type} {xs : List α} {n : Nat} : cutP xs (some (n : Int)) none = xs.drop n := by
  unfold cutP
  rw [HT.sIx_none, HT.sIx_nat]
  rcases Nat.le_total n xs.length with h | h
  · rw [Nat.min_eq_left h, List.take_of_length_le (by simp)]
  · rw [Nat.min_eq_right h, List.drop_of_length_le (Nat.le_refl _), List.drop_of_length_le h]
    simp
@[simp] theorem cutP_dropL {α : Type} {xs : List α} {n : Nat} : cutP xs (some (OfNat.ofNat n : Int)) none = xs.drop n := cutP_drop
@[simp] theorem uAdd_list {S : Store} {xs ys : List PyData} : uAdd (.pd (.list xs)) (.pd (.list ys)) S = if xs.length + ys.length ≤ 16777216 then some (.pd (.list (xs ++ ys)), S) else none := rfl
theorem uSl_scr {S : Store} {h : Nat} {xs : List PyData} {lo hi : Option Int} (e : S[h]? = some (.scr xs)) : uSl (.obj h) lo hi S = some (.pd (.list (cutP xs lo hi)), S) := by
  simp [uSl, getL, e]
@[simp] theorem uSl_scr0 {T : Store} {xs : List PyData} {lo hi : Option Int} : uSl (.obj 0) lo hi (.scr xs :: T) = some (.pd (.list (cutP xs lo hi)), .scr xs :: T) := uSl_scr rfl
@[simp] theorem uSl_list {S : Store} {xs : List PyData} {lo hi : Option Int} : uSl (.pd (.list xs)) lo hi S = some (.pd (.list (cutP xs lo hi)), S) := rfl
end
end DM
set_option Elab.async false
set_option linter.all false
set_option maxRecDepth 100000
/-! bits turned about -/
namespace DM
def rev : Nat → Nat → Nat
  | 0, _ => 0
  | k + 1, m => 2 ^ k * (m % 2) + rev k (m / 2)
theorem rev_lt : ∀ (k m : Nat), rev k m < 2 ^ k
  | 0, _ => by simp [rev]
  | k + 1, m => by
    have h := rev_lt k (m / 2)
    unfold rev
    have : m % 2 = 0 ∨ m % 2 = 1 := by omega
    rcases this with e | e <;> rw [e] <;> rw [Nat.pow_succ] <;> omega
theorem rev_add : ∀ (a b m : Nat), rev (a + b) m = rev a m * 2 ^ b + rev b (m / 2 ^ a)
  | 0, b, m => by simp [rev]
  | a + 1, b, m => by
    have ih := rev_add a b (m / 2)
    have e : a + 1 + b = (a + b) + 1 := by omega
    rw [e]
    show 2 ^ (a + b) * (m % 2) + rev (a + b) (m / 2) = (2 ^ a * (m % 2) + rev a (m / 2)) * 2 ^ b + rev b (m / 2 ^ (a + 1))
    have e3 : m / 2 / 2 ^ a = m / 2 ^ (a + 1) := by rw [Nat.div_div_eq_div_mul, Nat.pow_succ, Nat.mul_comm]
    rw [ih, Nat.pow_add, e3, Nat.add_mul]
    have h : 2 ^ a * 2 ^ b * (m % 2) = 2 ^ a * (m % 2) * 2 ^ b := by rw [Nat.mul_assoc, Nat.mul_comm (2 ^ b), ← Nat.mul_assoc]
    omega
theorem rev_mod : ∀ (a m : Nat), rev a m = rev a (m % 2 ^ a)
  | 0, m => by simp [rev]
  | a + 1, m => by
    have ih := rev_mod a (m / 2)
    have ih2 := rev_mod a (m % 2 ^ (a + 1) / 2)
    have e1 : m % 2 ^ (a + 1) % 2 = m % 2 := Nat.mod_mod_of_dvd m ⟨2 ^ a, by rw [Nat.pow_succ, Nat.mul_comm]⟩
    have e2 : m % 2 ^ (a + 1) / 2 = m / 2 % 2 ^ a := by
      rw [Nat.pow_succ, Nat.mul_comm, Nat.mod_mul_right_div_self]
    unfold rev
    rw [e1, e2, ← ih]
/-- the upper part, the lower part -/
theorem rev_div (a b m : Nat) : rev (a + b) m / 2 ^ b = rev a m := by
  rw [rev_add, Nat.add_comm, Nat.add_mul_div_right _ _ (Nat.two_pow_pos b), Nat.div_eq_of_lt (rev_lt b _), Nat.zero_add]
theorem rev_low (a b m : Nat) : rev (a + b) m % 2 ^ b = rev b (m / 2 ^ a) := by
  rw [rev_add, Nat.add_comm, Nat.add_mul_mod_self_right, Nat.mod_eq_of_lt (rev_lt b _)]
theorem rev_one (m : Nat) : rev 1 m = m % 2 := by simp [rev]
theorem rev_snoc (k m : Nat) : rev (k + 1) m = 2 * rev k m + m / 2 ^ k % 2 := by
  rw [rev_add, rev_one, Nat.pow_one]
  omega
theorem rev_rev : ∀ (k m : Nat), rev k (rev k m) = m % 2 ^ k
  | 0, m => by simp [rev, Nat.mod_one]
  | k + 1, m => by
    have ih := rev_rev k (m / 2)
    have h1 : rev (k + 1) m = 2 ^ k * (m % 2) + rev k (m / 2) := rfl
    rw [rev_snoc k (rev (k + 1) m), rev_mod k (rev (k + 1) m)]
    have e1 : rev (k + 1) m % 2 ^ k = rev k (m / 2) := by
      rw [h1, Nat.mul_add_mod, Nat.mod_eq_of_lt (rev_lt k _)]
    have e2 : rev (k + 1) m / 2 ^ k = m % 2 := by
      rw [h1, Nat.mul_add_div (Nat.two_pow_pos k), Nat.div_eq_of_lt (rev_lt k _), Nat.add_zero]
    rw [e1, e2, ih, Nat.pow_succ, Nat.mul_comm (2 ^ k) 2, Nat.mod_mul]
    omega
theorem rev_inj {k a b : Nat} (ha : a < 2 ^ k) (hb : b < 2 ^ k) (h : rev k a = rev k b) : a = b := by
  have := congrArg (rev k) h
  rw [rev_rev, rev_rev, Nat.mod_eq_of_lt ha, Nat.mod_eq_of_lt hb] at this
  exact this
/-- as it is reckoned -/
def revA : Nat → Int → Int → Int
  | 0, _, p => p
  | k + 1, m, p => revA k (m / 2) (2 * p + m % 2)
theorem revA_eq : ∀ (k m p : Nat), revA k (m : Int) (p : Int) = ((p * 2 ^ k + rev k m : Nat) : Int)
  | 0, m, p => by simp [revA, rev]
  | k + 1, m, p => by
    have e1 : ((m : Int) / 2) = ((m / 2 : Nat) : Int) := by simp
    have e2 : (2 * (p : Int) + (m : Int) % 2) = ((2 * p + m % 2 : Nat) : Int) := by simp
    unfold revA rev
    rw [e1, e2, revA_eq k (m / 2) (2 * p + m % 2)]
    congr 1
    rw [Nat.add_mul, Nat.pow_succ, Nat.mul_comm (m % 2), Nat.mul_comm 2 p, Nat.mul_assoc, Nat.mul_comm 2 (2 ^ k)]
    omega
/-- two numbers that part at the bit j -/
theorem part_mod {a b j : Nat} (h1 : a % 2 ^ j = b % 2 ^ j) (h2 : a / 2 ^ j % 2 ≠ b / 2 ^ j % 2) (s : Nat) : a % 2 ^ s = b % 2 ^ s ↔ s ≤ j := by
  constructor
  · intro h
    rcases Nat.lt_or_ge j s with hs | hs
    · exfalso
      apply h2
      have hd : ∀ x : Nat, x / 2 ^ j % 2 = x % 2 ^ s / 2 ^ j % 2 := fun x => by
        have e : 2 ^ s = 2 ^ j * (2 * 2 ^ (s - j - 1)) := by
          rw [← Nat.pow_succ', ← Nat.pow_add]
          congr 1
          omega
        rw [e, Nat.mod_mul_right_div_self, Nat.mod_mod_of_dvd _ ⟨_, rfl⟩]
      rw [hd a, hd b, h]
    · exact hs
  · intro h
    have hd : ∀ x : Nat, x % 2 ^ s = x % 2 ^ j % 2 ^ s := fun x => (Nat.mod_mod_of_dvd x (Nat.pow_dvd_pow 2 h)).symm
    rw [hd a, hd b, h1]
end DM
set_option Elab.async false
set_option linter.all false
set_option maxRecDepth 100000
set_option maxHeartbeats 4000000
/-! DMMore: isinstance, int(text, 2), and what else the laws ask -/
namespace DM
open PySem L2 PyProof.Rows
section
variable {K : PySem.W.Frag} {cl : Nat → Addr} {wd : Wd} {S : Store} {H : Hp}
theorem TyX.rdL {a : Addr} {xs : List V} (h : Rd H a (.lst xs)) : TyX K H (.ref a) (.type "list") := by
  rcases h with h | ⟨o, h⟩
  · exact .base (.lst h)
  · exact .base (.frz h)
/-- a value's type's name -/
def tyN (d : Val) (S : Store) : Option String := match d with
  | .pd .none => some "NoneType"
  | .pd (.bool _) => some "bool"
  | .pd (.int _) => some "int"
  | .pd (.str _) => some "str"
  | .pd (.list _) => some "list"
  | .pd (.tuple _) => some "tuple"
  | .pd (.dict _) => none
  | .obj h => match S[h]? with
    | some (.lst _) => some "list"
    | some (.lsv _) => some "list"
    | some (.lock (.lst _)) => some "list"
    | some (.lock (.lsv _)) => some "list"
    | some (.dK _) => some "dict"
    | some (.dV _) => some "dict"
    | some (.dT _) => some "dict"
    | _ => none
theorem FzT.ty {O : Addr → Prop} {a : Addr} {xs : List V} (h : FzT K H O a xs) : TyX K H (.ref a) (.type "tuple") := .base (.tup h.1)
theorem WR.tyN {v : V} {d : Val} {T : String} (w : WR K cl wd S H) (r : RV K wd S.length H v d) (h : DM.tyN d S = some T) : TyX K H v (.type T) := by
  unfold DM.tyN at h
  split at h
  · cases h; cases r; exact .base .non
  · cases h; cases r; exact .base (.bl _)
  · cases h; cases r; exact .base (.int _)
  · cases h; cases r; exact .base (.str _)
  · cases h; cases r with
    | lst f q => exact DM.TyX.rdL f.1
  · cases h; cases r with
    | tup f q => exact f.ty
  · cases h
  · obtain ⟨hi, rfl⟩ := r
    split at h
    · rename_i e
      obtain ⟨f, vs, e1, q⟩ := w.ob _ _ e
      cases h
      exact .base (.lst e1)
    · rename_i e
      obtain ⟨f, vs, e1, q⟩ := w.ob _ _ e
      cases h
      exact .base (.lst e1)
    · rename_i e
      obtain ⟨f, vs, e1, q⟩ := w.ob _ _ e
      cases h
      exact .base (.lst e1)
    · rename_i e
      obtain ⟨f, vs, e1, q⟩ := w.ob _ _ e
      cases h
      exact .base (.lst e1)
    · rename_i e
      obtain ⟨f, vs, e1, q⟩ := w.ob _ _ e
      cases h
      exact .base (.dK e1)
    · rename_i e
      obtain ⟨f, vs, e1, q⟩ := w.ob _ _ e
      cases h
      exact .base (.dK e1)
    · rename_i e
      obtain ⟨f, vs, e1, q⟩ := w.ob _ _ e
      cases h
      exact .base (.dT e1)
    · cases h
end
def uIsi (T : String) : Val → M Val := fun d S => match DM.tyN d S with
  | some t => (kitB t T).map fun b => (.pd (.bool b), S)
  | none => none
section
variable {X : Cx} {cl : Nat → Addr} {a : Expr} {p p2 pos : Pos} {x : Str} {T : String} {fa : DEnv → M Val}
theorem de_isi (hi : Gl X "isinstance") (hm : X.mg "isinstance" = none) (hx : Gl X x) (hm2 : X.mg x = none) (ha : DE X cl a fa) (hv : bootBuiltins x = some (.type T)) (hn : x ≠ "__name__" := by decide) (hd : (x == ("__debug__" : Str)) = false := by decide) (hvi : bootBuiltins "isinstance" = some (.builtin "isinstance") := by decide +kernel)
    (h1 : starEach [a, .Name x p2] X.env = (false, eval a X.env) :: starEach [.Name x p2] X.env := by rfl) (h2 : starEach [.Name x p2] X.env = (false, eval (.Name x p2) X.env) :: starEach [] X.env := by rfl)
    (hpl : (backTo pos (starEach [.Name x p2] X.env)).any (·.1) = false := by rfl) :
    DE X cl (.Call (.Name "isinstance" p) [a, .Name x p2] [] pos) (eU (uIsi T) fa) := by
  obtain ⟨ta, pa, sa⟩ := ha
  refine ⟨_, pe_callB call_isi hi hm hvi (pa_cons pa (pa_cons (pe_bltn (v := .ty T) hx hm2 hv rfl hn hd) pa_nil h2) h1) (by decide) (by decide) h1 hpl, fun wd σ ρ S H Q d S' w q h k => ?_⟩
  obtain ⟨y, S1, e1, h⟩ := bindR_inv h
  refine sa wd σ ρ S H _ y S1 w q e1 fun wd1 v1 H1 w1 x1 r1 => ?_
  unfold uIsi at h
  split at h
  · rename_i t et
    cases e2 : kitB t T with
    | none =>
      rw [e2] at h
      cases h
    | some b =>
      rw [e2] at h
      cases h
      exact ⟨_, _, _, _, b, rfl, .ty T, w1.tyN r1 et, kit_ty e2, k wd1 _ H1 w1 x1 (.bl b)⟩
  · cases h
end
/-! int(text, 2) -/
namespace Bn
open PySem.NumText PySem.Calls L2.Hx
def IsBit (c : Nat) : Prop := c = 48 ∨ c = 49
def bitNum (l : List Nat) : Nat := l.foldl (fun n c => n * 2 + (c - 48)) 0
theorem IsBit.hex {c : Nat} (h : IsBit c) : IsHex c := by
  unfold IsBit at h
  exact .inl (by omega)
theorem digit_bit {c : Nat} (h : IsBit c) : digit? c = some (c - 48) := by
  rw [digit_hex h.hex]
  unfold IsBit at h
  unfold hv
  rw [if_pos (by omega)]
theorem step_bit {ds : Array Nat} {b : Bool} {c : Nat} (h : IsBit c) : PySem.NumText.step 2 (ds, b) c = some (ds.push (c - 48), true) := by
  have e : ¬ (c == 95) = true := by
    unfold IsBit at h
    rw [beq_iff_eq]
    omega
  unfold PySem.NumText.step
  rw [if_neg e, digit_bit h]
  unfold IsBit at h
  exact if_pos (by omega)
theorem fold_bit : ∀ (cs : List Nat) (ds : Array Nat), (∀ c ∈ cs, IsBit c) → cs.foldlM (PySem.NumText.step 2) (ds, true) = some (cs.foldl (fun z c => z.push (c - 48)) ds, true)
  | [], _, _ => rfl
  | c :: cs, ds, h => by
    rw [List.foldlM_cons, step_bit (h c (List.mem_cons_self ..))]
    show cs.foldlM (PySem.NumText.step 2) (ds.push (c - 48), true) = _
    exact fold_bit cs _ fun d hd => h d (List.mem_cons_of_mem _ hd)
theorem digits_bit {cs : List Nat} (h : ∀ c ∈ cs, IsBit c) (hne : cs ≠ []) : digits? 2 cs = some (cs.foldl (fun z c => z.push (c - 48)) #[]) := by
  cases cs with
  | nil => exact absurd rfl hne
  | cons c cs =>
    unfold digits?
    rw [List.foldlM_cons, step_bit (h c (List.mem_cons_self ..))]
    show (cs.foldlM (PySem.NumText.step 2) ((#[] : Array Nat).push (c - 48), true)).bind _ = _
    rw [fold_bit cs _ fun d hd => h d (List.mem_cons_of_mem _ hd)]
    rfl
theorem push_bit : ∀ (cs : List Nat) (ds : Array Nat), (cs.foldl (fun z c => z.push (c - 48)) ds).foldl (fun z d => z * 2 + d) 0 = cs.foldl (fun n c => n * 2 + (c - 48)) (ds.foldl (fun z d => z * 2 + d) 0)
  | [], _ => rfl
  | c :: cs, ds => by
    rw [List.foldl_cons, push_bit cs, List.foldl_cons]
    congr 1
    simp
theorem based_bit {cs : List Nat} (h : ∀ c ∈ cs, IsBit c) : based 2 cs = (2, false, cs) := by
  match cs, h with
  | [], _ => rfl
  | [c], h =>
    have hc := h c (List.mem_cons_self ..)
    unfold IsBit at hc
    rcases hc with rfl | rfl <;> rfl
  | b :: c :: r, h =>
    have hc := h c (List.mem_cons_of_mem _ (List.mem_cons_self ..))
    have hb := h b (List.mem_cons_self ..)
    unfold IsBit at hc hb
    rcases hc with rfl | rfl <;> rcases hb with rfl | rfl <;> rfl
theorem read_bit {cs : List Nat} (h : ∀ c ∈ cs, IsBit c) (hne : cs ≠ []) : (int_private% "readNumeral") 0 2 cs = (int_private% "Numeral.value") ((bitNum cs : Nat) : Int) := by
  have hh : ∀ c ∈ cs, IsHex c := fun c hc => (h c hc).hex
  refine (readNumeral_eq 0 2 cs).trans ?_
  rw [dropB hh, signH hh]
  show judge 0 false (based 2 cs).1 (based 2 cs).2.1 (digits? (based 2 cs).1 (((based 2 cs).2.2.reverse.dropWhile blank).reverse)) = _
  rw [based_bit h]
  show judge 0 false 2 false (digits? 2 ((cs.reverse.dropWhile blank).reverse)) = _
  rw [dropB fun c hc => hh c (List.mem_reverse.mp hc), List.reverse_reverse, digits_bit h hne]
  show (int_private% "Numeral.value") (((cs.foldl (fun z c => z.push (c - 48)) (#[] : Array Nat)).foldl (fun z d => z * 2 + d) 0 : Nat) : Int) = _
  have z : (#[] : Array Nat).foldl (fun z d => z * 2 + d) 0 = 0 := by first | rfl | simp
  rw [push_bit, z]
  rfl
theorem gives_bit {x : PySem.Str} {u t : Tok} (hl : x.length ≤ 640) (h : ∀ c ∈ x.cps.toList, IsBit c) (hne : x.cps.toList ≠ []) :
    Gives (Builtin.«int.__new__» ⟨[.type "int", .str x u, .int 2 t], []⟩) (.int ((bitNum x.cps.toList : Nat) : Int)) :=
  .of_wp fun M A E s Q hQ => by
    obtain ⟨hp, g, d, tk, os⟩ := s
    have f1 := F.conv_sub_int
    have f2 := F.madeHere_int
    have f6 : typeOf (.str x u) = pure (.type "str") := rfl
    obtain ⟨e1, e2⟩ := seen_hex fun c hc => (h c hc).hex
    have hs : (numSeenOf x).length ≤ 640 := by
      rw [e2, Array.length_toList]
      exact hl
    have hr : (int_private% "readNumeral") 0 2 (numSeenOf x) = (int_private% "Numeral.value") ((bitNum x.cps.toList : Nat) : Int) := by
      rw [e2]
      exact read_bit h hne
    have ha : ((numSeenOf x).length == (numTextOf x).length) = true := by
      rw [e1, e2]
      exact beq_self_eq_true _
    have hk := Hid.mk (And.intro hs (And.intro hr ha))
    clear hs hr ha e1 e2 hl hne h
    repeat (any_goals (first
      | assumption
      | ((with_reducible show wpAny _ _ ((int_private% "intFromText") _ _ _) _ _ _); refine wp_textB hk.out.1 hk.out.2.1 hk.out.2.2 ?_)
      | wp_step))
    all_goals first | exact ⟨_, rfl, hQ⟩ | skip
theorem call_bit {prog : Program} {w : World} {A : Around} {E : Value → Shared → Prop} {s : Shared} {Q : Value → Shared → Prop} {x : PySem.Str} {u t : Tok} (hl : x.length ≤ 640) (h : ∀ c ∈ x.cps.toList, IsBit c) (hne : x.cps.toList ≠ [])
    (hQ : Q (.int ((bitNum x.cps.toList : Nat) : Int) s.toks) { s with toks := s.toks + 1 }) : wpAny (model prog w) A (call (.type "int") [.str x u, .int 2 t]) Q E s :=
  callType_new F.called_int F.newNe_int (typeCall_int_2 _ _) (newCall_int_2 _ _) (fun obj => F.initArgs_range_2 obj _ _) F.entry_int_new (gives_bit hl h hne).meets (show (Made.int ((bitNum x.cps.toList : Nat) : Int)).post _ s from ⟨rfl, hQ⟩)
end Bn
def rInt2 : List V → Hp → VK → Prop := fun xs H Q => ∃ x : Str, xs = [.str x, .int 2] ∧ x.cps.toList ≠ [] ∧ x.length ≤ 640 ∧ (∀ c ∈ x.cps.toList, Bn.IsBit c) ∧ Q (.int ((Bn.bitNum x.cps.toList : Nat) : Int)) H
theorem call_int2 {X : Cx} : CallR X (.type "int") rInt2 := by
  intro pins s σ H xs us Q I r h
  obtain ⟨x, rfl, hne, hl, hx, q⟩ := h
  obtain ⟨u, w', rfl, r1, r2⟩ := vals2 r
  obtain ⟨t1, rfl⟩ := r1
  obtain ⟨t2, rfl⟩ := r2
  exact Bn.call_bit hl hx hne ⟨.int ((Bn.bitNum x.cps.toList : Nat) : Int), H, I.tok _, ⟨_, rfl⟩, q⟩
def uInt2 : List Val → M Val := fun ds S => match ds with
  | [.pd (.str x), .pd (.int 2)] => if x.cps.toList ≠ [] ∧ x.length ≤ 640 ∧ x.cps.toList.all (fun c => c == 48 || c == 49) = true then some (.pd (.int ((Bn.bitNum x.cps.toList : Nat) : Int)), S) else none
  | _ => none
theorem sc_int2 {K : PySem.W.Frag} {cl : Nat → Addr} : SimC K cl rInt2 uInt2 := fun wd S H xs ds Q d S' w r h k => by
  unfold uInt2 at h
  split at h
  · split at h
    · rename_i x c
      cases h
      obtain ⟨v, u, rfl, r1, r2⟩ := r.two_inv
      obtain rfl := r1.str_inv
      obtain rfl := r2.int_inv
      refine ⟨x, rfl, c.1, c.2.1, fun z hz => ?_, k wd _ H w .refl (.int _)⟩
      have := List.all_eq_true.mp c.2.2 z hz
      rw [Bool.or_eq_true, beq_iff_eq, beq_iff_eq] at this
      exact this
    · cases h
  · cases h
@[simp] theorem kitB_NoneType_int : kitB "NoneType" "int" = some false := by decide +kernel
@[simp] theorem kitB_bool_int : kitB "bool" "int" = some true := by decide +kernel
@[simp] theorem kitB_int_int : kitB "int" "int" = some true := by decide +kernel
@[simp] theorem kitB_str_int : kitB "str" "int" = some false := by decide +kernel
@[simp] theorem kitB_list_int : kitB "list" "int" = some false := by decide +kernel
@[simp] theorem kitB_tuple_int : kitB "tuple" "int" = some false := by decide +kernel
@[simp] theorem kitB_dict_int : kitB "dict" "int" = some false := by decide +kernel
@[simp] theorem kitB_NoneType_bool : kitB "NoneType" "bool" = some false := by decide +kernel
@[simp] theorem kitB_bool_bool : kitB "bool" "bool" = some true := by decide +kernel
@[simp] theorem kitB_int_bool : kitB "int" "bool" = some false := by decide +kernel
@[simp] theorem kitB_str_bool : kitB "str" "bool" = some false := by decide +kernel
@[simp] theorem kitB_list_bool : kitB "list" "bool" = some false := by decide +kernel
@[simp] theorem kitB_tuple_bool : kitB "tuple" "bool" = some false := by decide +kernel
@[simp] theorem kitB_dict_bool : kitB "dict" "bool" = some false := by decide +kernel
@[simp] theorem kitB_NoneType_str : kitB "NoneType" "str" = some false := by decide +kernel
@[simp] theorem kitB_bool_str : kitB "bool" "str" = some false := by decide +kernel
@[simp] theorem kitB_int_str : kitB "int" "str" = some false := by decide +kernel
@[simp] theorem kitB_str_str : kitB "str" "str" = some true := by decide +kernel
@[simp] theorem kitB_list_str : kitB "list" "str" = some false := by decide +kernel
@[simp] theorem kitB_tuple_str : kitB "tuple" "str" = some false := by decide +kernel
@[simp] theorem kitB_dict_str : kitB "dict" "str" = some false := by decide +kernel
@[simp] theorem kitB_NoneType_list : kitB "NoneType" "list" = some false := by decide +kernel
@[simp] theorem kitB_bool_list : kitB "bool" "list" = some false := by decide +kernel
@[simp] theorem kitB_int_list : kitB "int" "list" = some false := by decide +kernel
@[simp] theorem kitB_str_list : kitB "str" "list" = some false := by decide +kernel
@[simp] theorem kitB_list_list : kitB "list" "list" = some true := by decide +kernel
@[simp] theorem kitB_tuple_list : kitB "tuple" "list" = some false := by decide +kernel
@[simp] theorem kitB_dict_list : kitB "dict" "list" = some false := by decide +kernel
@[simp] theorem kitB_NoneType_tuple : kitB "NoneType" "tuple" = some false := by decide +kernel
@[simp] theorem kitB_bool_tuple : kitB "bool" "tuple" = some false := by decide +kernel
@[simp] theorem kitB_int_tuple : kitB "int" "tuple" = some false := by decide +kernel
@[simp] theorem kitB_str_tuple : kitB "str" "tuple" = some false := by decide +kernel
@[simp] theorem kitB_list_tuple : kitB "list" "tuple" = some false := by decide +kernel
@[simp] theorem kitB_tuple_tuple : kitB "tuple" "tuple" = some true := by decide +kernel
@[simp] theorem kitB_dict_tuple : kitB "dict" "tuple" = some false := by decide +kernel
@[simp] theorem kitB_NoneType_dict : kitB "NoneType" "dict" = some false := by decide +kernel
@[simp] theorem kitB_bool_dict : kitB "bool" "dict" = some false := by decide +kernel
@[simp] theorem kitB_int_dict : kitB "int" "dict" = some false := by decide +kernel
@[simp] theorem kitB_str_dict : kitB "str" "dict" = some false := by decide +kernel
@[simp] theorem kitB_list_dict : kitB "list" "dict" = some false := by decide +kernel
@[simp] theorem kitB_tuple_dict : kitB "tuple" "dict" = some false := by decide +kernel
@[simp] theorem kitB_dict_dict : kitB "dict" "dict" = some true := by decide +kernel
section
variable {S : Store}
@[simp] theorem tyN_int {i : Int} : tyN (.pd (.int i)) S = some "int" := rfl
@[simp] theorem tyN_bool {b : Bool} : tyN (.pd (.bool b)) S = some "bool" := rfl
@[simp] theorem tyN_none : tyN (.pd .none) S = some "NoneType" := rfl
@[simp] theorem tyN_str {z : Str} : tyN (.pd (.str z)) S = some "str" := rfl
@[simp] theorem tyN_list {xs : List PyData} : tyN (.pd (.list xs)) S = some "list" := rfl
@[simp] theorem tyN_tup {xs : List PyData} : tyN (.pd (.tuple xs)) S = some "tuple" := rfl
theorem uIsi_e {T t : String} {d : Val} {b : Bool} (h : tyN d S = some t) (e : kitB t T = some b) : uIsi T d S = some (.pd (.bool b), S) := by
  unfold uIsi
  rw [h]
  show (kitB t T).map _ = _
  rw [e]
  rfl
@[simp] theorem isi_int_int {i : Int} : uIsi "int" (.pd (.int i)) S = some (.pd (.bool true), S) := uIsi_e tyN_int kitB_int_int
@[simp] theorem isi_int_bool {i : Int} : uIsi "bool" (.pd (.int i)) S = some (.pd (.bool false), S) := uIsi_e tyN_int kitB_int_bool
@[simp] theorem isi_bool_bool {i : Bool} : uIsi "bool" (.pd (.bool i)) S = some (.pd (.bool true), S) := uIsi_e tyN_bool kitB_bool_bool
@[simp] theorem isi_tup_tup {xs : List PyData} : uIsi "tuple" (.pd (.tuple xs)) S = some (.pd (.bool true), S) := uIsi_e tyN_tup kitB_tuple_tuple
@[simp] theorem isi_list_list {xs : List PyData} : uIsi "list" (.pd (.list xs)) S = some (.pd (.bool true), S) := uIsi_e tyN_list kitB_list_list
end
/-! the law that goes over its cells -/
theorem cells_loop {gg : Val → DEnv → M DEnv} {gb : DEnv → M Fl} {I : DEnv → Store → Prop} (ht : ∀ (c : Int) ρ S, I ρ S → ∃ ρ' S', turnG gg gb (.pd (.int c)) ρ S = some (.nx ρ', S') ∧ I ρ' S') : ∀ (cs : List Int) (ρ : DEnv) (S : Store), I ρ S → ∃ ρ' S', loopG gg gb (cs.map fun c => Val.pd (.int c)) ρ S = some (.nx ρ', S') ∧ I ρ' S'
  | [], ρ, S, h => ⟨ρ, S, rfl, h⟩
  | c :: r, ρ, S, h => by
    obtain ⟨ρ1, S1, e1, h1⟩ := ht c ρ S h
    obtain ⟨ρ2, S2, e2, h2⟩ := cells_loop ht r ρ1 S1 h1
    exact ⟨ρ2, S2, by rw [List.map_cons, loopG_cons, e1]; exact e2, h2⟩
theorem cells_iter {gg : Val → DEnv → M DEnv} {gb : DEnv → M Fl} {ns : List Int} {k : Nat} {kk : Int} {r : DEnv} (hk : kk = k) (hl : k ≤ 100) :
    gFor (iSeq (eO uAdd (eA uLst (aCons (eC (.int 0)) aNil)) (eSl uSl (eVar 0) fNo (fPart (eC (.int kk)))))) gg gb (some (.obj 0) :: r) [.scr (ns.map PyData.int)] =
      bindR (loopG gg gb ((0 :: ns.take k).map fun c => Val.pd (.int c)) (some (.obj 0) :: r) [.scr (ns.map PyData.int)]) fun fl S2 => some (fl, S2) := by
  subst hk
  have hm : min k ns.length ≤ k := Nat.min_le_left _ _
  have c : 1 + min k ns.length ≤ 16777216 := by omega
  simp [uLst, c, Function.comp_def]
theorem law_cells {n k : Nat} {kk : Int} {gb : DEnv → M Fl} {fe : DEnv → M Val} {r : DEnv} (I : List Int → DEnv → Store → Prop) (hk : kk = k) (hl : k ≤ 100) (hr : startD n [.obj 0] = some (.obj 0) :: r)
    (h0 : ∀ ns : List Int, I ns (some (.obj 0) :: r) [.scr (ns.map PyData.int)]) (ht : ∀ ns (c : Int) ρ S, I ns ρ S → ∃ ρ' S', turnG (nName 1) gb (.pd (.int c)) ρ S = some (.nx ρ', S') ∧ I ns ρ' S')
    (he : ∀ ns ρ S, I ns ρ S → fe ρ S = some (.pd (.bool true), S) ∧ ∃ T, S = [.scr (ns.map PyData.int)] ++ T) :
    ∀ ns : List Int, ns.length ≤ 63 → ∃ S', fnF n (gSeq (gFor (iSeq (eO uAdd (eA uLst (aCons (eC (.int 0)) aNil)) (eSl uSl (eVar 0) fNo (fPart (eC (.int kk)))))) (nName 1) gb) (gRet fe)) exitF [.obj 0] [.scr (ns.map PyData.int)] = some (.pd (.bool true), S') := by
  intro ns _
  obtain ⟨ρ', S', e, i⟩ := cells_loop (I := I ns) (ht ns) (0 :: ns.take k) _ _ (h0 ns)
  obtain ⟨e2, T, rfl⟩ := he ns ρ' S' i
  refine ⟨[.scr (ns.map PyData.int)], ?_⟩
  rw [fnF_e, hr, gSeq_e, cells_iter hk hl, e, bindR_some, seqR_nx, gRet_e, e2, bindR_some, endR_rt]
  exact exitF_app (S := [.scr (ns.map PyData.int)]) (fun o ho => by simp at ho; subst ho; rfl)
/-- one of a list, by a number -/
theorem getD_mem {α : Type} {xs : List α} {d : α} {n : Nat} (h : n < xs.length) : xs.getD n d ∈ xs := by
  rw [getD_lt h]
  exact List.getElem_mem _
theorem uIx_pick {S : Store} {xs : List Int} {i : Int} (h0 : 0 ≤ i) (h1 : i < xs.length) : ∃ z, z ∈ xs ∧ ∀ S : Store, uIx (.pd (.list (xs.map PyData.int))) (.pd (.int i)) S = some (.pd (.int z), S) := by
  refine ⟨xs.getD i.toNat 0, getD_mem (by omega), fun S => ?_⟩
  rw [uIx_list, atI_mapD (d := 0) h0 h1]
  rfl
/-! equality of plain data: no truths, no dicts -/
mutual
def plD : Nat → PyData → Bool
  | _, .none => true
  | _, .int _ => true
  | _, .str x => PyData.strOk x
  | n + 1, .list xs => plA n xs
  | n + 1, .tuple xs => plA n xs
  | _, _ => false
def plA : Nat → List PyData → Bool
  | _, [] => true
  | n, x :: xs => plD n x && plA n xs
end
mutual
theorem plD_ok : ∀ (n : Nat) (d : PyData), plD n d = true → d.canLay0 = true ∧ d.depth ≤ n
  | _, .none, _ => ⟨rfl, Nat.zero_le _⟩
  | _, .int _, _ => ⟨rfl, Nat.zero_le _⟩
  | n, .str x, h => ⟨by
      unfold plD at h
      unfold PyData.canLay0
      exact h, by unfold PyData.depth; omega⟩
  | n + 1, .list xs, h => by
    unfold plD at h
    obtain ⟨h1, h2⟩ := plA_ok n xs h
    unfold PyData.canLay0 PyData.depth
    exact ⟨h1, by omega⟩
  | n + 1, .tuple xs, h => by
    unfold plD at h
    obtain ⟨h1, h2⟩ := plA_ok n xs h
    unfold PyData.canLay0 PyData.depth
    exact ⟨h1, by omega⟩
  | _, .bool _, h => by unfold plD at h; cases h
  | _, .dict _, h => by unfold plD at h; cases h
  | 0, .list _, h => by unfold plD at h; cases h
  | 0, .tuple _, h => by unfold plD at h; cases h
theorem plA_ok : ∀ (n : Nat) (ds : List PyData), plA n ds = true → PyData.canLayAll0 ds = true ∧ PyData.depthAll ds ≤ n
  | n, [], _ => ⟨rfl, Nat.zero_le _⟩
  | n, x :: xs, h => by
    unfold plA at h
    obtain ⟨a, b⟩ := Bool.and_eq_true_iff.mp h
    obtain ⟨h1, h2⟩ := plD_ok n x a
    obtain ⟨h3, h4⟩ := plA_ok n xs b
    unfold PyData.canLayAll0 PyData.depthAll
    exact ⟨by rw [h1, h3]; rfl, by omega⟩
end
theorem pl_shaped {n : Nat} {d : PyData} (h : plD n d = true) (hn : n ≤ 64) : SeqAt.shaped d = true := by
  obtain ⟨a, b⟩ := plD_ok n d h
  unfold SeqAt.shaped
  rw [a, Bool.true_and]
  exact decide_eq_true (by omega)
mutual
theorem eqv_pl : ∀ (n : Nat) (x : PyData) (y : PyData) (m : Nat), plD n x = true → plD m y = true → (PyData.eqv x y = true ↔ x = y)
  | n, .none, y, m, _, hy => by
    cases y <;> simp [PyData.eqv]
  | n, .int i, y, m, _, hy => by
    cases y with
    | bool b => unfold plD at hy; cases hy
    | _ => simp [PyData.eqv]
  | n, .str i, y, m, _, hy => by
    cases y <;> simp [PyData.eqv]
  | n + 1, .list xs, y, m, hx, hy => by
    cases y with
    | list ys =>
      cases m with
      | zero => unfold plD at hy; cases hy
      | succ m =>
        unfold plD at hx hy
        simp only [PyData.eqv, eqvA_pl n xs ys m hx hy, PyData.list.injEq]
    | _ => simp [PyData.eqv]
  | n + 1, .tuple xs, y, m, hx, hy => by
    cases y with
    | tuple ys =>
      cases m with
      | zero => unfold plD at hy; cases hy
      | succ m =>
        unfold plD at hx hy
        simp only [PyData.eqv, eqvA_pl n xs ys m hx hy, PyData.tuple.injEq]
    | _ => simp [PyData.eqv]
  | _, .bool _, _, _, h, _ => by unfold plD at h; cases h
  | _, .dict _, _, _, h, _ => by unfold plD at h; cases h
  | 0, .list _, _, _, h, _ => by unfold plD at h; cases h
  | 0, .tuple _, _, _, h, _ => by unfold plD at h; cases h
theorem eqvA_pl : ∀ (n : Nat) (xs : List PyData) (ys : List PyData) (m : Nat), plA n xs = true → plA m ys = true → (PyData.eqvAll xs ys = true ↔ xs = ys)
  | n, [], ys, m, _, _ => by cases ys <;> simp [PyData.eqvAll]
  | n, x :: xs, ys, m, hx, hy => by
    cases ys with
    | nil => simp [PyData.eqvAll]
    | cons y ys =>
      unfold plA at hx hy
      obtain ⟨a, b⟩ := Bool.and_eq_true_iff.mp hx
      obtain ⟨a', b'⟩ := Bool.and_eq_true_iff.mp hy
      simp only [PyData.eqvAll, Bool.and_eq_true, eqv_pl n x y m a a', eqvA_pl n xs ys m b b', List.cons.injEq]
end
theorem uEq_D {S : Store} {a b : Val} {x y : PyData} {n m : Nat} {p : Bool} (hx : toD a S = some x) (hy : toD b S = some y) (px : plD n x = true) (py : plD m y = true) (hn : n ≤ 64) (hm : m ≤ 64) (hp : p = true ↔ x = y) : uEq a b S = some (.pd (.bool p), S) := by
  unfold uEq
  rw [hx, hy]
  show (if SeqAt.shaped x = true ∧ SeqAt.shaped y = true then _ else _) = _
  rw [if_pos ⟨pl_shaped px hn, pl_shaped py hm⟩]
  have e : PyData.eqv x y = p := by
    rw [Bool.eq_iff_iff, eqv_pl n x y m px py, hp]
  rw [e]
theorem uNe_D {S : Store} {a b : Val} {x y : PyData} {n m : Nat} {p : Bool} (hx : toD a S = some x) (hy : toD b S = some y) (px : plD n x = true) (py : plD m y = true) (hn : n ≤ 64) (hm : m ≤ 64) (hp : p = true ↔ x ≠ y) : uNe a b S = some (.pd (.bool p), S) := by
  unfold uNe
  rw [hx, hy]
  show (if SeqAt.shaped x = true ∧ SeqAt.shaped y = true then _ else _) = _
  rw [if_pos ⟨pl_shaped px hn, pl_shaped py hm⟩]
  have e : (!PyData.eqv x y) = p := by
    rw [Bool.eq_iff_iff, hp, Bool.not_eq_true', ← Bool.not_eq_true, eqv_pl n x y m px py]
  rw [e]
theorem uEq_self {S : Store} {x : PyData} {n : Nat} (px : plD n x = true) (hn : n ≤ 64) : uEq (.pd x) (.pd x) S = some (.pd (.bool true), S) := uEq_D rfl rfl px px hn hn (by simp)
theorem uNe_self {S : Store} {x : PyData} {n : Nat} (px : plD n x = true) (hn : n ≤ 64) : uNe (.pd x) (.pd x) S = some (.pd (.bool false), S) := uNe_D rfl rfl px px hn hn (by simp)
/-! comprehensions -/
section
variable {ρ : DEnv} {S : Store} {gg : Val → DEnv → M DEnv} {ft : DEnv → M Bool} {fe : DEnv → M Val}
@[simp] theorem eLc_e {fi : DEnv → M Iter} {ix : List Nat} : eLc fi gg ft fe ix ρ S = bindR (fi ρ S) fun it S1 => bindR (loopC gg ft fe (wipeD ρ ix) it.items [] S1) fun ys S2 => some (.pd (.list ys), it.un S2) := rfl
@[simp] theorem loopC_nil {acc : List PyData} : loopC gg ft fe ρ [] acc S = some (acc, S) := rfl
def addC (y : Val) (acc : List PyData) (k : List PyData → Option (List PyData × Store)) : Option (List PyData × Store) := match y with
  | .pd y => if acc.length < 16777216 then k (acc ++ [y]) else none
  | .obj _ => none
@[simp] theorem addC_pd {y : PyData} {acc : List PyData} {k : List PyData → Option (List PyData × Store)} : addC (.pd y) acc k = if acc.length < 16777216 then k (acc ++ [y]) else none := rfl
theorem loopC_cons {d : Val} {ds : List Val} {acc : List PyData} : loopC gg ft fe ρ (d :: ds) acc S = bindR (gg d ρ S) fun ρ1 S1 => bindR (ft ρ1 S1) fun b S2 => if b = true then bindR (fe ρ1 S2) fun y S3 => addC y acc fun a => loopC gg ft fe ρ ds a S3
    else loopC gg ft fe ρ ds acc S2 := by
  rw [loopC]
  refine congrArg (bindR (gg d ρ S)) (funext fun ρ1 => funext fun S1 => congrArg (bindR (ft ρ1 S1)) (funext fun b => funext fun S2 => ?_))
  cases b with
  | false => rfl
  | true =>
    rw [if_pos rfl, if_pos rfl]
    refine congrArg (bindR (fe ρ1 S2)) (funext fun y => funext fun S3 => ?_)
    cases y <;> rfl
@[simp] theorem tYesD_e : tYesD ρ S = some (true, S) := rfl
@[simp] theorem wipeD_nil : wipeD ρ [] = ρ := rfl
@[simp] theorem wipeD_cons {v : Nat} {vs : List Nat} : wipeD ρ (v :: vs) = (wipeD ρ vs).set v none := rfl
@[simp] theorem uLen_list {xs : List PyData} : uLen [.pd (.list xs)] S = some (.pd (.int xs.length), S) := rfl
@[simp] theorem uLen_tup {xs : List PyData} : uLen [.pd (.tuple xs)] S = some (.pd (.int xs.length), S) := rfl
@[simp] theorem uLst_e {ds : List PyData} : uLst (ds.map Val.pd) S = if ds.length ≤ 16777216 then some (.pd (.list ds), S) else none := by
  have e : allPd (ds.map Val.pd) = some ds := by
    induction ds with
    | nil => rfl
    | cons d r ih => simp [ih]
  unfold uLst
  rw [e]
@[simp] theorem uLst_nil : uLst [] S = some (.pd (.list []), S) := rfl
end
end DM
set_option Elab.async false
set_option linter.all false
set_option maxRecDepth 100000
set_option maxHeartbeats 4000000
/-! DMObj: attributes, dicts -/
namespace DM
open PySem L2 PyProof.Rows
section
variable {K : PySem.W.Frag} {cl : Nat → Addr} {wd : Wd} {S : Store} {H : Hp}
theorem Wd.own_self {h : Nat} : wd.own h (wd.fp h) = wd := by
  unfold Wd.own
  cases wd with
  | mk ad fp hid =>
    congr 1
    funext i
    by_cases e : i = h <;> simp [e]
/-- an object is changed in its place -/
theorem WR.setS (w : WR K cl wd S H) {h : Nat} {o o' : Ob} {u : HO} (e : S[h]? = some o) (nl : ∀ u, o ≠ .lock u) (fa : wd.fp h (wd.ad h)) (new : OR K cl wd S.length (upd H (wd.ad h) u) (wd.ad h) (wd.fp h) o') :
    WR K cl wd (S.set h o') (upd H (wd.ad h) u) ∧ Ext wd S H wd (S.set h o') (upd H (wd.ad h) u) := by
  have := w.set (f := wd.fp h) (H' := upd H (wd.ad h) u) (o' := o') e nl (fun b nb z hz => by
    rw [upd_ne (fun q => nb (by rw [q]; exact fa))]
    exact hz) (fun b hb => ⟨.inl hb, by
    by_cases q : b = wd.ad h
    · exact ⟨u, by rw [q, upd_same]⟩
    · obtain ⟨z, hz⟩ := w.lv h b (lt_of_get e) hb
      exact ⟨z, by rw [upd_ne q]; exact hz⟩⟩) (by rw [Wd.own_self]; exact new)
  rw [Wd.own_self] at this
  exact this
theorem keep_upd {a : Addr} {u : HO} {n : Nat} (ha : Own wd n a) : ∀ b o, H b = some o → ¬ Own wd n b → upd H a u b = some o ∧ ¬ Own wd n b := fun b o e nb => ⟨by
  rw [upd_ne (fun q => nb (by rw [q]; exact ha))]
  exact e, nb⟩
theorem Rp.upd {a : Addr} {u : HO} {n : Nat} {v : V} {d : PyData} (ha : Own wd n a) (r : Rp K H (Own wd n) v d) : Rp K (upd H a u) (Own wd n) v d := Rp.mono (keep_upd ha) _ _ r
theorem RV.upd {a : Addr} {u : HO} {v : V} {d : Val} (ha : Own wd S.length a) (r : RV K wd S.length H v d) : RV K wd S.length (L2.upd H a u) v d := RV.mono (S := S) (S' := S) (Nat.le_refl _) (fun _ _ => rfl) (keep_upd ha) r
end
/-! attributes -/
def putD (f : Str) (d : Val) : List (Str × Val) → List (Str × Val)
  | [] => [(f, d)]
  | (g, x) :: r => if g = f then (g, d) :: r else (g, x) :: putD f d r
theorem PKW.put {R : V → Val → Prop} {f : Str} {v : V} {d : Val} (r : R v d) : ∀ {gs : List (Str × V)} {fs : List (Str × Val)}, PKW R gs fs → PKW R (putF f v gs) (putD f d fs)
  | _, _, .nil => .cons ⟨rfl, r⟩ .nil
  | (g, x) :: gs, (g', y) :: fs, .cons ⟨e, rx⟩ t => by
    dsimp only at e
    subst e
    unfold putF putD
    split
    · exact .cons ⟨rfl, r⟩ t
    · exact .cons ⟨rfl, rx⟩ (PKW.put r t)
def uFld (c : Nat) (f : Str) : Val → M Val := fun d S => match d with
  | .obj h => match S[h]? with
    | some (.ins c' fs) => if c' = c then (fs.lookup f).map fun v => (v, S) else none
    | _ => none
  | _ => none
abbrev eFld (c : Nat) (f : Str) (fe : DEnv → M Val) : DEnv → M Val := eU (uFld c f) fe
def uSetF (c : Nat) (f : Str) (o d : Val) : M Unit := fun S => match o with
  | .obj h => match S[h]? with
    | some (.ins c' fs) => if c' = c ∧ fs.length < 1000 then some ((), S.set h (.ins c (putD f d fs))) else none
    | _ => none
  | _ => none
/-- o.f = e -/
def gSetF (c : Nat) (f : Str) (fo fe : DEnv → M Val) : DEnv → M Fl := fun ρ S => bindR (fe ρ S) fun d S1 => bindR (fo ρ S1) fun o S2 => bindR (uSetF c f o d S2) fun _ S3 => some (.nx ρ, S3)
/-- o.f op= e -/
def gAugF (c : Nat) (f : Str) (u : Val → Val → M Val) (fo fe : DEnv → M Val) : DEnv → M Fl := fun ρ S => bindR (fo ρ S) fun o S1 => bindR (uFld c f o S1) fun a S2 => bindR (fe ρ S2) fun b S3 => bindR (u a b S3) fun z S4 => bindR (uSetF c f o z S4) fun _ S5 => some (.nx ρ, S5)
section
variable {X : Cx} {cl : Nat → Addr} {e o : Expr} {f : Str} {c : Nat} {fe fo : DEnv → M Val} {pos pos' tpos : Pos}
theorem de_fld (hc : Cls X.K (cl c)) (na : NoAttr X.K (cl c) f) (he : DE X cl e fe) (hb : attributeBase e f X.env (eval e X.env) = eval e X.env := by rfl) : DE X cl (.Attribute e f pos) (eFld c f fe) := by
  obtain ⟨t, p, s⟩ := he
  refine ⟨_, pe_fld p hb, fun wd σ ρ S H Q d S' w q h k => ?_⟩
  obtain ⟨x, S1, h1, hz⟩ := bindR_inv h
  clear h
  have h := hz
  clear hz
  refine s wd σ ρ S H _ x S1 w q h1 fun wd1 v1 H1 w1 x1 r1 => ?_
  unfold uFld at h
  split at h
  · rename_i hh
    obtain ⟨hi, rfl⟩ := r1
    split at h
    · rename_i c' fs e1
      split at h
      · rename_i ec
        subst ec
        obtain ⟨dx, _, _, gs, ea, pk⟩ := w1.ob hh _ e1
        rcases PKW.lookup (f := f) pk with ⟨_, l2⟩ | ⟨v, d', l1, l2, r⟩
        · rw [l2] at h
          cases h
        · rw [l2] at h
          cases h
          exact ⟨_, _, _, _, v, rfl, ea, hc, na, l1, k wd1 v H1 w1 x1 r⟩
      · cases h
    · cases h
  · cases h
theorem WR.setF {K : PySem.W.Frag} {wd : Wd} {S : Store} {H : Hp} (w : WR K cl wd S H) {h : Nat} {fs : List (Str × Val)} {v : V} {d : Val} (e : S[h]? = some (.ins c fs)) (r : RV K wd S.length H v d) :
    ∃ dx gs, H (wd.ad h) = some (.ins (cl c) dx gs) ∧ gs.length = fs.length ∧ WR K cl wd (S.set h (.ins c (putD f d fs))) (upd H (wd.ad h) (.ins (cl c) dx (putF f v gs))) ∧
      Ext wd S H wd (S.set h (.ins c (putD f d fs))) (upd H (wd.ad h) (.ins (cl c) dx (putF f v gs))) := by
  obtain ⟨dx, hf, hd, gs, ea, pk⟩ := w.ob h _ e
  have fa : wd.fp h (wd.ad h) := (hf _).mpr (.inl rfl)
  have oa : Own wd S.length (wd.ad h) := .inr ⟨h, lt_of_get e, fa⟩
  refine ⟨dx, gs, ea, PKW.length pk, w.setS e (fun u z => by cases z) fa ⟨dx, hf, ?_, _, upd_same, PKW.put (r.upd oa) (PKW.mono (fun _ _ z => z.upd oa) pk)⟩⟩
  rw [upd_ne]
  · exact hd
  · rintro rfl
    rw [hd] at ea
    cases ea
theorem ds_setF (hc : Cls X.K (cl c)) (na : NoAttr X.K (cl c) f) (ho : DE X cl o fo) (he : DE X cl e fe) (hs : swapsWith e (some (.Attribute o f pos')) pos.line X.env = pure false := by rfl) : DS X cl (.Assign [.Attribute o f pos'] e pos) (gSetF c f fo fe) := by
  obtain ⟨t, p, s⟩ := he
  obtain ⟨t2, p2, s2⟩ := ho
  refine ⟨_, ps_fld p2 p hs, fun wd σ ρ S H D fl S' w q h k => ?_⟩
  obtain ⟨x, S1, h1, h⟩ := bindR_inv h
  obtain ⟨y, S2, h2, h⟩ := bindR_inv h
  obtain ⟨_, S3, h3, h⟩ := bindR_inv h
  cases h
  refine s wd σ ρ S H _ x S1 w q h1 fun wd1 v1 H1 w1 x1 r1 => ?_
  refine s2 wd1 σ ρ S1 H1 _ y S2 w1 (q.ext x1) h2 fun wd2 v2 H2 w2 x2 r2 => ?_
  unfold uSetF at h3
  split at h3
  · rename_i hh
    obtain ⟨hi, rfl⟩ := r2
    split at h3
    · rename_i c' fs e1
      split at h3
      · rename_i ec
        obtain ⟨ec, hl⟩ := ec
        subst ec
        cases h3
        obtain ⟨dx, gs, ea, l, w3, x3⟩ := w2.setF (f := f) e1 (r1.ext x2)
        exact ⟨_, _, _, _, rfl, ea, hc, na, by rw [l]; exact hl, k wd2 σ _ w3 ((x1.trans x2).trans x3) (((q.ext x1).ext x2).ext x3)⟩
      · cases h3
    · cases h3
  · cases h3
theorem ds_augF {op : Operator} {rd : V → V → Hp → VK → Prop} {u : Val → Val → M Val} (hc : Cls X.K (cl c)) (na : NoAttr X.K (cl c) f) (ho : DE X cl o fo) (he : DE X cl e fe) (hop : InOp X op rd) (hu : SimO X.K cl rd u) : DS X cl (.AugAssign (.Attribute o f tpos) op e pos) (gAugF c f u fo fe) := by
  obtain ⟨t, p, s⟩ := he
  obtain ⟨t2, p2, s2⟩ := ho
  refine ⟨_, ps_fldaug p2 p hop, fun wd σ ρ S H D fl S' w q h k => ?_⟩
  obtain ⟨y, S1, h1, h⟩ := bindR_inv h
  obtain ⟨a, S2, h2, h⟩ := bindR_inv h
  obtain ⟨b, S3, h3, h⟩ := bindR_inv h
  obtain ⟨z, S4, h4, h⟩ := bindR_inv h
  obtain ⟨_, S5, h5, h⟩ := bindR_inv h
  cases h
  refine s2 wd σ ρ S H _ y S1 w q h1 fun wd1 v1 H1 w1 x1 r1 => ?_
  clear h
  cases y with
  | pd _ => cases h2
  | obj hh =>
    obtain ⟨hi, rfl⟩ := r1
    unfold uFld at h2
    cases e1 : S1[hh]? with
    | none =>
      simp only [e1] at h2
      cases h2
    | some ob =>
      cases ob with
      | ins c' fs =>
        simp only [e1] at h2
        by_cases ec : c' = c
        · subst ec
          rw [if_pos rfl] at h2
          obtain ⟨dx, _, _, gs, ea, pk⟩ := w1.ob hh _ e1
          rcases PKW.lookup (f := f) pk with ⟨_, l2⟩ | ⟨v, d', l1, l2, r⟩
          · rw [l2] at h2
            cases h2
          · rw [l2] at h2
            cases h2
            refine ⟨_, _, _, _, v, rfl, ea, hc, na, l1, s wd1 σ ρ _ H1 _ b S3 w1 (q.ext x1) h3 fun wd3 v3 H3 w3 x3 r3 => ?_⟩
            refine hu wd3 S3 H3 v v3 _ b _ z S4 w3 (r.ext x3) r3 h4 fun wd4 v4 H4 w4 x4 r4 => ?_
            unfold uSetF at h5
            cases e2 : S4[hh]? with
            | none =>
              simp only [e2] at h5
              cases h5
            | some ob2 =>
              cases ob2 with
              | ins c2 fs2 =>
                simp only [e2] at h5
                by_cases ec2 : c2 = c' ∧ fs2.length < 1000
                · rw [if_pos ec2] at h5
                  obtain ⟨ec2, hl⟩ := ec2
                  subst ec2
                  cases h5
                  obtain ⟨dx2, gs2, ea2, l2', w5, x5⟩ := w4.setF (f := f) e2 r4
                  have ead : wd4.ad hh = wd1.ad hh := by
                    rw [x4.ad hh (Nat.lt_of_lt_of_le hi x3.len), x3.ad hh hi]
                  rw [ead] at ea2 w5 x5
                  exact ⟨dx2, gs2, ea2, by rw [l2']; exact hl, k wd4 σ _ w5 (((x1.trans x3).trans x4).trans x5) ((((q.ext x1).ext x3).ext x4).ext x5)⟩
                · rw [if_neg ec2] at h5
                  cases h5
              | _ =>
                simp only [e2] at h5
                cases h5
        · rw [if_neg ec] at h2
          cases h2
      | _ =>
        simp only [e1] at h2
        cases h2
end
end DM
set_option Elab.async false
set_option linter.all false
set_option maxRecDepth 100000
set_option maxHeartbeats 4000000
/-! DMDict: dicts -/
namespace DM
open PySem L2 PyProof.Rows
section
variable {κ α : Type} [DecidableEq κ]
def valD (kvs : List (κ × α)) (k : κ) : Option α := (kvs.find? fun kv => decide (kv.1 = k)).map (·.2)
def putKD (kvs : List (κ × α)) (k : κ) (v : α) : List (κ × α) :=
  if (kvs.any fun kv => decide (kv.1 = k)) = true then kvs.map (fun kv => if kv.1 = k then (kv.1, v) else kv) else kvs ++ [(k, v)]
def dropKD (kvs : List (κ × α)) (k : κ) : List (κ × α) := kvs.filter fun kv => decide (kv.1 ≠ k)
theorem pk_val {R : V → α → Prop} {k : κ} : ∀ {ks : List (κ × V)} {kvs : List (κ × α)}, Paired (fun p q => p.1 = q.1 ∧ R p.2 q.2) ks kvs → (valV ks k = none ∧ valD kvs k = none) ∨ ∃ v d, valV ks k = some v ∧ valD kvs k = some d ∧ R v d
  | _, _, .nil => .inl ⟨rfl, rfl⟩
  | (g, v) :: ks, (g', d) :: kvs, .cons ⟨e, r⟩ t => by
    dsimp only at e r
    subst e
    by_cases q : g = k
    · exact .inr ⟨v, d, valV_pos q, by simp [valD, List.find?_cons, q], r⟩
    · rw [valV_neg (p := (g, v)) q, show valD ((g, d) :: kvs) k = valD kvs k by simp [valD, List.find?_cons, q]]
      exact pk_val t
theorem pk_any {R : V → α → Prop} {k : κ} : ∀ {ks : List (κ × V)} {kvs : List (κ × α)}, Paired (fun p q => p.1 = q.1 ∧ R p.2 q.2) ks kvs → (ks.any fun kv => decide (kv.1 = k)) = kvs.any fun kv => decide (kv.1 = k)
  | _, _, .nil => rfl
  | (g, v) :: ks, (g', d) :: kvs, .cons ⟨e, r⟩ t => by
    dsimp only at e
    subst e
    rw [List.any_cons, List.any_cons, pk_any t]
theorem pk_map {R : V → α → Prop} {k : κ} {x : V} {y : α} (rx : R x y) : ∀ {ks : List (κ × V)} {kvs : List (κ × α)}, Paired (fun p q => p.1 = q.1 ∧ R p.2 q.2) ks kvs →
    Paired (fun p q => p.1 = q.1 ∧ R p.2 q.2) (ks.map fun kv => if kv.1 = k then (kv.1, x) else kv) (kvs.map fun kv => if kv.1 = k then (kv.1, y) else kv)
  | _, _, .nil => .nil
  | (g, v) :: ks, (g', d) :: kvs, .cons ⟨e, r⟩ t => by
    dsimp only at e r
    subst e
    refine .cons ?_ (pk_map rx t)
    by_cases q : g = k <;> simp [q, rx, r]
theorem pk_app {R : V → α → Prop} : ∀ {ks ls : List (κ × V)} {kvs lvs : List (κ × α)}, Paired (fun p q => p.1 = q.1 ∧ R p.2 q.2) ks kvs → Paired (fun p q => p.1 = q.1 ∧ R p.2 q.2) ls lvs → Paired (fun p q => p.1 = q.1 ∧ R p.2 q.2) (ks ++ ls) (kvs ++ lvs)
  | _, _, _, _, .nil, s => s
  | _, _, _, _, .cons r t, s => .cons r (pk_app t s)
theorem pk_put {R : V → α → Prop} {k : κ} {x : V} {y : α} (rx : R x y) {ks : List (κ × V)} {kvs : List (κ × α)} (h : Paired (fun p q => p.1 = q.1 ∧ R p.2 q.2) ks kvs) : Paired (fun p q => p.1 = q.1 ∧ R p.2 q.2) (putK ks k x) (putKD kvs k y) := by
  unfold putK putKD
  rw [pk_any h]
  split
  · exact pk_map rx h
  · exact pk_app h (.cons ⟨rfl, rx⟩ .nil)
theorem pk_drop {R : V → α → Prop} {k : κ} : ∀ {ks : List (κ × V)} {kvs : List (κ × α)}, Paired (fun p q => p.1 = q.1 ∧ R p.2 q.2) ks kvs → Paired (fun p q => p.1 = q.1 ∧ R p.2 q.2) (dropK ks k) (dropKD kvs k)
  | _, _, .nil => .nil
  | (g, v) :: ks, (g', d) :: kvs, .cons ⟨e, r⟩ t => by
    dsimp only at e r
    subst e
    have ih := pk_drop (k := k) t
    unfold dropK dropKD at *
    by_cases q : g = k
    · rw [List.filter_cons_of_neg (by simp [q]), List.filter_cons_of_neg (by simp [q])]
      exact ih
    · rw [List.filter_cons_of_pos (by simp [q]), List.filter_cons_of_pos (by simp [q])]
      exact .cons ⟨rfl, r⟩ ih
theorem pk_lift {K : PySem.W.Frag} {wd : Wd} {n : Nat} {H : Hp} : ∀ {ks : List (κ × V)} {kvs : List (κ × PyData)}, PKV (Rp K H (Own wd n)) ks kvs → PKW (RV K wd n H) ks (kvs.map fun p => (p.1, Val.pd p.2))
  | _, _, .nil => .nil
  | _, _, .cons ⟨e, r⟩ t => .cons ⟨e, r⟩ (pk_lift t)
end
def toKey (d : PyData) : Option Key := match d with
  | .int i => some (.inl i)
  | .str x => some (.inr x)
  | _ => none
def toKeys (d : PyData) : Option (List Key) := match d with
  | .tuple ds => ds.mapM toKey
  | _ => none
section
variable {K : PySem.W.Frag} {cl : Nat → Addr} {wd : Wd} {S : Store} {H : Hp}
theorem toKey_ok {O : Addr → Prop} {v : V} {d : PyData} {k : Key} (r : Rp K H O v d) (h : toKey d = some k) : v = kV k := by
  unfold toKey at h
  split at h
  · cases h; cases r; rfl
  · cases h; cases r; rfl
  · cases h
theorem toKeys_all {O : Addr → Prop} : ∀ {vs : List V} {ds : List PyData} {ks : List Key}, RpAll K H O vs ds → ds.mapM toKey = some ks → vs = ks.map kV
  | _, _, ks, .nil, h => by
    simp at h
    subst h
    rfl
  | _, _, ks, .cons r t, h => by
    rw [List.mapM_cons] at h
    obtain ⟨k, h1, h⟩ := Option.bind_eq_some_iff.mp h
    obtain ⟨l, h2, h⟩ := Option.bind_eq_some_iff.mp h
    cases h
    rw [List.map_cons, ← toKey_ok r h1, ← toKeys_all t h2]
theorem toKeys_ok {O : Addr → Prop} {v : V} {d : PyData} {ks : List Key} (r : Rp K H O v d) (h : toKeys d = some ks) : ∃ b, v = .ref b ∧ H b = some (.tup (ks.map kV)) := by
  unfold toKeys at h
  split at h
  · cases r with
    | tup f q => exact ⟨_, rfl, by rw [← toKeys_all q h]; exact f.1⟩
  · cases h
/-- what a dict has at a key -/
def dLook (o : Ob) (d : Val) : Option (Option Val) := match o, d with
  | .dK kvs, .pd d => (toKey d).map fun k => (valD kvs k).map Val.pd
  | .dV kvs, .pd d => (toKey d).map fun k => valD kvs k
  | .dT kvs, .pd d => (toKeys d).map fun k => (valD kvs k).map Val.pd
  | _, _ => none
theorem WR.look (w : WR K cl wd S H) {h : Nat} {o : Ob} {d : Val} {v : V} {r : Option Val} (e : S[h]? = some o) (rv : RV K wd S.length H v d) (hr : dLook o d = some r) :
    ∃ ov, DGet H (wd.ad h) v ov ∧ ((r = none ∧ ov = none) ∨ ∃ x y, r = some x ∧ ov = some y ∧ RV K wd S.length H y x) := by
  unfold dLook at hr
  split at hr
  · obtain ⟨_, ks, e1, pk⟩ := w.ob h _ e
    obtain ⟨k, hk, hr⟩ := Option.map_eq_some_iff.mp hr
    obtain rfl := toKey_ok rv hk
    refine ⟨_, DGet.k e1, ?_⟩
    rcases pk_val (k := k) pk with ⟨a, b⟩ | ⟨x, y, a, b, q⟩
    · rw [b] at hr
      exact .inl ⟨hr.symm, a⟩
    · rw [b] at hr
      exact .inr ⟨_, _, hr.symm, a, q⟩
  · obtain ⟨_, ks, e1, pk⟩ := w.ob h _ e
    obtain ⟨k, hk, hr⟩ := Option.map_eq_some_iff.mp hr
    obtain rfl := toKey_ok rv hk
    refine ⟨_, DGet.k e1, ?_⟩
    rcases pk_val (k := k) pk with ⟨a, b⟩ | ⟨x, y, a, b, q⟩
    · rw [b] at hr
      exact .inl ⟨hr.symm, a⟩
    · rw [b] at hr
      exact .inr ⟨_, _, hr.symm, a, q⟩
  · obtain ⟨_, ks, e1, pk⟩ := w.ob h _ e
    obtain ⟨k, hk, hr⟩ := Option.map_eq_some_iff.mp hr
    obtain ⟨b, rfl, eb⟩ := toKeys_ok rv hk
    refine ⟨_, DGet.t e1 eb, ?_⟩
    rcases pk_val (k := k) pk with ⟨a, b⟩ | ⟨x, y, a, b, q⟩
    · rw [b] at hr
      exact .inl ⟨hr.symm, a⟩
    · rw [b] at hr
      exact .inr ⟨_, _, hr.symm, a, q⟩
  · cases hr
/-- a dict behind d[k] = v -/
def dPut (o : Ob) (d v : Val) : Option Ob := match o, d, v with
  | .dK kvs, .pd d, .pd v => if kvs.length < 16777216 then (toKey d).map fun k => .dK (putKD kvs k v) else none
  | .dK kvs, .pd d, .obj i => if kvs.length < 16777216 then (toKey d).map fun k => .dV (putKD (kvs.map fun p => (p.1, Val.pd p.2)) k (.obj i)) else none
  | .dV kvs, .pd d, v => if kvs.length < 16777216 then (toKey d).map fun k => .dV (putKD kvs k v) else none
  | .dT kvs, .pd d, .pd v => if kvs.length < 16777216 then (toKeys d).map fun k => .dT (putKD kvs k v) else none
  | _, _, _ => none
theorem WR.put (w : WR K cl wd S H) {h : Nat} {o o' : Ob} {d x : Val} {v y : V} (e : S[h]? = some o) (rv : RV K wd S.length H v d) (ry : RV K wd S.length H y x) (hr : dPut o d x = some o') :
    ∃ H', DPut H (wd.ad h) v y H' ∧ WR K cl wd (S.set h o') H' ∧ Ext wd S H wd (S.set h o') H' := by
  unfold dPut at hr
  split at hr
  · split at hr
    · rename_i hl
      obtain ⟨f, ks, e1, pk⟩ := w.ob h _ e
      obtain ⟨k, hk, rfl⟩ := Option.map_eq_some_iff.mp hr
      obtain rfl := toKey_ok rv hk
      have oa : Own wd S.length (wd.ad h) := .inr ⟨h, lt_of_get e, (f _).mpr rfl⟩
      exact ⟨_, DPut.k e1 (by rw [Paired.length pk, szl]; exact hl), w.setS e (fun u z => by cases z) ((f _).mpr rfl) ⟨f, _, upd_same, pk_put (Rp.upd oa ry) (PKV.mono (fun _ _ z => Rp.upd oa z) pk)⟩⟩
    · cases hr
  · split at hr
    · rename_i hl
      obtain ⟨f, ks, e1, pk⟩ := w.ob h _ e
      obtain ⟨k, hk, rfl⟩ := Option.map_eq_some_iff.mp hr
      obtain rfl := toKey_ok rv hk
      have oa : Own wd S.length (wd.ad h) := .inr ⟨h, lt_of_get e, (f _).mpr rfl⟩
      exact ⟨_, DPut.k e1 (by rw [Paired.length pk, szl]; exact hl), w.setS e (fun u z => by cases z) ((f _).mpr rfl) ⟨f, _, upd_same, pk_put (RV.upd oa ry) (PKW.mono (fun _ _ z => z.upd oa) (pk_lift pk))⟩⟩
    · cases hr
  · split at hr
    · rename_i hl
      obtain ⟨f, ks, e1, pk⟩ := w.ob h _ e
      obtain ⟨k, hk, rfl⟩ := Option.map_eq_some_iff.mp hr
      obtain rfl := toKey_ok rv hk
      have oa : Own wd S.length (wd.ad h) := .inr ⟨h, lt_of_get e, (f _).mpr rfl⟩
      exact ⟨_, DPut.k e1 (by rw [Paired.length pk, szl]; exact hl), w.setS e (fun u z => by cases z) ((f _).mpr rfl) ⟨f, _, upd_same, pk_put (RV.upd oa ry) (PKW.mono (fun _ _ z => z.upd oa) pk)⟩⟩
    · cases hr
  · split at hr
    · rename_i hl
      obtain ⟨f, ks, e1, pk⟩ := w.ob h _ e
      obtain ⟨k, hk, rfl⟩ := Option.map_eq_some_iff.mp hr
      obtain ⟨b, rfl, eb⟩ := toKeys_ok rv hk
      have oa : Own wd S.length (wd.ad h) := .inr ⟨h, lt_of_get e, (f _).mpr rfl⟩
      exact ⟨_, DPut.t e1 eb (by rw [Paired.length pk, szl]; exact hl), w.setS e (fun u z => by cases z) ((f _).mpr rfl) ⟨f, _, upd_same, pk_put (Rp.upd oa ry) (PKV.mono (fun _ _ z => Rp.upd oa z) pk)⟩⟩
    · cases hr
  · cases hr
end
/-- a dict -/
def dOf (x : Val) (S : Store) : Option (Nat × Ob) := match x with
  | .obj h => (S[h]?).bind fun o => match o with
    | .dK _ => some (h, o)
    | .dT _ => some (h, o)
    | .dV _ => some (h, o)
    | _ => none
  | _ => none
theorem dOf_inv {x : Val} {S : Store} {h : Nat} {o : Ob} (e : dOf x S = some (h, o)) : x = .obj h ∧ S[h]? = some o := by
  unfold dOf at e
  split at e
  · obtain ⟨o', e1, e2⟩ := Option.bind_eq_some_iff.mp e
    split at e2 <;> first | (cases e2; exact ⟨rfl, e1⟩) | cases e2
  · cases e
def uDGet (x d : Val) : M Val := fun S => (dOf x S).bind fun p => (dLook p.2 d).bind fun r => r.map fun v => (v, S)
def uDIn (d x : Val) : M Val := fun S => (dOf x S).bind fun p => (dLook p.2 d).map fun r => (.pd (.bool r.isSome), S)
def uDNotIn (d x : Val) : M Val := fun S => (dOf x S).bind fun p => (dLook p.2 d).map fun r => (.pd (.bool (!r.isSome)), S)
def uGet1 (x : Val) (S1 : Store) (d : Val) : M Val := fun S => (dOf x S1).bind fun _ => (dOf x S).bind fun p => (dLook p.2 d).map fun r => (r.getD (.pd .none), S)
def uDPut (v x d : Val) : M Unit := fun S => (dOf x S).bind fun p => (dPut p.2 d v).map fun o => ((), S.set p.1 o)
def dDrop (o : Ob) (d : Val) : Option (Val × Ob) := match o, d with
  | .dK kvs, .pd d => (toKey d).bind fun k => (valD kvs k).map fun v => (Val.pd v, .dK (dropKD kvs k))
  | .dV kvs, .pd d => (toKey d).bind fun k => (valD kvs k).map fun v => (v, .dV (dropKD kvs k))
  | _, _ => none
def uPop1 (x : Val) (S1 : Store) (d : Val) : M Val := fun S => (dOf x S1).bind fun _ => (dOf x S).bind fun p => (dDrop p.2 d).map fun r => (r.1, S.set p.1 r.2)
def gDPut (fv fo fi : DEnv → M Val) : DEnv → M Fl := fun ρ S => bindR (fv ρ S) fun v S1 => bindR (fo ρ S1) fun x S2 => bindR (fi ρ S2) fun d S3 => bindR (uDPut v x d S3) fun _ S4 => some (.nx ρ, S4)
def eGet1 (fo fe : DEnv → M Val) : DEnv → M Val := fun ρ S => bindR (fo ρ S) fun x S1 => bindR (fe ρ S1) fun d S2 => uGet1 x S1 d S2
def ePop1 (fo fe : DEnv → M Val) : DEnv → M Val := fun ρ S => bindR (fo ρ S) fun x S1 => bindR (fe ρ S1) fun d S2 => uPop1 x S1 d S2
section
variable {X : Cx} {cl : Nat → Addr} {e o i : Expr} {fe fo fv fi : DEnv → M Val} {pos pos' : Pos}
theorem de_dget (hu : X.A.units + 1 < cLine) (ho : DE X cl o fo) (hi : DE X cl i fi) (hs : NoSl i := by exact fun _ _ => rfl) : DE X cl (.Subscript o i pos) (eO uDGet fo fi) := by
  obtain ⟨t1, p1, s1⟩ := ho
  obtain ⟨t2, p2, s2⟩ := hi
  refine ⟨_, pe_dget hu p1 p2 hs, fun wd σ ρ S H Q d S' w q h k => ?_⟩
  obtain ⟨x, S1, h1, h⟩ := bindR_inv h
  obtain ⟨y, S2, h2, h⟩ := bindR_inv h
  refine s1 wd σ ρ S H _ x S1 w q h1 fun wd1 v1 H1 w1 x1 r1 => ?_
  refine s2 wd1 σ ρ S1 H1 _ y S2 w1 (q.ext x1) h2 fun wd2 v2 H2 w2 x2 r2 => ?_
  obtain ⟨p, e1, h⟩ := Option.bind_eq_some_iff.mp h
  obtain ⟨r, e2, h⟩ := Option.bind_eq_some_iff.mp h
  obtain ⟨v, e3, h⟩ := Option.map_eq_some_iff.mp h
  cases h
  obtain ⟨rfl, e4⟩ := dOf_inv e1
  obtain ⟨hi, rfl⟩ := r1
  obtain ⟨ov, g, z⟩ := w2.look e4 r2 e2
  rcases z with ⟨z, _⟩ | ⟨a, b, za, zb, rr⟩
  · rw [z] at e3
    cases e3
  · rw [za] at e3
    cases e3
    subst zb
    refine ⟨_, b, rfl, ?_, k wd2 b H2 w2 (x1.trans x2) rr⟩
    rw [← x2.ad _ hi]
    exact g
theorem sim_din {K : PySem.W.Frag} {t1 t2 : TE} (s1 : SimE K cl t1 fi) (s2 : SimE K cl t2 fo) : SimE K cl (tDIn t1 t2) (eO uDIn fi fo) := fun wd σ ρ S H Q d S' w q h k => by
  obtain ⟨x, S1, h1, h⟩ := bindR_inv h
  obtain ⟨y, S2, h2, h⟩ := bindR_inv h
  refine s1 wd σ ρ S H _ x S1 w q h1 fun wd1 v1 H1 w1 x1 r1 => ?_
  refine s2 wd1 σ ρ S1 H1 _ y S2 w1 (q.ext x1) h2 fun wd2 v2 H2 w2 x2 r2 => ?_
  obtain ⟨p, e1, h⟩ := Option.bind_eq_some_iff.mp h
  obtain ⟨r, e2, h⟩ := Option.map_eq_some_iff.mp h
  cases h
  obtain ⟨rfl, e4⟩ := dOf_inv e1
  obtain ⟨hi, rfl⟩ := r2
  obtain ⟨ov, g, z⟩ := w2.look e4 (r1.ext x2) e2
  have es : ov.isSome = r.isSome := by
    rcases z with ⟨z1, z2⟩ | ⟨a, b, za, zb, rr⟩
    · rw [z1, z2]; rfl
    · rw [za, zb]; rfl
  refine ⟨_, ov, rfl, g, ?_⟩
  rw [es]
  exact k wd2 _ H2 w2 (x1.trans x2) (.bl _)
theorem de_din (hu : X.A.units + 1 < cLine) (hi : DE X cl i fi) (ho : DE X cl o fo) (hm : behindInMarks .In o = false := by first | exact nobehind _ (by decide) (by decide) | rfl) : DE X cl (.Compare i [.In] [o] pos) (eO uDIn fi fo) := by
  obtain ⟨t1, p1, s1⟩ := hi
  obtain ⟨t2, p2, s2⟩ := ho
  exact ⟨_, pe_cmp (pc_din hu p1 p2) hm, sim_din s1 s2⟩
theorem dt_din (hu : X.A.units + 1 < cLine) (hi : DE X cl i fi) (ho : DE X cl o fo) (hm : behindInMarks .In o = false := by first | exact nobehind _ (by decide) (by decide) | rfl) : DT X cl (.Compare i [.In] [o] pos) (tVal (eO uDIn fi fo)) := by
  obtain ⟨t1, p1, s1⟩ := hi
  obtain ⟨t2, p2, s2⟩ := ho
  exact ⟨_, pt_cmp (pc_din hu p1 p2) hm, sim_tB (sim_din s1 s2)⟩
theorem sim_dnotin {K : PySem.W.Frag} {t1 t2 : TE} (s1 : SimE K cl t1 fi) (s2 : SimE K cl t2 fo) : SimE K cl (tDNotIn t1 t2) (eO uDNotIn fi fo) := fun wd σ ρ S H Q d S' w q h k => by
  obtain ⟨x, S1, h1, h⟩ := bindR_inv h
  obtain ⟨y, S2, h2, h⟩ := bindR_inv h
  refine s1 wd σ ρ S H _ x S1 w q h1 fun wd1 v1 H1 w1 x1 r1 => ?_
  refine s2 wd1 σ ρ S1 H1 _ y S2 w1 (q.ext x1) h2 fun wd2 v2 H2 w2 x2 r2 => ?_
  obtain ⟨p, e1, h⟩ := Option.bind_eq_some_iff.mp h
  obtain ⟨r, e2, h⟩ := Option.map_eq_some_iff.mp h
  cases h
  obtain ⟨rfl, e4⟩ := dOf_inv e1
  obtain ⟨hi, rfl⟩ := r2
  obtain ⟨ov, g, z⟩ := w2.look e4 (r1.ext x2) e2
  have es : ov.isSome = r.isSome := by
    rcases z with ⟨z1, z2⟩ | ⟨a, b, za, zb, rr⟩
    · rw [z1, z2]; rfl
    · rw [za, zb]; rfl
  refine ⟨_, ov, rfl, g, ?_⟩
  rw [es]
  exact k wd2 _ H2 w2 (x1.trans x2) (.bl _)
theorem de_dnotin (hu : X.A.units + 1 < cLine) (hi : DE X cl i fi) (ho : DE X cl o fo) (hm : behindInMarks .NotIn o = false := by first | exact nobehind _ (by decide) (by decide) | rfl) : DE X cl (.Compare i [.NotIn] [o] pos) (eO uDNotIn fi fo) := by
  obtain ⟨t1, p1, s1⟩ := hi
  obtain ⟨t2, p2, s2⟩ := ho
  exact ⟨_, pe_cmp (pc_dnotin hu p1 p2) hm, sim_dnotin s1 s2⟩
theorem dt_dnotin (hu : X.A.units + 1 < cLine) (hi : DE X cl i fi) (ho : DE X cl o fo) (hm : behindInMarks .NotIn o = false := by first | exact nobehind _ (by decide) (by decide) | rfl) : DT X cl (.Compare i [.NotIn] [o] pos) (tVal (eO uDNotIn fi fo)) := by
  obtain ⟨t1, p1, s1⟩ := hi
  obtain ⟨t2, p2, s2⟩ := ho
  exact ⟨_, pt_cmp (pc_dnotin hu p1 p2) hm, sim_tB (sim_dnotin s1 s2)⟩
theorem ds_dput (hu : X.A.units + 1 < cLine) (hv : DE X cl e fv) (ho : DE X cl o fo) (hi : DE X cl i fi) (hs : swapsWith e (some (.Subscript o i pos')) pos.line X.env = pure false := by rfl) : DS X cl (.Assign [.Subscript o i pos'] e pos) (gDPut fv fo fi) := by
  obtain ⟨t1, p1, s1⟩ := hv
  obtain ⟨t2, p2, s2⟩ := ho
  obtain ⟨t3, p3, s3⟩ := hi
  refine ⟨_, ps_dput hu p2 p3 p1 hs, fun wd σ ρ S H D fl S' w q h k => ?_⟩
  obtain ⟨v, S1, h1, h⟩ := bindR_inv h
  obtain ⟨x, S2, h2, h⟩ := bindR_inv h
  obtain ⟨d, S3, h3, h⟩ := bindR_inv h
  obtain ⟨_, S4, h4, h⟩ := bindR_inv h
  cases h
  refine s1 wd σ ρ S H _ v S1 w q h1 fun wd1 v1 H1 w1 x1 r1 => ?_
  refine s2 wd1 σ ρ S1 H1 _ x S2 w1 (q.ext x1) h2 fun wd2 v2 H2 w2 x2 r2 => ?_
  refine s3 wd2 σ ρ S2 H2 _ d S3 w2 ((q.ext x1).ext x2) h3 fun wd3 v3 H3 w3 x3 r3 => ?_
  obtain ⟨p, e1, h⟩ := Option.bind_eq_some_iff.mp h4
  obtain ⟨o', e2, h⟩ := Option.map_eq_some_iff.mp h
  cases h
  obtain ⟨rfl, e4⟩ := dOf_inv e1
  obtain ⟨hi, rfl⟩ := r2
  obtain ⟨H', g, w4, x4⟩ := w3.put e4 r3 ((r1.ext x2).ext x3) e2
  refine ⟨_, H', rfl, ?_, k wd3 σ H' w4 (((x1.trans x2).trans x3).trans x4) ((((q.ext x1).ext x2).ext x3).ext x4)⟩
  rw [← x3.ad _ hi]
  exact g
theorem WR.isD {K : PySem.W.Frag} {wd : Wd} {S : Store} {H : Hp} (w : WR K cl wd S H) {h : Nat} {o : Ob} (e : S[h]? = some o) (ho : (∃ k, o = .dK k) ∨ (∃ k, o = .dT k) ∨ ∃ k, o = .dV k) : IsD H (wd.ad h) := by
  rcases ho with ⟨k, rfl⟩ | ⟨k, rfl⟩ | ⟨k, rfl⟩
  · obtain ⟨_, ks, e1, _⟩ := w.ob h _ e
    exact .inl ⟨ks, .inl e1⟩
  · obtain ⟨_, ks, e1, _⟩ := w.ob h _ e
    exact .inr ⟨ks, .inl e1⟩
  · obtain ⟨_, ks, e1, _⟩ := w.ob h _ e
    exact .inl ⟨ks, .inl e1⟩
theorem dOf_kind {x : Val} {S : Store} {h : Nat} {o : Ob} (e : dOf x S = some (h, o)) : (∃ k, o = .dK k) ∨ (∃ k, o = .dT k) ∨ ∃ k, o = .dV k := by
  unfold dOf at e
  split at e
  · obtain ⟨o', e1, e2⟩ := Option.bind_eq_some_iff.mp e
    split at e2
    · cases e2; exact .inl ⟨_, rfl⟩
    · cases e2; exact .inr (.inl ⟨_, rfl⟩)
    · cases e2; exact .inr (.inr ⟨_, rfl⟩)
    · cases e2
  · cases e
variable {apos cpos : Pos}
theorem de_get1 (hu : X.A.units + 1 < cLine) (ho : DE X cl o fo) (he : DE X cl e fe) (m : M1 X o "get" apos e cpos := by exact ⟨rfl, rfl, rfl, rfl⟩) : DE X cl (.Call (.Attribute o "get" apos) [e] [] cpos) (eGet1 fo fe) := by
  obtain ⟨t1, p1, s1⟩ := ho
  obtain ⟨t2, p2, s2⟩ := he
  refine ⟨_, pe_dget1 hu p1 p2 m, fun wd σ ρ S H Q d S' w q h k => ?_⟩
  obtain ⟨x, S1, h1, h⟩ := bindR_inv h
  obtain ⟨y, S2, h2, h⟩ := bindR_inv h
  obtain ⟨p0, e0, h⟩ := Option.bind_eq_some_iff.mp h
  obtain ⟨p, e1, h⟩ := Option.bind_eq_some_iff.mp h
  obtain ⟨r, e2, h⟩ := Option.map_eq_some_iff.mp h
  cases h
  refine s1 wd σ ρ S H _ x S1 w q h1 fun wd1 v1 H1 w1 x1 r1 => ?_
  obtain ⟨rfl, e4⟩ := dOf_inv e1
  obtain ⟨eh, e5⟩ := dOf_inv e0
  obtain ⟨hi, rfl⟩ := r1
  have eh2 : p.1 = p0.1 := by
    injection eh
  refine ⟨_, rfl, ?_, ?_⟩
  · rw [eh2]
    exact w1.isD e5 (dOf_kind e0)
  refine s2 wd1 σ ρ S1 H1 _ y _ w1 (q.ext x1) h2 fun wd2 v2 H2 w2 x2 r2 => ?_
  obtain ⟨ov, g, z⟩ := w2.look e4 r2 e2
  refine ⟨ov, by rw [← x2.ad _ hi]; exact g, k wd2 _ H2 w2 (x1.trans x2) ?_⟩
  rcases z with ⟨z1, z2⟩ | ⟨a, b, za, zb, rr⟩
  · rw [z1, z2]
    exact .non
  · rw [za, zb]
    exact rr
theorem de_pop1 (ho : DE X cl o fo) (he : DE X cl e fe) (m : M1 X o "pop" apos e cpos := by exact ⟨rfl, rfl, rfl, rfl⟩) : DE X cl (.Call (.Attribute o "pop" apos) [e] [] cpos) (ePop1 fo fe) := by
  obtain ⟨t1, p1, s1⟩ := ho
  obtain ⟨t2, p2, s2⟩ := he
  refine ⟨_, pe_dpop1 p1 p2 m, fun wd σ ρ S H Q d S' w q h k => ?_⟩
  obtain ⟨x, S1, h1, h⟩ := bindR_inv h
  obtain ⟨y, S2, h2, h⟩ := bindR_inv h
  obtain ⟨p0, e0, h⟩ := Option.bind_eq_some_iff.mp h
  obtain ⟨p, e1, h⟩ := Option.bind_eq_some_iff.mp h
  obtain ⟨r, e2, h⟩ := Option.map_eq_some_iff.mp h
  cases h
  refine s1 wd σ ρ S H _ x S1 w q h1 fun wd1 v1 H1 w1 x1 r1 => ?_
  obtain ⟨rfl, e4⟩ := dOf_inv e1
  obtain ⟨eh, e5⟩ := dOf_inv e0
  obtain ⟨hi, rfl⟩ := r1
  have eh2 : p.1 = p0.1 := by
    injection eh
  refine ⟨_, rfl, ?_, ?_⟩
  · rw [eh2]
    exact w1.isD e5 (dOf_kind e0)
  refine s2 wd1 σ ρ S1 H1 _ y _ w1 (q.ext x1) h2 fun wd2 v2 H2 w2 x2 r2 => ?_
  rw [← x2.ad _ hi]
  obtain ⟨hh, ob⟩ := p
  dsimp only at *
  clear h
  cases y with
  | obj _ => cases ob <;> cases e2
  | pd y =>
    cases ob with
    | dK kvs =>
      obtain ⟨f, ks, e6, pk⟩ := w2.ob _ _ e4
      obtain ⟨kk, hk, e2⟩ := Option.bind_eq_some_iff.mp (show ((toKey y).bind fun k => (valD kvs k).map fun v => (Val.pd v, Ob.dK (dropKD kvs k))) = some r from e2)
      obtain ⟨v, hv, e2⟩ := Option.map_eq_some_iff.mp e2
      cases e2
      have oa : Own wd2 S2.length (wd2.ad hh) := .inr ⟨hh, lt_of_get e4, (f _).mpr rfl⟩
      rcases pk_val (k := kk) pk with ⟨_, b⟩ | ⟨a, b, za, zb, rr⟩
      · rw [b] at hv
        cases hv
      · rw [zb] at hv
        cases hv
        obtain ⟨w3, x3⟩ := w2.setS (o' := .dK (dropKD kvs kk)) (u := .dK (dropK ks kk)) e4 (fun u z => by cases z) ((f _).mpr rfl) ⟨f, _, upd_same, PKV.mono (fun _ _ z => Rp.upd oa z) (pk_drop pk)⟩
        refine ⟨ks, kk, a, e6, toKey_ok r2 hk, za, k wd2 a _ w3 ((x1.trans x2).trans x3) ?_⟩
        exact RV.ext (d := .pd _) x3 rr
    | dV kvs =>
      obtain ⟨f, ks, e6, pk⟩ := w2.ob _ _ e4
      obtain ⟨kk, hk, e2⟩ := Option.bind_eq_some_iff.mp (show ((toKey y).bind fun k => (valD kvs k).map fun v => (v, Ob.dV (dropKD kvs k))) = some r from e2)
      obtain ⟨v, hv, e2⟩ := Option.map_eq_some_iff.mp e2
      cases e2
      have oa : Own wd2 S2.length (wd2.ad hh) := .inr ⟨hh, lt_of_get e4, (f _).mpr rfl⟩
      rcases pk_val (k := kk) pk with ⟨_, b⟩ | ⟨a, b, za, zb, rr⟩
      · rw [b] at hv
        cases hv
      · rw [zb] at hv
        cases hv
        obtain ⟨w3, x3⟩ := w2.setS (o' := .dV (dropKD kvs kk)) (u := .dK (dropK ks kk)) e4 (fun u z => by cases z) ((f _).mpr rfl) ⟨f, _, upd_same, PKW.mono (fun _ _ z => z.upd oa) (pk_drop pk)⟩
        exact ⟨ks, kk, a, e6, toKey_ok r2 hk, za, k wd2 a _ w3 ((x1.trans x2).trans x3) (rr.ext x3)⟩
    | _ => cases e2
end
end DM
set_option Elab.async false
set_option linter.all false
set_option maxRecDepth 100000
set_option maxHeartbeats 4000000
/-! DMDict2: new dicts, a dict's items -/
namespace DM
open PySem L2 PyProof.Rows
section
variable {K : PySem.W.Frag} {cl : Nat → Addr} {wd : Wd} {S : Store} {H : Hp}
theorem WR.newDT (w : WR K cl wd S H) {p : Addr} (hp : H p = none) :
    ∃ wd', WR K cl wd' (S ++ [.dT []]) (upd H p (.dT [])) ∧ Ext wd S H wd' (S ++ [.dT []]) (upd H p (.dT [])) ∧ RV K wd' (S ++ [Ob.dT []]).length (upd H p (.dT [])) (.ref p) (.obj S.length) := by
  have hk := upd_keeps (o := .dT []) hp
  obtain ⟨w2, x2⟩ := w.push (o := .dT []) (p := p) (f := fun b => b = p) hk (fun b hb => by subst hb; exact ⟨hp, _, upd_same⟩) ⟨fun b => Iff.rfl, [], upd_same, .nil⟩
  exact ⟨_, w2, x2, by simp, by simp [Wd.push]⟩
def keyD : Key → PyData
  | .inl i => .int i
  | .inr x => .str x
theorem keyD_rp {O : Addr → Prop} : ∀ k : Key, Rp K H O (kV k) (keyD k)
  | .inl i => .int i
  | .inr x => .str x
def itemD (q : Key × PyData) : PyData := .tuple [keyD q.1, q.2]
theorem items_rp {O O0 : Addr → Prop} {H0 : Hp} (hk : ∀ b o, H0 b = some o → ¬ O0 b → H b = some o ∧ ¬ O b) : ∀ {ts : List Addr} {ks : List (Key × V)} {kvs : List (Key × PyData)},
    Paired (fun (t : Addr) (q : Key × V) => H t = some (.tup [kV q.1, q.2])) ts ks → (∀ t ∈ ts, ¬ O t) → PKV (Rp K H0 O0) ks kvs → RpAll K H O (ts.map V.ref) (kvs.map itemD)
  | _, _, _, .nil, _, .nil => .nil
  | _, (k, v) :: _, (k', d) :: _, .cons e t, hn, .cons ⟨ek, r⟩ t2 => by
    dsimp only at ek r e
    subst ek
    exact .cons (.tup ⟨e, hn _ (List.mem_cons_self ..)⟩ (.cons (keyD_rp k) (.cons (Rp.mono hk _ _ r) .nil))) (items_rp hk t (fun z hz => hn z (List.mem_cons_of_mem _ hz)) t2)
def uItems : Val → M Val := fun x S => match x with
  | .obj h => match S[h]? with
    | some (.dK kvs) => some (.pd (.list (kvs.map itemD)), S)
    | _ => none
  | _ => none
def uItemsM : Val → M Val := fun x S => match x with
  | .obj h => match S[h]? with
    | some (.dK kvs) => some (.obj S.length, S ++ [.lst (kvs.map itemD)])
    | _ => none
  | _ => none
end
section
variable {X : Cx} {cl : Nat → Addr} {e : Expr} {fe : DEnv → M Val} {apos cpos pos p : Pos}
theorem de_items (hc : X.calm = true) (he : DE X cl e fe) (hg : Gl X "list") (hm : X.mg "list" = none) (hv : bootBuiltins "list" = some (.type "list") := by decide +kernel) (hbase : attributeBase e "items" X.env (eval e X.env) = eval e X.env := by rfl) (hline : (apos.endLine == cpos.line) = true := by rfl)
    (hs : starEach [.Call (.Attribute e "items" apos) [] [] cpos] X.env = (false, eval (.Call (.Attribute e "items" apos) [] [] cpos) X.env) :: starEach [] X.env := by rfl) :
    DE X cl (.Call (.Name "list" p) [.Call (.Attribute e "items" apos) [] [] cpos] [] pos) (eU uItems fe) := by
  obtain ⟨t1, p1, s1⟩ := he
  refine ⟨_, LiI.pe_listItems hc p1 hg hm hv hbase hline hs, fun wd σ ρ S H Q d S' w q h k => ?_⟩
  obtain ⟨x, S1, h1, hz⟩ := bindR_inv h
  clear h
  refine s1 wd σ ρ S H _ x S1 w q h1 fun wd1 v1 H1 w1 x1 r1 => ?_
  unfold uItems at hz
  split at hz
  · rename_i hh
    obtain ⟨hi, rfl⟩ := r1
    split at hz
    · rename_i kvs e1
      cases hz
      obtain ⟨f, ks, e2, pk⟩ := w1.ob hh _ e1
      refine ⟨_, ks, rfl, e2, fun H' p ts hk hp hn np hp' pr => ?_⟩
      refine k wd1 _ H' (w1.mono_all hk) (x1.trans (Ext.all w1 hk)) (.lst ⟨.inl hp', w1.fresh hp⟩ (items_rp (fun b o e n => ⟨hk b o e, n⟩) pr (fun t ht => w1.fresh (hn t ht)) pk))
    · cases hz
  · cases hz
theorem de_itemsM (hc : X.calm = true) (he : DE X cl e fe) (hg : Gl X "list") (hm : X.mg "list" = none) (hv : bootBuiltins "list" = some (.type "list") := by decide +kernel) (hbase : attributeBase e "items" X.env (eval e X.env) = eval e X.env := by rfl) (hline : (apos.endLine == cpos.line) = true := by rfl)
    (hs : starEach [.Call (.Attribute e "items" apos) [] [] cpos] X.env = (false, eval (.Call (.Attribute e "items" apos) [] [] cpos) X.env) :: starEach [] X.env := by rfl) :
    DE X cl (.Call (.Name "list" p) [.Call (.Attribute e "items" apos) [] [] cpos] [] pos) (eU uItemsM fe) := by
  obtain ⟨t1, p1, s1⟩ := he
  refine ⟨_, LiI.pe_listItems hc p1 hg hm hv hbase hline hs, fun wd σ ρ S H Q d S' w q h k => ?_⟩
  obtain ⟨x, S1, h1, hz⟩ := bindR_inv h
  clear h
  refine s1 wd σ ρ S H _ x S1 w q h1 fun wd1 v1 H1 w1 x1 r1 => ?_
  unfold uItemsM at hz
  split at hz
  · rename_i hh
    obtain ⟨hi, rfl⟩ := r1
    split at hz
    · rename_i kvs e1
      cases hz
      obtain ⟨f, ks, e2, pk⟩ := w1.ob hh _ e1
      refine ⟨_, ks, rfl, e2, fun H' p ts hk hp hn np hp' pr => ?_⟩
      have ow : ∀ b, H1 b = none → b ≠ p → ¬ Own (wd1.push S1.length p fun b => b = p) (S1.length + 1) b := fun b hb ne => by
        rw [push_own]
        rintro (z | z)
        · exact w1.fresh hb z
        · exact ne z
      obtain ⟨w2, x2⟩ := w1.push (o := .lst (kvs.map itemD)) (p := p) (f := fun b => b = p) hk (fun b hb => by subst hb; exact ⟨hp, _, hp'⟩) ⟨fun b => Iff.rfl, _, hp', items_rp (fun b o e n => ⟨hk b o e, by
        rw [push_own]
        rintro (z | z)
        · exact n z
        · subst z; rw [hp] at e; cases e⟩) pr (fun t ht => ow t (hn t ht) (fun z => np (by rw [← z]; exact ht))) pk⟩
      exact k _ _ H' w2 (x1.trans x2) ⟨by simp, by simp [Wd.push]⟩
    · cases hz
  · cases hz
/-- {} -/
def eDict0 : DEnv → M Val := fun _ S => some (.obj S.length, S ++ [.dK []])
def eDictT : DEnv → M Val := fun _ S => some (.obj S.length, S ++ [.dT []])
theorem de_dict0 : DE X cl (.Dict [] [] pos) eDict0 := ⟨_, pe_dnewK, fun wd σ ρ S H Q d S' w q h k => by
  cases h
  intro p hp
  obtain ⟨wd2, w2, x2, r⟩ := w.newDK hp
  exact k wd2 _ _ w2 x2 r⟩
theorem de_dictT : DE X cl (.Dict [] [] pos) eDictT := ⟨_, pe_dnewT, fun wd σ ρ S H Q d S' w q h k => by
  cases h
  intro p hp
  obtain ⟨wd2, w2, x2, r⟩ := w.newDT hp
  exact k wd2 _ _ w2 x2 r⟩
/-! += of an attribute -/
def uAddI : Val → Val → M Val := fun a b S => match a, b with
  | .pd (.int i), .pd (.int j) => some (.pd (.int (i + j)), S)
  | _, _ => none
theorem so_addI {K : PySem.W.Frag} : SimO K cl rAdd uAddI := fun wd S H x y dx dy Q d S' w rx ry h k => by
  unfold uAddI at h
  split at h
  · cases h
    obtain rfl := rx.int_inv
    obtain rfl := ry.int_inv
    exact ⟨_, _, rfl, rfl, k wd _ H w .refl (.int _)⟩
  · cases h
theorem so_subI {K : PySem.W.Frag} : SimO K cl rSub uSub := fun wd S H x y dx dy Q d S' w rx ry h k => by
  unfold uSub at h
  split at h
  · cases h
    obtain rfl := rx.int_inv
    obtain rfl := ry.int_inv
    exact ⟨_, _, rfl, rfl, k wd _ H w .refl (.int _)⟩
  · cases h
/-! x (not) in T, T ints of the text's own top -/
def uInC (neg : Bool) (ns : List Int) : Val → M Val := fun x S => match x with
  | .pd (.int i) => some (.pd (.bool (if neg then !decide (i ∈ ns) else decide (i ∈ ns))), S)
  | _ => none
theorem inV_ints (i : Int) : ∀ ns : List Int, inV (.int i) (ns.map V.int) = decide (i ∈ ns)
  | [] => rfl
  | n :: ns => by
    have ih := inV_ints i ns
    unfold inV at ih ⊢
    rw [List.map_cons, List.any_cons, ih]
    have e : eqV (.int n) (.int i) = decide (n = i) := by
      show (n == i) = _
      by_cases q : n = i <;> simp [q]
    rw [e]
    by_cases q : n = i
    · simp [q]
    · have q2 : i ≠ n := fun z => q z.symm
      simp [q, q2]
theorem ints_flat : ∀ ns : List Int, (ns.map V.int).all flatV = true
  | [] => rfl
  | n :: ns => by
    rw [List.map_cons, List.all_cons, ints_flat ns]
    rfl
theorem sim_inC {K : PySem.W.Frag} {t1 : TE} {neg : Bool} {ns : List Int} {t : Addr} {fa : DEnv → M Val} (ht : ∀ H, SqT K H t (ns.map V.int)) (s1 : SimE K cl t1 fa) : SimE K cl (tOp (rIn K neg) t1 (tC (.ref t))) (eU (uInC neg ns) fa) := fun wd σ ρ S H Q d S' w q h k => by
  obtain ⟨y, S1, h1, hz⟩ := bindR_inv h
  clear h
  refine s1 wd σ ρ S H _ y S1 w q h1 fun wd1 v1 H1 w1 x1 r1 => ?_
  unfold uInC at hz
  split at hz
  · rename_i i
    cases hz
    obtain rfl := r1.int_inv
    refine ⟨t, _, rfl, .inr (ht H1), rfl, ints_flat ns, ?_⟩
    rw [inV_ints]
    exact k wd1 _ H1 w1 x1 (.bl _)
  · cases hz
section
variable {a : Expr} {x : Str} {ns : List Int} {t : Addr} {fa : DEnv → M Val} {p2 : Pos}
theorem de_notinC (ha : DE X cl a fa) (hg : Gl X x) (hm : X.mg x = some (.ref t)) (ht : ∀ H, SqT X.K H t (ns.map V.int)) (hd : (x == ("__debug__" : Str)) = false := by decide) (hb : behindInMarks .NotIn (.Name x p2) = false := by first | exact nobehind _ (by decide) (by decide) | rfl) :
    DE X cl (.Compare a [.NotIn] [.Name x p2] pos) (eU (uInC true ns) fa) := by
  obtain ⟨t1, p1, s1⟩ := ha
  exact ⟨_, pe_cmpR op_notIn_seq p1 (pe_glob (v := .ref t) hg hm rfl hd) hb, sim_inC ht s1⟩
theorem dt_notinC (ha : DE X cl a fa) (hg : Gl X x) (hm : X.mg x = some (.ref t)) (ht : ∀ H, SqT X.K H t (ns.map V.int)) (hd : (x == ("__debug__" : Str)) = false := by decide) (hb : behindInMarks .NotIn (.Name x p2) = false := by first | exact nobehind _ (by decide) (by decide) | rfl) :
    DT X cl (.Compare a [.NotIn] [.Name x p2] pos) (tVal (eU (uInC true ns) fa)) := by
  obtain ⟨t1, p1, s1⟩ := ha
  exact ⟨_, pt_cmpR op_notIn_seq p1 (pe_glob (v := .ref t) hg hm rfl hd) hb, sim_tB (sim_inC ht s1)⟩
theorem de_inC (ha : DE X cl a fa) (hg : Gl X x) (hm : X.mg x = some (.ref t)) (ht : ∀ H, SqT X.K H t (ns.map V.int)) (hd : (x == ("__debug__" : Str)) = false := by decide) (hb : behindInMarks .In (.Name x p2) = false := by first | exact nobehind _ (by decide) (by decide) | rfl) :
    DE X cl (.Compare a [.In] [.Name x p2] pos) (eU (uInC false ns) fa) := by
  obtain ⟨t1, p1, s1⟩ := ha
  exact ⟨_, pe_cmpR op_in_seq p1 (pe_glob (v := .ref t) hg hm rfl hd) hb, sim_inC ht s1⟩
end
theorem sqT_of {K : PySem.W.Frag} {a : Addr} {vs : List V} (h : SqT K (fun _ => none) a vs) : ∀ H, SqT K H a vs := fun H => by
  rcases h with h | h
  · rcases h with h | ⟨_, h⟩ <;> cases h
  · exact .inr h
end
end DM
set_option Elab.async false
set_option linter.all false
set_option maxRecDepth 100000
set_option maxHeartbeats 4000000
/-! DMIter: zip, enumerate -/
namespace DM
open PySem L2 PyProof.Rows
def zipD (xs ys : List PyData) : List Val := List.zipWith (fun x y => Val.pd (.tuple [x, y])) xs ys
def enumD (xs : List PyData) : List Val := xs.zipIdx.map fun p => Val.pd (.tuple [.int (p.2 : Nat), p.1])
def zipI (a b : Val) : M Iter := fun S => match a, b with
  | .pd (.list xs), .pd (.list ys) => some (⟨zipD xs ys, none⟩, S)
  | .pd (.tuple xs), .pd (.tuple ys) => some (⟨zipD xs ys, none⟩, S)
  | .pd (.list xs), .obj h => match S[h]? with
    | some (.lst ys) => some (⟨zipD xs ys, some (h, .lst ys)⟩, S.set h (.lock (.lst ys)))
    | some (.lock (.lst ys)) => some (⟨zipD xs ys, none⟩, S)
    | _ => none
  | .obj h, .pd (.list ys) => match S[h]? with
    | some (.lst xs) => some (⟨zipD xs ys, some (h, .lst xs)⟩, S.set h (.lock (.lst xs)))
    | some (.lock (.lst xs)) => some (⟨zipD xs ys, none⟩, S)
    | _ => none
  | _, _ => none
def iZip (fa fb : DEnv → M Val) : DEnv → M Iter := fun ρ S => bindR (fa ρ S) fun a S1 => bindR (fb ρ S1) fun b S2 => zipI a b S2
def enumI (a : Val) : M Iter := fun S => match a with
  | .pd (.list xs) => some (⟨enumD xs, none⟩, S)
  | .obj h => match S[h]? with
    | some (.lst xs) => some (⟨enumD xs, some (h, .lst xs)⟩, S.set h (.lock (.lst xs)))
    | some (.lock (.lst xs)) => some (⟨enumD xs, none⟩, S)
    | _ => none
  | _ => none
def iEnum (fa : DEnv → M Val) : DEnv → M Iter := fun ρ S => bindR (fa ρ S) fun a S1 => enumI a S1
section
variable {K : PySem.W.Frag} {cl : Nat → Addr}
theorem RpAll.at' {H : Hp} {O : Addr → Prop} : ∀ {vs : List V} {ds : List PyData}, RpAll K H O vs ds → ∀ {i : Nat} {v : V}, vs[i]? = some v → ∃ d, ds[i]? = some d ∧ Rp K H O v d
  | _, _, .nil, i, v, h => by cases i <;> cases h
  | _, _, .cons r t, 0, v, h => by cases h; exact ⟨_, rfl, r⟩
  | _, _, .cons r t, i + 1, v, h => RpAll.at' t h
/-- a list that stays what it is -/
def Src (K : PySem.W.Frag) (cl : Nat → Addr) (wd : Wd) (S : Store) (H : Hp) (a : Addr) (xs : List PyData) : Prop := ∀ wd' S' H', WR K cl wd' S' H' → Ext wd S H wd' S' H' → ∃ vs, SqL K H' a vs ∧ RpAll K H' (Own wd' S'.length) vs xs
def SrcT (K : PySem.W.Frag) (cl : Nat → Addr) (wd : Wd) (S : Store) (H : Hp) (a : Addr) (xs : List PyData) : Prop := ∀ wd' S' H', WR K cl wd' S' H' → Ext wd S H wd' S' H' → ∃ vs, SqT K H' a vs ∧ RpAll K H' (Own wd' S'.length) vs xs
theorem zip_get {xs ys : List PyData} {i : Nat} {x y : PyData} (hx : xs[i]? = some x) (hy : ys[i]? = some y) : (zipD xs ys)[i]? = some (.pd (.tuple [x, y])) := by
  unfold zipD
  rw [List.getElem?_zipWith, hx, hy]
theorem itOk_zip {wd : Wd} {S : Store} {H : Hp} {a b : Addr} {xs ys : List PyData} (ha : Src K cl wd S H a xs) (hb : Src K cl wd S H b ys) : ItOk K cl (Itz K a b) (zipD xs ys) wd S H := fun wd' S' H' w x => by
  obtain ⟨vs, ea, ra⟩ := ha wd' S' H' w x
  obtain ⟨us, eb, rb⟩ := hb wd' S' H' w x
  have hl : (zipD xs ys).length = min xs.length ys.length := by simp [zipD]
  have l1 := ra.length
  have l2 := rb.length
  refine ⟨⟨vs, us, ea, eb, by omega⟩, fun i hi => ?_⟩
  have h1 : i < vs.length := by omega
  have h2 : i < us.length := by omega
  refine ⟨⟨vs, us, vs[i], us[i], ea, eb, by simp [h1], by simp [h2]⟩, fun z H'' yl => ?_⟩
  obtain ⟨T, v, u, rfl, hT, rfl, yv, yu⟩ := yl
  obtain ⟨d, hd, rd⟩ := RpAll.at' ra (yv vs ea)
  obtain ⟨e, he, re⟩ := RpAll.at' rb (yu us eb)
  obtain ⟨w2, x2, r2⟩ := w.newT (.cons rd (.cons re .nil)) hT
  exact ⟨_, zip_get hd he, w2, x2, r2⟩
theorem itOk_zipT {wd : Wd} {S : Store} {H : Hp} {a b : Addr} {xs ys : List PyData} (ha : SrcT K cl wd S H a xs) (hb : SrcT K cl wd S H b ys) : ItOk K cl (RZ.ItzT K a b) (zipD xs ys) wd S H := fun wd' S' H' w x => by
  obtain ⟨vs, ea, ra⟩ := ha wd' S' H' w x
  obtain ⟨us, eb, rb⟩ := hb wd' S' H' w x
  have hl : (zipD xs ys).length = min xs.length ys.length := by simp [zipD]
  have l1 := ra.length
  have l2 := rb.length
  refine ⟨⟨vs, us, ea, eb, by omega⟩, fun i hi => ?_⟩
  have h1 : i < vs.length := by omega
  have h2 : i < us.length := by omega
  refine ⟨⟨vs, us, vs[i], us[i], ea, eb, by simp [h1], by simp [h2]⟩, fun z H'' yl => ?_⟩
  obtain ⟨T, v, u, rfl, hT, rfl, yv, yu⟩ := yl
  obtain ⟨d, hd, rd⟩ := RpAll.at' ra (yv vs ea)
  obtain ⟨e, he, re⟩ := RpAll.at' rb (yu us eb)
  obtain ⟨w2, x2, r2⟩ := w.newT (.cons rd (.cons re .nil)) hT
  exact ⟨_, zip_get hd he, w2, x2, r2⟩
theorem src_frz {wd : Wd} {S : Store} {H : Hp} {a : Addr} {xs : List PyData} {vs : List V} (f : FzL K H (Own wd S.length) a vs) (r : RpAll K H (Own wd S.length) vs xs) : Src K cl wd S H a xs := fun wd' S' H' w x =>
  ⟨vs, (f.mono x.keep).sq, RpAll.mono x.keep _ _ r⟩
theorem srcT_frz {wd : Wd} {S : Store} {H : Hp} {a : Addr} {xs : List PyData} {vs : List V} (f : FzT K H (Own wd S.length) a vs) (r : RpAll K H (Own wd S.length) vs xs) : SrcT K cl wd S H a xs := fun wd' S' H' w x =>
  ⟨vs, (FzT.mono x.keep f).sq, RpAll.mono x.keep _ _ r⟩
theorem Src.ext {wd wd1 : Wd} {S S1 : Store} {H H1 : Hp} {a : Addr} {xs : List PyData} (h : Src K cl wd S H a xs) (x : Ext wd S H wd1 S1 H1) : Src K cl wd1 S1 H1 a xs := fun wd' S' H' w y => h wd' S' H' w (x.trans y)
theorem src_lock {wd : Wd} {S : Store} {H : Hp} (w : WR K cl wd S H) {h : Nat} {xs : List PyData} (e : S[h]? = some (.lock (.lst xs))) : Src K cl wd S H (wd.ad h) xs := fun wd' S' H' w' x => by
  obtain ⟨f, vs, e1, r⟩ := w.ob h _ e
  obtain ⟨l1, l2⟩ := x.lock h _ e
  exact ⟨vs, SqL.of (by rw [l2]; exact e1), RpAll.mono x.keep _ _ r⟩
end
section
variable {X : Cx} {cl : Nat → Addr} {e e2 : Expr} {fa fb : DEnv → M Val} {p pos tpos : Pos} {elts : List Expr} {kk : Nat}
theorem di_zip (hg : Gl X "zip") (hm : X.mg "zip" = none) (ha : DE X cl e fa) (hb : DE X cl e2 fb) (hs : starEach [e, e2] X.env = (false, eval e X.env) :: starEach [e2] X.env := by rfl) (hs2 : starEach [e2] X.env = (false, eval e2 X.env) :: starEach [] X.env := by rfl) (hpl : (backTo pos (starEach [e2] X.env)).any (·.1) = false := by rfl) :
    DI X cl (.Tuple elts kk tpos) (.Call (.Name "zip" p) [e, e2] [] pos) (iZip fa fb) := by
  obtain ⟨t1, p1, s1⟩ := ha
  obtain ⟨t2, p2, s2⟩ := hb
  refine ⟨_, RZ.pi_zipA hg hm (pa_cons p1 (pa_cons p2 pa_nil hs2) hs) hs hpl, fun wd σ ρ S H R it S' w q h k => ?_⟩
  obtain ⟨a, S1, h1, h⟩ := bindR_inv h
  obtain ⟨b, S2, h2, hz⟩ := bindR_inv h
  clear h
  refine s1 wd σ ρ S H _ a S1 w q h1 fun wd1 v1 H1 w1 x1 r1 => ?_
  refine s2 wd1 σ ρ S1 H1 _ b S2 w1 (q.ext x1) h2 fun wd2 v2 H2 w2 x2 r2 => ?_
  have r1' := r1.ext x2
  clear r1
  unfold zipI at hz
  split at hz
  · cases hz
    cases r1' with
    | lst f1 q1 => cases r2 with
      | lst f2 q2 => exact ⟨_, _, _, _, rfl, .inl ⟨f1.sq, f2.sq, k wd2 _ H2 _ w2 (x1.trans x2) rfl w2 (itOk_zip (src_frz f1 q1) (src_frz f2 q2))⟩⟩
  · cases hz
    cases r1' with
    | tup f1 q1 => cases r2 with
      | tup f2 q2 => exact ⟨_, _, _, _, rfl, .inr ⟨f1.sq, f2.sq, k wd2 _ H2 _ w2 (x1.trans x2) rfl w2 (itOk_zipT (srcT_frz f1 q1) (srcT_frz f2 q2))⟩⟩
  · rename_i xs hh
    obtain ⟨hi, rfl⟩ := r2
    cases r1' with
    | lst f1 q1 =>
      split at hz
      · rename_i ys ex
        cases hz
        obtain ⟨_, vs, e1, _⟩ := w2.ob hh _ ex
        obtain ⟨w3, x3⟩ := w2.lockL ex (.inl ⟨_, rfl⟩)
        exact ⟨_, _, _, _, rfl, .inl ⟨f1.sq, SqL.of e1, k wd2 S2 H2 _ w2 (x1.trans x2) ⟨ex, fun u z => (by cases z), rfl⟩ w3 (itOk_zip ((src_frz f1 q1).ext x3) (src_lock w3 (List.getElem?_set_self (lt_of_get ex))))⟩⟩
      · rename_i ys ex
        cases hz
        obtain ⟨_, vs, e1, _⟩ := w2.ob hh _ ex
        exact ⟨_, _, _, _, rfl, .inl ⟨f1.sq, SqL.of e1, k wd2 _ H2 _ w2 (x1.trans x2) rfl w2 (itOk_zip (src_frz f1 q1) (src_lock w2 ex))⟩⟩
      · cases hz
  · rename_i hh ys
    obtain ⟨hi, rfl⟩ := r1'
    cases r2 with
    | lst f2 q2 =>
      split at hz
      · rename_i xs ex
        cases hz
        obtain ⟨_, vs, e1, _⟩ := w2.ob hh _ ex
        obtain ⟨w3, x3⟩ := w2.lockL ex (.inl ⟨_, rfl⟩)
        exact ⟨_, _, _, _, rfl, .inl ⟨SqL.of e1, f2.sq, k wd2 S2 H2 _ w2 (x1.trans x2) ⟨ex, fun u z => (by cases z), rfl⟩ w3 (itOk_zip (src_lock w3 (List.getElem?_set_self (lt_of_get ex))) ((src_frz f2 q2).ext x3))⟩⟩
      · rename_i xs ex
        cases hz
        obtain ⟨_, vs, e1, _⟩ := w2.ob hh _ ex
        exact ⟨_, _, _, _, rfl, .inl ⟨SqL.of e1, f2.sq, k wd2 _ H2 _ w2 (x1.trans x2) rfl w2 (itOk_zip (src_lock w2 ex) (src_frz f2 q2))⟩⟩
      · cases hz
  · cases hz
theorem lk_zip : ∀ ρ S it S', iZip fa fb ρ S = some (it, S') → ∀ h o, it.lk = some (h, o) → (∃ xs, o = Ob.lst xs) ∨ ∃ xs, o = Ob.lsv xs := fun ρ S it S' h hh o e => by
  obtain ⟨a, S1, h1, h⟩ := bindR_inv h
  obtain ⟨b, S2, h2, hz⟩ := bindR_inv h
  unfold zipI at hz
  split at hz
  · cases hz; cases e
  · cases hz; cases e
  · split at hz
    · cases hz; cases e; exact .inl ⟨_, rfl⟩
    · cases hz; cases e
    · cases hz
  · split at hz
    · cases hz; cases e; exact .inl ⟨_, rfl⟩
    · cases hz; cases e
    · cases hz
  · cases hz
theorem enum_get {xs : List PyData} {i : Nat} {x : PyData} (hx : xs[i]? = some x) : (enumD xs)[i]? = some (.pd (.tuple [.int (i : Nat), x])) := by
  unfold enumD
  rw [List.getElem?_map, List.getElem?_zipIdx, hx]
  simp
theorem itOk_enum {K : PySem.W.Frag} {wd : Wd} {S : Store} {H : Hp} {a : Addr} {xs : List PyData} (ha : Src K cl wd S H a xs) : ItOk K cl (Ite K a) (enumD xs) wd S H := fun wd' S' H' w x => by
  obtain ⟨vs, ea, ra⟩ := ha wd' S' H' w x
  have hl : (enumD xs).length = xs.length := by simp [enumD]
  have l1 := ra.length
  refine ⟨⟨vs, ea, by omega⟩, fun i hi => ?_⟩
  have h1 : i < vs.length := by omega
  refine ⟨⟨vs, vs[i], ea, by simp [h1]⟩, fun z H'' yl => ?_⟩
  obtain ⟨T, v, rfl, hT, rfl, yv⟩ := yl
  obtain ⟨d, hd, rd⟩ := RpAll.at' ra (yv vs ea)
  obtain ⟨w2, x2, r2⟩ := w.newT (.cons (.int _) (.cons rd .nil)) hT
  exact ⟨_, enum_get hd, w2, x2, r2⟩
theorem di_enum (hg : Gl X "enumerate") (hm : X.mg "enumerate" = none) (ha : DE X cl e fa) (hs : starEach [e] X.env = [(false, eval e X.env)] := by rfl) : DI X cl (.Tuple elts kk tpos) (.Call (.Name "enumerate" p) [e] [] pos) (iEnum fa) := by
  obtain ⟨t1, p1, s1⟩ := ha
  refine ⟨_, pi_enum hg hm (pa_cons p1 pa_nil (by rw [hs]; rfl)) hs, fun wd σ ρ S H R it S' w q h k => ?_⟩
  obtain ⟨a, S1, h1, hz⟩ := bindR_inv h
  clear h
  refine s1 wd σ ρ S H _ a S1 w q h1 fun wd1 v1 H1 w1 x1 r1 => ?_
  unfold enumI at hz
  split at hz
  · cases hz
    cases r1 with
    | lst f1 q1 => exact ⟨_, _, rfl, f1.sq, k wd1 _ H1 _ w1 x1 rfl w1 (itOk_enum (src_frz f1 q1))⟩
  · rename_i hh
    obtain ⟨hi, rfl⟩ := r1
    split at hz
    · rename_i ys ex
      cases hz
      obtain ⟨_, vs, e1, _⟩ := w1.ob hh _ ex
      obtain ⟨w3, x3⟩ := w1.lockL ex (.inl ⟨_, rfl⟩)
      exact ⟨_, _, rfl, SqL.of e1, k wd1 S1 H1 _ w1 x1 ⟨ex, fun u z => (by cases z), rfl⟩ w3 (itOk_enum (src_lock w3 (List.getElem?_set_self (lt_of_get ex))))⟩
    · rename_i ys ex
      cases hz
      obtain ⟨_, vs, e1, _⟩ := w1.ob hh _ ex
      exact ⟨_, _, rfl, SqL.of e1, k wd1 _ H1 _ w1 x1 rfl w1 (itOk_enum (src_lock w1 ex))⟩
    · cases hz
  · cases hz
theorem lk_enum : ∀ ρ S it S', iEnum fa ρ S = some (it, S') → ∀ h o, it.lk = some (h, o) → (∃ xs, o = Ob.lst xs) ∨ ∃ xs, o = Ob.lsv xs := fun ρ S it S' h hh o e => by
  obtain ⟨a, S1, h1, hz⟩ := bindR_inv h
  unfold enumI at hz
  split at hz
  · cases hz; cases e
  · split at hz
    · cases hz; cases e; exact .inl ⟨_, rfl⟩
    · cases hz; cases e
    · cases hz
  · cases hz
end
end DM
set_option Elab.async false
set_option linter.all false
set_option maxRecDepth 100000
set_option maxHeartbeats 4000000
/-! DMBox: a part of the store that stands by itself, as one object -/
namespace DM
open PySem L2 PyProof.Rows
noncomputable section
/-- what a box hides: what others own -/
def hidB (H : Hp) (O fp : Addr → Prop) : Addr → Prop := fun b => O b ∧ ¬ fp b ∧ ∃ o, H b = some o
/-- a store of its own, its object 0 at a, owning fp -/
def BoxP (T : Store) : BoxSem := fun K cl H O a fp => ∃ (ad : Nat → Addr) (fps : Nat → Addr → Prop), WR K cl ⟨ad, fps, hidB H O fp⟩ T H ∧ 0 < T.length ∧ ad 0 = a ∧ ∀ b, fp b ↔ ∃ i, i < T.length ∧ fps i b
theorem boxP_mono (T : Store) : (BoxP T).Mono := by
  intro K cl H O H' O' a fp keep same h
  obtain ⟨ad, fps, w, hl, h0, hf⟩ := h
  have fi : ∀ i b, i < T.length → fps i b → H' b = H b := fun i b hi hb => same b ((hf b).mpr ⟨i, hi, hb⟩)
  have kp : ∀ b o, H b = some o → ¬ Own ⟨ad, fps, hidB H O fp⟩ T.length b → H' b = some o ∧ ¬ Own ⟨ad, fps, hidB H' O' fp⟩ T.length b := fun b o e n => by
    have nf : ¬ fp b := fun z => n (.inr ((hf b).mp z))
    have nO : ¬ O b := fun z => n (.inl ⟨z, nf, o, e⟩)
    obtain ⟨k1, k2⟩ := keep b o e nO
    refine ⟨k1, ?_⟩
    rintro (z | z)
    · exact k2 z.1
    · exact nf ((hf b).mpr z)
  refine ⟨ad, fps, ⟨fun i o e => ?_, w.dj, fun i b hi hb => ?_, fun b hb => ⟨hb.2.2, fun i hi z => hb.2.1 ((hf b).mpr ⟨i, hi, z⟩)⟩⟩, hl, h0, hf⟩
  · exact OR.mono (S := T) (wd := ⟨ad, fps, hidB H O fp⟩) (S' := T) (wd' := ⟨ad, fps, hidB H' O' fp⟩) (Nat.le_refl _) (fun _ _ => rfl) kp (fun b hb => fi i b (lt_of_get e) hb) (w.ob i o e)
  · obtain ⟨u, hu⟩ := w.lv i b hi hb
    exact ⟨u, by rw [fi i b hi hb]; exact hu⟩
def mkBox (T : Store) : Ob := .box T (BoxP T)
section
variable {K : PySem.W.Frag} {cl : Nat → Addr} {wd : Wd} {S : Store} {H : Hp}
/-- fewer hidden -/
theorem WR.hidLess (w : WR K cl wd S H) {hid2 : Addr → Prop} (h : ∀ b, hid2 b → wd.hid b) : WR K cl ⟨wd.ad, wd.fp, hid2⟩ S H := by
  have ol : ∀ b, Own ⟨wd.ad, wd.fp, hid2⟩ S.length b → Own wd S.length b := fun b z => by
    rcases z with z | z
    · exact .inl (h b z)
    · exact .inr z
  exact ⟨fun i o e => OR.mono (S := S) (wd := wd) (S' := S) (wd' := ⟨wd.ad, wd.fp, hid2⟩) (Nat.le_refl _) (fun _ _ => rfl) (fun b o e n => ⟨e, fun z => n (ol b z)⟩) (fun _ _ => rfl) (w.ob i o e), w.dj, w.lv, fun b z => w.hd b (h b z)⟩
theorem WR.live (w : WR K cl wd S H) {b : Addr} (h : Own wd S.length b) : ∃ o, H b = some o := by
  rcases h with h | ⟨i, hi, hb⟩
  · exact (w.hd b h).1
  · exact w.lv i b hi hb
theorem WR.inner (w : WR K cl wd S H) {h : Nat} {T : Store} (e : S[h]? = some (mkBox T)) : ∃ wi : Wd, WR K cl wi T H ∧ 0 < T.length ∧ wi.ad 0 = wd.ad h ∧ (∀ b, wd.fp h b ↔ ∃ i, i < T.length ∧ wi.fp i b) ∧ ∀ b, wi.hid b ↔ Own wd S.length b ∧ ¬ wd.fp h b ∧ ∃ o, H b = some o := by
  obtain ⟨_, ad, fps, w1, hl, h0, hf⟩ := w.ob h _ e
  exact ⟨_, w1, hl, h0, hf, fun b => Iff.rfl⟩
theorem inner_own {h : Nat} {T : Store} {wi : Wd} (hh : h < S.length) (hf : ∀ b, wd.fp h b ↔ ∃ i, i < T.length ∧ wi.fp i b) (hd : ∀ b, wi.hid b ↔ Own wd S.length b ∧ ¬ wd.fp h b ∧ ∃ o, H b = some o) {b : Addr} (z : Own wi T.length b) : Own wd S.length b := by
  rcases z with z | z
  · exact ((hd b).mp z).1
  · exact .inr ⟨h, hh, (hf b).mpr z⟩
theorem WR.outer (w : WR K cl wd S H) {h : Nat} {T T' : Store} {wi wi' : Wd} {H' : Hp} (e : S[h]? = some (mkBox T)) (hl : 0 < T.length) (h0 : wi.ad 0 = wd.ad h) (hf : ∀ b, wd.fp h b ↔ ∃ i, i < T.length ∧ wi.fp i b)
    (hd : ∀ b, wi.hid b ↔ Own wd S.length b ∧ ¬ wd.fp h b ∧ ∃ o, H b = some o) (w' : WR K cl wi' T' H') (xh : ∀ b, wi.hid b → wi'.hid b ∧ H' b = H b) (xk : ∀ b o, H b = some o → ¬ Own wi T.length b → H' b = some o ∧ ¬ Own wi' T'.length b) (xl : 0 < T'.length) (xa : wi'.ad 0 = wi.ad 0) :
    ∃ wd', WR K cl wd' (S.set h (mkBox T')) H' ∧ Ext wd S H wd' (S.set h (mkBox T')) H' ∧ ∀ v d, Rp K H' (Own wi' T'.length) v d → Rp K H' (Own wd' (S.set h (mkBox T')).length) v d := by
  have hh := lt_of_get e
  have nown : ∀ b o, H b = some o → ¬ wd.fp h b → ¬ Own wd S.length b → ¬ Own wi T.length b := fun b o _ _ n z => n (inner_own hh hf hd z)
  have sub : ∀ b, Own (wd.own h fun b => ∃ i, i < T'.length ∧ wi'.fp i b) S.length b → ¬ (∃ i, i < T'.length ∧ wi'.fp i b) → wi'.hid b := fun b z nf => by
    have key : Own wd S.length b ∧ ¬ wd.fp h b := by
      rcases z with z | ⟨i, hi, z⟩
      · exact ⟨.inl z, fun q => (w.hd b z).2 h hh q⟩
      · by_cases ih : i = h
        · subst ih
          simp only [Wd.own, if_pos] at z
          exact absurd z nf
        · simp only [Wd.own, if_neg ih] at z
          exact ⟨.inr ⟨i, hi, z⟩, fun q => ih (w.dj i h b hi hh z q)⟩
    exact (xh b ((hd b).mpr ⟨key.1, key.2, w.live key.1⟩)).1
  obtain ⟨w2, x2⟩ := w.set (o' := mkBox T') (f := fun b => ∃ i, i < T'.length ∧ wi'.fp i b) (H' := H') e (fun u z => by cases z) (fun b nb u hu => by
    by_cases o : Own wd S.length b
    · rw [(xh b ((hd b).mpr ⟨o, nb, u, hu⟩)).2]
      exact hu
    · exact (xk b u hu (nown b u hu nb o)).1) (fun b ⟨i, hi, hb⟩ => ⟨by
    by_cases q : wd.fp h b
    · exact .inl q
    · right
      cases hu : H b with
      | none => rfl
      | some u =>
        by_cases o : Own wd S.length b
        · exact absurd hb ((w'.hd b (xh b ((hd b).mpr ⟨o, q, u, hu⟩)).1).2 i hi)
        · exact absurd (.inr ⟨i, hi, hb⟩) (xk b u hu (nown b u hu q o)).2, w'.lv i b hi hb⟩)
    ⟨boxP_mono T', wi'.ad, wi'.fp, w'.hidLess (fun b z => sub b z.1 z.2.1), xl, xa.trans h0, fun b => Iff.rfl⟩
  refine ⟨_, w2, x2, fun v d r => Rp.mono (fun b o eb n => ⟨eb, fun z => n ?_⟩) d v r⟩
  rw [List.length_set] at z
  by_cases q : ∃ i, i < T'.length ∧ wi'.fp i b
  · exact .inr q
  · exact .inl (sub b z q)
end
/-! a store's objects anew, in another order: those of σ -/
def renV (σ : List Nat) : Val → Option Val
  | .pd d => some (.pd d)
  | .obj i => (σ.findIdx? (· == i)).map .obj
def renKV {κ : Type} (σ : List Nat) (p : κ × Val) : Option (κ × Val) := (renV σ p.2).map fun v => (p.1, v)
def renO (σ : List Nat) : Ob → Option Ob
  | .lst xs => some (.lst xs)
  | .dK xs => some (.dK xs)
  | .dT xs => some (.dT xs)
  | .lsv xs => (xs.mapM (renV σ)).map .lsv
  | .dV xs => (xs.mapM (renKV σ)).map .dV
  | .ins c fs => (fs.mapM (renKV σ)).map (.ins c)
  | .box T P => some (.box T P)
  | _ => none
def selB (σ : List Nat) (T : Store) : Option Store := σ.mapM fun i => (T[i]?).bind (renO σ)
theorem mapM_get {α β : Type} {f : α → Option β} : ∀ {xs : List α} {ys : List β}, xs.mapM f = some ys → xs.length = ys.length ∧ ∀ (i : Nat) (y : β), ys[i]? = some y → ∃ x, xs[i]? = some x ∧ f x = some y
  | [], ys, h => by
    simp at h
    subst h
    exact ⟨rfl, fun i y e => by cases e⟩
  | x :: xs, ys, h => by
    rw [List.mapM_cons] at h
    obtain ⟨y, h1, h⟩ := Option.bind_eq_some_iff.mp h
    obtain ⟨l, h2, h⟩ := Option.bind_eq_some_iff.mp h
    cases h
    obtain ⟨a, b⟩ := mapM_get h2
    refine ⟨by simp [a], fun i z e => ?_⟩
    cases i with
    | zero =>
      cases e
      exact ⟨x, rfl, h1⟩
    | succ i => exact b i z e
section
variable {K : PySem.W.Frag} {cl : Nat → Addr} {wd : Wd} {S : Store} {H : Hp}
def Wd.sel (wd : Wd) (σ : List Nat) : Wd := ⟨fun j => wd.ad (σ.getD j 0), fun j => wd.fp (σ.getD j 0), wd.hid⟩
theorem sel_own {σ : List Nat} {S' : Store} (hs : selB σ S = some S') {b : Addr} (z : Own (wd.sel σ) S'.length b) : Own wd S.length b := by
  rcases z with z | ⟨j, hj, z⟩
  · exact .inl z
  · obtain ⟨hl, hg⟩ := mapM_get hs
    obtain ⟨i, ei, fi⟩ := hg j _ (List.getElem?_eq_getElem hj)
    obtain ⟨o, eo, _⟩ := Option.bind_eq_some_iff.mp fi
    refine .inr ⟨i, lt_of_get eo, ?_⟩
    have : σ.getD j 0 = i := by simp [List.getD, ei]
    have z' : wd.fp (σ.getD j 0) b := z
    rw [this] at z'
    exact z'
theorem WR.sel (w : WR K cl wd S H) {σ : List Nat} {S' : Store} (hn : σ.Nodup) (hs : selB σ S = some S') : WR K cl (wd.sel σ) S' H := by
  obtain ⟨hl, hg⟩ := mapM_get hs
  have ow : ∀ b, ¬ Own wd S.length b → ¬ Own (wd.sel σ) S'.length b := fun b n z => n (sel_own hs z)
  have kR : ∀ v d, Rp K H (Own wd S.length) v d → Rp K H (Own (wd.sel σ) S'.length) v d := fun v d => Rp.mono (fun b o e q => ⟨e, ow b q⟩) d v
  have kRs : ∀ vs ds, RpAll K H (Own wd S.length) vs ds → RpAll K H (Own (wd.sel σ) S'.length) vs ds := fun vs ds => RpAll.mono (fun b o e q => ⟨e, ow b q⟩) ds vs
  have kV : ∀ v d d', renV σ d = some d' → RV K wd S.length H v d → RV K (wd.sel σ) S'.length H v d' := fun v d d' hr r => by
    cases d with
    | pd d => cases hr; exact kR v d r
    | obj i =>
      obtain ⟨j, hj, rfl⟩ := Option.map_eq_some_iff.mp hr
      obtain ⟨a, b, _⟩ := List.findIdx?_eq_some_iff_getElem.mp hj
      have eb : σ[j] = i := by simpa using b
      refine ⟨by rw [← hl]; exact a, ?_⟩
      have : σ.getD j 0 = i := by simp [List.getD, a, eb]
      rw [r.2]
      show V.ref (wd.ad i) = V.ref (wd.ad (σ.getD j 0))
      rw [this]
  have kVs : ∀ vs ds ds', ds.mapM (renV σ) = some ds' → RVs K wd S.length H vs ds → RVs K (wd.sel σ) S'.length H vs ds' := fun vs ds => by
    intro ds' hm r
    induction r generalizing ds' with
    | nil => simp at hm; subst hm; exact .nil
    | cons r _ ih =>
      rw [List.mapM_cons] at hm
      obtain ⟨y, h1, hm⟩ := Option.bind_eq_some_iff.mp hm
      obtain ⟨l, h2, hm⟩ := Option.bind_eq_some_iff.mp hm
      cases hm
      exact .cons (kV _ _ _ h1 r) (ih _ h2)
  have kP : ∀ {κ : Type} (ks : List (κ × V)) (kvs kvs' : List (κ × Val)), kvs.mapM (renKV σ) = some kvs' → PKW (RV K wd S.length H) ks kvs → PKW (RV K (wd.sel σ) S'.length H) ks kvs' := fun ks kvs => by
    intro kvs' hm r
    unfold PKW at r ⊢
    induction r generalizing kvs' with
    | nil => simp at hm; subst hm; exact .nil
    | cons r _ ih =>
      rw [List.mapM_cons] at hm
      obtain ⟨y, h1, hm⟩ := Option.bind_eq_some_iff.mp hm
      obtain ⟨l, h2, hm⟩ := Option.bind_eq_some_iff.mp hm
      cases hm
      obtain ⟨v', h3, rfl⟩ := Option.map_eq_some_iff.mp h1
      exact .cons ⟨r.1, kV _ _ _ h3 r.2⟩ (ih _ h2)
  have at' : ∀ {j : Nat} {o : Ob}, S'[j]? = some o → ∃ u, σ[j]? = some (σ.getD j 0) ∧ S[σ.getD j 0]? = some u ∧ renO σ u = some o := fun {j o} e => by
    obtain ⟨i, ei, fi⟩ := hg j _ e
    obtain ⟨u, eu, fo⟩ := Option.bind_eq_some_iff.mp fi
    have : σ.getD j 0 = i := by simp [List.getD, ei]
    rw [this]
    exact ⟨u, ei, eu, fo⟩
  have lt' : ∀ {j : Nat}, j < S'.length → σ.getD j 0 < S.length := fun {j} hj => by
    obtain ⟨u, _, eu, _⟩ := at' (List.getElem?_eq_getElem hj)
    exact lt_of_get eu
  refine ⟨fun j o e => ?_, fun i j b hi hj h1 h2 => ?_, fun i b hi hb => w.lv _ b (lt' hi) hb, fun b hb => ⟨(w.hd b hb).1, fun i hi => (w.hd b hb).2 _ (lt' hi)⟩⟩
  · obtain ⟨u, _, eu, fo⟩ := at' e
    have r := w.ob _ _ eu
    show OR K cl (wd.sel σ) S'.length H (wd.ad (σ.getD j 0)) (wd.fp (σ.getD j 0)) o
    cases u with
    | lst xs => cases fo; obtain ⟨f, vs, e, q⟩ := r; exact ⟨f, vs, e, kRs _ _ q⟩
    | dK xs => cases fo; obtain ⟨f, vs, e, q⟩ := r; exact ⟨f, vs, e, PKV.mono kR q⟩
    | dT xs => cases fo; obtain ⟨f, vs, e, q⟩ := r; exact ⟨f, vs, e, PKV.mono kR q⟩
    | lsv xs =>
      obtain ⟨ys, h1, rfl⟩ := Option.map_eq_some_iff.mp fo
      obtain ⟨f, vs, e, q⟩ := r
      exact ⟨f, vs, e, kVs _ _ _ h1 q⟩
    | dV xs =>
      obtain ⟨ys, h1, rfl⟩ := Option.map_eq_some_iff.mp fo
      obtain ⟨f, vs, e, q⟩ := r
      exact ⟨f, vs, e, kP _ _ _ h1 q⟩
    | ins c fs =>
      obtain ⟨ys, h1, rfl⟩ := Option.map_eq_some_iff.mp fo
      obtain ⟨dx, f, e1, gs, e2, q⟩ := r
      exact ⟨dx, f, e1, gs, e2, kP _ _ _ h1 q⟩
    | box T P => cases fo; exact ⟨r.1, r.1 _ _ _ _ _ _ _ _ (fun b o e q => ⟨e, ow b q⟩) (fun _ _ => rfl) r.2⟩
    | lock u => cases fo
    | scr xs => cases fo
    | tpv xs => cases fo
    | dead => cases fo
  · have e := w.dj _ _ b (lt' hi) (lt' hj) h1 h2
    have l1 : i < σ.length := by omega
    have l2 : j < σ.length := by omega
    have e2 : σ[i] = σ[j] := by simpa [List.getD, l1, l2] using e
    exact (List.getElem_inj hn).mp e2
end
abbrev Nz : Type := Nat → Store → Option (List Nat)
/-- the objects anew, from the root -/
def nrm (nz : Nz) (r : Nat) (T : Store) : Option Store := match nz r T with
  | some σ => if σ.Nodup ∧ σ[0]? = some r then selB σ T else none
  | none => if r = 0 then some T else none
section
variable {K : PySem.W.Frag} {cl : Nat → Addr} {wi : Wd} {T T' : Store} {H : Hp}
theorem WR.nrm (w : WR K cl wi T H) {nz : Nz} {r : Nat} (hr : r < T.length) (h : DM.nrm nz r T = some T') : ∃ wi' : Wd, WR K cl wi' T' H ∧ wi'.hid = wi.hid ∧ (∀ b, Own wi' T'.length b → Own wi T.length b) ∧ 0 < T'.length ∧ wi'.ad 0 = wi.ad r := by
  unfold DM.nrm at h
  split at h
  · rename_i σ _
    split at h
    · rename_i hc
      have hl := (mapM_get h).1
      have h0 := lt_of_get hc.2
      refine ⟨wi.sel σ, w.sel hc.1 h, rfl, fun b z => sel_own h z, by omega, ?_⟩
      have : σ.getD 0 0 = r := by simp [List.getD, hc.2]
      simp only [Wd.sel, this]
    · cases h
  · split at h
    · rename_i hc
      cases h
      subst hc
      exact ⟨wi, w, rfl, fun b z => z, hr, rfl⟩
    · cases h
end
/-- the data alone -/
def pdO : Option Val → Option Val
  | some (.pd d) => some (.pd d)
  | _ => none
def pdE (ρ : DEnv) : DEnv := ρ.map pdO
open Classical in
/-- a function on what is in a box -/
def inBox (nz : Nz) (f : M Val) (h : Nat) (T : Store) (P : BoxSem) (S : Store) : Option (Val × Store) := if P = BoxP T then match f T with
    | some (.pd d, T') => match nrm nz 0 T' with
      | some T2 => some (.pd d, S.set h (mkBox T2))
      | none => none
    | _ => none
  else none
/-- in the box at a name -/
def eIn (nz : Nz) (i : Nat) (fe : DEnv → M Val) : DEnv → M Val := fun ρ S => match ρ[i]? with
  | some (some (.obj h)) => match S[h]? with
    | some (.box T P) => inBox nz (fun T => fe ((pdE ρ).set i (some (.obj 0))) T) h T P S
    | _ => fe ρ S
  | _ => fe ρ S
/-- a new box -/
def eBox (nz : Nz) (fe : DEnv → M Val) : DEnv → M Val := fun ρ S => match fe (pdE ρ) [] with
  | some (.obj r, T) => match nrm nz r T with
    | some T2 => some (.obj S.length, S ++ [mkBox T2])
    | none => none
  | _ => none
theorem pdE_get {ρ : DEnv} {j : Nat} {d : Val} (h : (pdE ρ)[j]? = some (some d)) : ∃ y, d = .pd y ∧ ρ[j]? = some (some (.pd y)) := by
  unfold pdE at h
  rw [List.getElem?_map] at h
  cases e : ρ[j]? with
  | none => rw [e] at h; cases h
  | some o =>
    rw [e] at h
    cases o with
    | none => cases h
    | some v =>
      cases v with
      | pd y => cases h; exact ⟨y, rfl, rfl⟩
      | obj _ => cases h
section
variable {X : Cx} {cl : Nat → Addr} {e : Expr} {fe : DEnv → M Val}
theorem inBox_ok {K : PySem.W.Frag} {nz : Nz} {f : M Val} {h : Nat} {T : Store} {P : BoxSem} {S S' : Store} {d : Val} {wd : Wd} {H : Hp} (w : WR K cl wd S H) (es : S[h]? = some (.box T P)) (hb : inBox nz f h T P S = some (d, S')) :
    ∃ wi d0 T', WR K cl wi T H ∧ 0 < T.length ∧ wi.ad 0 = wd.ad h ∧ (∀ b, Own wi T.length b → Own wd S.length b) ∧ f T = some (.pd d0, T') ∧
      ∀ wi' v H', WR K cl wi' T' H' → Ext wi T H wi' T' H' → Rp K H' (Own wi' T'.length) v d0 → ∃ wd', WR K cl wd' S' H' ∧ Ext wd S H wd' S' H' ∧ RV K wd' S'.length H' v d := by
  unfold inBox at hb
  split at hb
  · rename_i hp
    subst hp
    obtain ⟨wi, w1, hl, h0, hf, hd⟩ := w.inner es
    split at hb
    · rename_i d0 T' e1
      split at hb
      · rename_i T2 e2
        cases hb
        refine ⟨wi, d0, T', w1, hl, h0, fun b z => inner_own (lt_of_get es) hf hd z, e1, fun wi' v H' w2 x2 r2 => ?_⟩
        obtain ⟨wj, w3, j1, j2, j3, j4⟩ := w2.nrm (Nat.lt_of_lt_of_le hl x2.len) e2
        obtain ⟨wd', w4, x4, kv⟩ := w.outer es hl h0 hf hd w3 (fun b hb => by rw [j1]; exact x2.hid b hb) (fun b o eb n => ⟨(x2.keep b o eb n).1, fun z => (x2.keep b o eb n).2 (j2 b z)⟩) j3 (j4.trans (x2.ad 0 hl))
        exact ⟨wd', w4, x4, kv v d0 (Rp.mono (fun b o eb n => ⟨eb, fun z => n (j2 b z)⟩) _ _ r2)⟩
      · cases hb
    · cases hb
  · cases hb
theorem sim_in {K : PySem.W.Frag} {t : TE} (nz : Nz) (i : Nat) (s : SimE K cl t fe) : SimE K cl t (eIn nz i fe) := fun wd σ ρ S H Q d S' w q h k => by
  unfold eIn at h
  split at h
  · rename_i hh er
    split at h
    · rename_i T P es
      obtain ⟨v, hv, hr⟩ := q.at' i _ er
      obtain ⟨hi, rfl⟩ := hr
      obtain ⟨wi, d0, T', w1, hl, h0, ho, e1, kk⟩ := inBox_ok w es h
      refine s wi σ _ T H Q (.pd d0) T' w1 ⟨by simp [pdE, q.len], fun j d ej => ?_⟩ e1 fun wi' v1 H1 w2 x2 r2 => ?_
      · by_cases ij : i = j
        · subst ij
          have hlt : i < (pdE ρ).length := by
            have := lt_of_get er
            simpa [pdE] using this
          rw [List.getElem?_set_self hlt] at ej
          cases ej
          exact ⟨_, hv, hl, by rw [h0]⟩
        · rw [List.getElem?_set_ne ij] at ej
          obtain ⟨y, rfl, ey⟩ := pdE_get ej
          obtain ⟨u, hu, ru⟩ := q.at' j _ ey
          exact ⟨u, hu, Rp.mono (fun b o eb n => ⟨eb, fun z => n (ho b z)⟩) y u ru⟩
      · obtain ⟨wd', w3, x3, r3⟩ := kk wi' v1 H1 w2 x2 r2
        exact k wd' v1 H1 w3 x3 r3
    · exact s wd σ ρ S H Q d S' w q h k
  · exact s wd σ ρ S H Q d S' w q h k
theorem de_in (nz : Nz) (i : Nat) (he : DE X cl e fe) : DE X cl e (eIn nz i fe) := by
  obtain ⟨t, p, s⟩ := he
  exact ⟨t, p, sim_in nz i s⟩
theorem sim_box {K : PySem.W.Frag} {t : TE} (nz : Nz) (s : SimE K cl t fe) : SimE K cl t (eBox nz fe) := fun wd σ ρ S H Q d S' w q h k => by
  unfold eBox at h
  split at h
  · rename_i r T e1
    split at h
    · rename_i T2 hT
      cases h
      have w0 : WR K cl ⟨fun _ => 0, fun _ _ => False, Own wd S.length⟩ [] H := ⟨fun i o e => (by cases e), fun i j b hi _ _ _ => absurd hi (by simp), fun i b hi _ => absurd hi (by simp), fun b hb => ⟨w.live hb, fun i hi => absurd hi (by simp)⟩⟩
      have own0 : ∀ b, Own ⟨fun _ => 0, fun _ _ => False, Own wd S.length⟩ ([] : Store).length b ↔ Own wd S.length b := fun b => ⟨fun z => by
        rcases z with z | ⟨i, hi, z⟩
        · exact z
        · exact z.elim, fun z => .inl z⟩
      refine s _ σ _ [] H Q (.obj r) T w0 ⟨by simp [pdE, q.len], fun j d ej => ?_⟩ e1 fun wi0 v1 H1 w1 x1 r1 => ?_
      · obtain ⟨y, rfl, ey⟩ := pdE_get ej
        obtain ⟨u, hu, ru⟩ := q.at' j _ ey
        exact ⟨u, hu, Rp.mono (fun b o eb n => ⟨eb, fun z => n ((own0 b).mp z)⟩) y u ru⟩
      · obtain ⟨hr, rfl⟩ := r1
        obtain ⟨wi, w1', j1, j2, hT2, j4⟩ := w1.nrm hr hT
        have hk : ∀ b u, H b = some u → H1 b = some u := fun b u hu => by
          by_cases o : Own wd S.length b
          · rw [(x1.hid b o).2]; exact hu
          · exact (x1.keep b u hu fun z => o ((own0 b).mp z)).1
        have sub : ∀ b, Own (wd.push S.length (wi0.ad r) fun b => ∃ i, i < T2.length ∧ wi.fp i b) (S.length + 1) b → ¬ (∃ i, i < T2.length ∧ wi.fp i b) → wi.hid b := fun b z nf => by
          rcases push_own.mp z with z | z
          · rw [j1]
            exact (x1.hid b z).1
          · exact absurd z nf
        obtain ⟨w2, x2⟩ := w.push (o := mkBox T2) (p := wi0.ad r) (f := fun b => ∃ i, i < T2.length ∧ wi.fp i b) hk (fun b ⟨i, hi, hb⟩ => ⟨by
          cases hu : H b with
          | none => rfl
          | some u =>
            by_cases o : Own wd S.length b
            · exact absurd hb ((w1'.hd b (by rw [j1]; exact (x1.hid b o).1)).2 i hi)
            · exact absurd (j2 b (.inr ⟨i, hi, hb⟩)) (x1.keep b u hu fun z => o ((own0 b).mp z)).2, w1'.lv i b hi hb⟩)
          ⟨boxP_mono T2, wi.ad, wi.fp, w1'.hidLess (fun b z => sub b z.1 z.2.1), hT2, j4, fun b => Iff.rfl⟩
        exact k _ _ H1 w2 x2 ⟨by simp, by simp [Wd.push]⟩
    · cases h
  · cases h
theorem de_box (nz : Nz) (he : DE X cl e fe) : DE X cl e (eBox nz fe) := by
  obtain ⟨t, p, s⟩ := he
  exact ⟨t, p, sim_box nz s⟩
end
def headIs (c : Nat) (m : Str) (T : Store) : Bool := match (T[0]? : Option Ob) with
  | some (.ins c' fs) => c' == c && (fs.lookup m).isNone
  | _ => false
open Classical in
/-- a method of an instance, or of one in a box -/
def eMethB (nz : Nz) (c : Nat) (m : Str) (F : List Val → M Val) (n : Nat) (fo : DEnv → M Val) (fa : DEnv → M (List Val)) : DEnv → M Val := fun ρ S => bindR (fo ρ S) fun o S1 => match o with
  | .obj h => match S1[h]? with
    | some (.box T1 P1) => if P1 = BoxP T1 ∧ headIs c m T1 = true then bindR (fa ρ S1) fun ds S2 => match S2[h]?, allPd ds with
      | some (.box T P), some ys => if ds.length + 1 = n then inBox nz (fun T => F (.obj 0 :: ys.map Val.pd) T) h T P S2 else none
      | _, _ => none
      else none
    | some (.ins c' fs) => if c' = c ∧ fs.lookup m = none then bindR (fa ρ S1) fun ds S2 => if ds.length + 1 = n then F (.obj h :: ds) S2 else none else none
    | _ => none
  | _ => none
section
variable {X : Cx} {cl : Nat → Addr} {o e : Expr} {es : List Expr} {m : Str} {fo : DEnv → M Val} {fa : DEnv → M (List Val)} {F : List Val → M Val} {n k : Nat} {apos pos : Pos}
theorem RVs.pdsB {K : PySem.W.Frag} {wd wi : Wd} {n n' : Nat} {H : Hp} (ho : ∀ b, Own wi n' b → Own wd n b) : ∀ {vs : List V} {ys : List PyData}, RVs K wd n H vs (ys.map Val.pd) → RVs K wi n' H vs (ys.map Val.pd)
  | _, [], .nil => .nil
  | _, y :: _, .cons r t => .cons (Rp.mono (fun b o e q => ⟨e, fun z => q (ho b z)⟩) y _ r) (RVs.pdsB ho t)
theorem sim_methB {sp : Sp} {to : TE} {t : TA} {E : XK} {np c : Nat} (nz : Nz) (hs : sp = spOf X.K cl np F) (ho : SimE X.K cl to fo) (ha : SimA X.K cl t fa) : SimE X.K cl (tMeth (cl c) m sp [] E to t) (eMethB nz c m F np fo fa) := fun wd σ ρ S H Q d S' w q g kk => by
  subst hs
  obtain ⟨x, S1, h1, g2⟩ := bindR_inv g
  clear g
  cases x with
  | pd _ => cases g2
  | obj i =>
    refine ho wd σ ρ S H _ _ S1 w q h1 fun wd1 v H1 w1 x1 r1 => ?_
    obtain ⟨hi, rfl⟩ := r1
    cases es : S1[i]? with
    | none =>
      simp only [es] at g2
      cases g2
    | some ob =>
      cases ob with
      | box T1 P1 =>
        simp only [es] at g2
        split at g2
        · rename_i hc
          obtain ⟨rfl, hhd⟩ := hc
          obtain ⟨ds, S2, h2, g2⟩ := bindR_inv g2
          obtain ⟨wi1, wt1, hl1, h01, _, _⟩ := w1.inner es
          unfold headIs at hhd
          split at hhd
          · rename_i c' fs et
            obtain ⟨hc, hm⟩ := Bool.and_eq_true_iff.mp hhd
            have hc := eq_of_beq hc
            subst hc
            obtain ⟨dx, f, e1, gs, e2, pk⟩ := wt1.ob 0 _ et
            rw [h01] at e2
            refine ⟨_, dx, gs, rfl, e2, ?_, ?_⟩
            · rcases PKW.lookup (f := m) pk with ⟨z, _⟩ | ⟨_, _, _, z, _⟩
              · exact z
              · rw [z] at hm; cases hm
            · refine ha wd1 σ ρ S1 H1 _ ds S2 w1 (q.ext x1) h2 fun wd2 vs H2 w2 x2 r2 => ?_
              rw [List.append_nil]
              split at g2
              · rename_i T P ys et2 ep
                split at g2
                · rename_i hl
                  have ed := allPd_eq ep
                  subst ed
                  obtain ⟨wi, d0, T', wt, hlt, h0, hown, ef, kx⟩ := inBox_ok w2 et2 g2
                  refine ⟨wi, T, .obj 0 :: ys.map Val.pd, .pd d0, T', wt, .cons ⟨hlt, by rw [h0, x2.ad i hi]⟩ (RVs.pdsB hown r2), by simpa using hl, ef, fun wi' v' H' w3 x3 r3 => ?_⟩
                  obtain ⟨wd', w4, x4, r4⟩ := kx wi' v' H' w3 x3 r3
                  exact kk wd' v' H' w4 ((x1.trans x2).trans x4) r4
                · cases g2
              · cases g2
          · cases hhd
        · cases g2
      | ins c' fs =>
        simp only [es] at g2
        split at g2
        · rename_i hc
          obtain ⟨rfl, hfs⟩ := hc
          obtain ⟨ds, S2, h2, g2⟩ := bindR_inv g2
          by_cases hl : ds.length + 1 = np
          · rw [if_pos hl] at g2
            obtain ⟨dx, f, e1, gs, e2, pk⟩ := w1.ob i _ es
            refine ⟨_, dx, gs, rfl, e2, ?_, ?_⟩
            · rcases PKW.lookup (f := m) pk with ⟨z, _⟩ | ⟨_, _, _, z, _⟩
              · exact z
              · rw [hfs] at z; cases z
            · refine ha wd1 σ ρ S1 H1 _ ds S2 w1 (q.ext x1) h2 fun wd2 vs H2 w2 x2 r2 => ?_
              rw [List.append_nil]
              exact ⟨wd2, S2, .obj i :: ds, d, S', w2, .cons (RV.ext x2 (d := .obj i) ⟨hi, rfl⟩) r2, by simpa using hl, g2, fun wd3 v H3 w3 x3 r3 => kk wd3 v H3 w3 ((x1.trans x2).trans x3) r3⟩
          · rw [if_neg hl] at g2
            cases g2
        · cases g2
      | _ =>
        simp only [es] at g2
        cases g2
theorem de_methB {j c : Nat} {pl : Sem Bool} (nz : Nz) (cm : MetD X.prog X.w X.K X.mg X.base cl k c m n F) (hr : Room j X.A) (hk : k ≤ j) (ho : DE X cl o fo) (ha : DA X cl (e :: es) fa)
    (hst : starEach (e :: es) X.env = (false, eval e X.env) :: starEach es X.env := by rfl) (hpl : (backTo pos (starEach es X.env)).any (·.1) = false := by rfl)
    (ht : eval (.Call (.Attribute o m apos) (e :: es) [] pos) X.env = (do
      let ov ← eval o X.env
      standAt apos.atName
      let (f, first) ← holding [ov] (getMethod ov m pl)
      callWith pos f first (backTo pos (starEach (e :: es) X.env)) (backToKw pos (keywordEach [] X.env))) := by rfl) : DE X cl (.Call (.Attribute o m apos) (e :: es) [] pos) (eMethB nz c m F n fo fa) := by
  obtain ⟨f, fd, ps, hn, Fo, hc, hm, hb⟩ := cm
  obtain ⟨t, pa, sa⟩ := ha
  obtain ⟨t', po, so⟩ := ho
  subst hn
  exact ⟨_, pe_meth (pl := pl) po hc hm Fo (hr.mono hk) hb .nil pass0 pa hst hpl ht, sim_methB nz rfl so sa⟩
theorem de_methB0 {j c : Nat} {pl : Sem Bool} (nz : Nz) (cm : MetD X.prog X.w X.K X.mg X.base cl k c m n F) (hr : Room j X.A) (hk : k ≤ j) (ho : DE X cl o fo)
    (ht : eval (.Call (.Attribute o m apos) [] [] pos) X.env = (do
      let ov ← eval o X.env
      standAt apos.atName
      let (f, first) ← holding [ov] (getMethod ov m pl)
      callWith pos f first (backTo pos (starEach [] X.env)) (backToKw pos (keywordEach [] X.env))) := by rfl) : DE X cl (.Call (.Attribute o m apos) [] [] pos) (eMethB nz c m F n fo aNil) := by
  obtain ⟨f, fd, ps, hn, Fo, hc, hm, hb⟩ := cm
  obtain ⟨t', po, so⟩ := ho
  subst hn
  exact ⟨_, pe_meth0 (pl := pl) po hc hm Fo (hr.mono hk) hb .nil pass0 ht, sim_methB nz rfl so sim_nil⟩
end
/-- no other order -/
def nz0 : Nz := fun _ _ => none
def hdls (xs : List Val) : Option (List Nat) := xs.mapM fun v => match v with
  | .obj i => some i
  | _ => none
/-- a shelf: itself, its list, its rows -/
def nzS : Nz := fun r T => match (T[r]? : Option Ob) with
  | some (.ins _ fs) => match fs.lookup ("rows" : Str) with
    | some (.obj l) => match (T[l]? : Option Ob) with
      | some (.lsv hs) => (hdls hs).map fun is => r :: l :: is
      | _ => none
    | _ => none
  | _ => none
/-- a table: itself, its shelves, its spots -/
def nzT : Nz := fun r T => match (T[r]? : Option Ob) with
  | some (.ins _ fs) => match fs.lookup ("newer" : Str), fs.lookup ("elder" : Str), fs.lookup ("spots" : Str) with
    | some (.obj n), some (.obj e), some (.obj s) => some [r, n, e, s]
    | some (.obj n), some (.pd _), some (.obj s) => some [r, n, s]
    | _, _, _ => none
  | _ => none
section
variable {X : Cx} {cl : Nat → Addr} {elt tg iter : Expr} {ifs : List Expr} {scope : Scope} {own : List (Str × Nat)} {pos : Pos} {fi : DEnv → M Iter} {gg : Val → DEnv → M DEnv} {ft : DEnv → M Bool} {fe : DEnv → M Val} {t : TG}
theorem ds_setLcVB (nz : Nz) {i : Nat} {y : Str} {py spos : Pos} (hc : X.calm = true) (hN : X.N.Nodup) (hy : X.N[i]? = some y) (hyl : X.env.scope.names.lookup y = some .local)
    (hsw : swapsWith (.ListComp elt [⟨tg, iter, ifs, 0⟩] scope pos) (some (.Name y py)) spos.line X.env = pure true) (hi : DI X cl tg iter fi) (ok : BlkOk X.N X.env.scope scope own)
    (hg : ∀ (s : Shared) (H : Hp) (C : Addr) (c : List (Str × Addr)) (fp : List Addr), DC (X.blk s H scope (compEnvC scope c C X.env) fp) cl tg (own.map (·.2)) t gg) (ht : ∀ (s : Shared) (H : Hp) (C : Addr) (c : List (Str × Addr)) (fp : List Addr), DTs (X.blk s H scope (compEnvC scope c C X.env) fp) cl ifs ft)
    (he : ∀ (s : Shared) (H : Hp) (C : Addr) (c : List (Str × Addr)) (fp : List Addr), DE (X.blk s H scope (compEnvC scope c C X.env) fp) cl elt fe)
    (hk : ∀ ρ S it S', fi ρ S = some (it, S') → ∀ h o, it.lk = some (h, o) → (∃ xs, o = Ob.lst xs) ∨ ∃ xs, o = Ob.lsv xs) (hs : ∀ x, foldedSetIterable iter X.env x = pure x := by intro _; rfl) :
    DS X cl (.Assign [.Name y py] (.ListComp elt [⟨tg, iter, ifs, 0⟩] scope pos) spos) (gAsg (eBox nz (eLcV fi gg ft fe (own.map (·.2)))) (nName i)) := by
  obtain ⟨ti, pi, si⟩ := hi
  have sg := (hg X.s_0 X.H_0 0 [] []).2
  refine ⟨_, ps_setLc (tt := canT X.K cl ft) (te := canE X.K cl fe) hc hN hy hyl hsw pi ok (fun s H C c fp => (hg s H C c fp).1) (fun s H C c fp => ht s H C c fp) (fun s H C c fp => (he s H C c fp).can) hs, fun wd σ ρ S H D fl S' w q h k => ?_⟩
  obtain ⟨x, S1, h1, h⟩ := bindR_inv h
  obtain ⟨y, S2, h2, h⟩ := bindR_inv h
  cases h2
  cases h
  exact (sim_box nz (sim_lcM (V0 := true) si sg simT_can simE_can hk)) wd σ ρ S H _ x _ w q h1 fun wd1 v1 H1 w1 x1 r1 => k wd1 _ H1 w1 x1 ((q.ext x1).set i r1)
end
end
end DM
set_option Elab.async false
set_option linter.all false
set_option maxRecDepth 100000
set_option maxHeartbeats 4000000
/-! DMLib2: equations for attributes, dicts, boxes -/
namespace DM
open PySem L2 PyProof.Rows
noncomputable section
section
variable {ρ : DEnv} {S S1 : Store} {h c : Nat} {f m : Str} {fs : List (Str × Val)} {v d : Val}
@[simp] theorem gSetF_e {fo fe : DEnv → M Val} : gSetF c f fo fe ρ S = bindR (fe ρ S) fun d S1 => bindR (fo ρ S1) fun o S2 => bindR (uSetF c f o d S2) fun _ S3 => some (.nx ρ, S3) := rfl
@[simp] theorem gAugF_e {u : Val → Val → M Val} {fo fe : DEnv → M Val} : gAugF c f u fo fe ρ S = bindR (fo ρ S) fun o S1 => bindR (uFld c f o S1) fun a S2 => bindR (fe ρ S2) fun b S3 => bindR (u a b S3) fun z S4 => bindR (uSetF c f o z S4) fun _ S5 => some (.nx ρ, S5) := rfl
@[simp] theorem gDPut_e {fv fo fi : DEnv → M Val} : gDPut fv fo fi ρ S = bindR (fv ρ S) fun v S1 => bindR (fo ρ S1) fun x S2 => bindR (fi ρ S2) fun d S3 => bindR (uDPut v x d S3) fun _ S4 => some (.nx ρ, S4) := rfl
@[simp] theorem eGet1_e {fo fe : DEnv → M Val} : eGet1 fo fe ρ S = bindR (fo ρ S) fun x S1 => bindR (fe ρ S1) fun d S2 => uGet1 x S1 d S2 := rfl
@[simp] theorem ePop1_e {fo fe : DEnv → M Val} : ePop1 fo fe ρ S = bindR (fo ρ S) fun x S1 => bindR (fe ρ S1) fun d S2 => uPop1 x S1 d S2 := rfl
@[simp] theorem uAddI_e {i j : Int} : uAddI (.pd (.int i)) (.pd (.int j)) S = some (.pd (.int (i + j)), S) := rfl
@[simp] theorem eDict0_e : eDict0 ρ S = some (.obj S.length, S ++ [.dK []]) := rfl
@[simp] theorem eDictT_e : eDictT ρ S = some (.obj S.length, S ++ [.dT []]) := rfl
@[simp] theorem uInC_e {neg : Bool} {ns : List Int} {i : Int} : uInC neg ns (.pd (.int i)) S = some (.pd (.bool (if neg then !decide (i ∈ ns) else decide (i ∈ ns))), S) := rfl
@[simp] theorem iZip_e {fa fb : DEnv → M Val} : iZip fa fb ρ S = bindR (fa ρ S) fun a S1 => bindR (fb ρ S1) fun b S2 => zipI a b S2 := rfl
@[simp] theorem zipI_list {xs ys : List PyData} : zipI (.pd (.list xs)) (.pd (.list ys)) S = some (⟨zipD xs ys, none⟩, S) := rfl
@[simp] theorem zipI_tup {xs ys : List PyData} : zipI (.pd (.tuple xs)) (.pd (.tuple ys)) S = some (⟨zipD xs ys, none⟩, S) := rfl
theorem uFld_get (e : S[h]? = some (.ins c fs)) (l : fs.lookup f = some v) : uFld c f (.obj h) S = some (v, S) := by
  simp [uFld, e, l]
theorem uSetF_get (e : S[h]? = some (.ins c fs)) (l : fs.length < 1000) : uSetF c f (.obj h) d S = some ((), S.set h (.ins c (putD f d fs))) := by
  simp [uSetF, e, l]
theorem meth_ins {nz : Nz} {F : List Val → M Val} {n : Nat} {fo : DEnv → M Val} {fa : DEnv → M (List Val)} (eo : fo ρ S = some (.obj h, S1)) (e : S1[h]? = some (.ins c fs)) (l : fs.lookup m = none) :
    eMethB nz c m F n fo fa ρ S = bindR (fa ρ S1) fun ds S2 => if ds.length + 1 = n then F (.obj h :: ds) S2 else none := by
  unfold eMethB
  simp [eo, e, l]
theorem meth_box {nz : Nz} {F : List Val → M Val} {n : Nat} {fo : DEnv → M Val} {fa : DEnv → M (List Val)} {T T' T2 : Store} {S2 : Store} {ys : List PyData} {d : PyData} (eo : fo ρ S = some (.obj h, S1)) (e : S1[h]? = some (mkBox T)) (hd : headIs c m T = true) (ea : fa ρ S1 = some (ys.map Val.pd, S2)) (e2 : S2[h]? = some (mkBox T)) (hn : ys.length + 1 = n)
    (hF : F (.obj 0 :: ys.map Val.pd) T = some (.pd d, T')) (hz : nrm nz 0 T' = some T2) : eMethB nz c m F n fo fa ρ S = some (.pd d, S2.set h (mkBox T2)) := by
  have ap : ∀ ys : List PyData, allPd (ys.map Val.pd) = some ys := fun ys => by
    induction ys with
    | nil => rfl
    | cons y r ih => simp [ih]
  unfold mkBox at e e2
  unfold eMethB
  rw [eo]
  simp only [bindR_some, e, hd, and_self, if_true, ea, e2, ap, List.length_map, hn]
  unfold inBox
  simp only [if_true, hF, hz]
theorem nrm_nz0 {T : Store} : nrm nz0 0 T = some T := rfl
theorem in_box {nz : Nz} {i : Nat} {fe : DEnv → M Val} {T T' T2 : Store} {d : PyData} (er : ρ[i]? = some (some (.obj h))) (e : S[h]? = some (mkBox T)) (hF : fe ((pdE ρ).set i (some (.obj 0))) T = some (.pd d, T')) (hz : nrm nz 0 T' = some T2) : eIn nz i fe ρ S = some (.pd d, S.set h (mkBox T2)) := by
  unfold mkBox at e
  unfold eIn
  simp only [er, e]
  unfold inBox
  simp only [if_true, hF, hz]
theorem box_new {nz : Nz} {fe : DEnv → M Val} {r : Nat} {T T2 : Store} (hF : fe (pdE ρ) [] = some (.obj r, T)) (hz : nrm nz r T = some T2) : eBox nz fe ρ S = some (.obj S.length, S ++ [mkBox T2]) := by
  unfold eBox
  simp only [hF, hz]
/-! dicts with whole numbers as keys -/
variable {kvs : List (Key × PyData)} {k : Int}
theorem dOf_K (e : S[h]? = some (.dK kvs)) : dOf (.obj h) S = some (h, .dK kvs) := by simp [dOf, e]
theorem uGet1_K {S0 : Store} {kvs0 : List (Key × PyData)} (e0 : S0[h]? = some (.dK kvs0)) (e : S[h]? = some (.dK kvs)) : uGet1 (.obj h) S0 (.pd (.int k)) S = some (((valD kvs (Sum.inl k)).map Val.pd).getD (.pd .none), S) := by
  unfold uGet1
  rw [dOf_K e0, dOf_K e]
  rfl
theorem uDIn_K (e : S[h]? = some (.dK kvs)) : uDIn (.pd (.int k)) (.obj h) S = some (.pd (.bool (valD kvs (Sum.inl k)).isSome), S) := by
  unfold uDIn
  rw [dOf_K e]
  show some (Val.pd (.bool ((valD kvs (Sum.inl k)).map Val.pd).isSome), S) = _
  rw [Option.isSome_map]
theorem uDNotIn_K (e : S[h]? = some (.dK kvs)) : uDNotIn (.pd (.int k)) (.obj h) S = some (.pd (.bool (!(valD kvs (Sum.inl k)).isSome)), S) := by
  unfold uDNotIn
  rw [dOf_K e]
  show some (Val.pd (.bool (!((valD kvs (Sum.inl k)).map Val.pd).isSome)), S) = _
  rw [Option.isSome_map]
theorem uDPut_K {y : PyData} (e : S[h]? = some (.dK kvs)) (hl : kvs.length < 16777216) : uDPut (.pd y) (.obj h) (.pd (.int k)) S = some ((), S.set h (.dK (putKD kvs (Sum.inl k) y))) := by
  unfold uDPut
  rw [dOf_K e]
  simp [dPut, hl, toKey]
theorem uPop1_K {S0 : Store} {kvs0 : List (Key × PyData)} {y : PyData} (e0 : S0[h]? = some (.dK kvs0)) (e : S[h]? = some (.dK kvs)) (hv : valD kvs (Sum.inl k) = some y) : uPop1 (.obj h) S0 (.pd (.int k)) S = some (.pd y, S.set h (.dK (dropKD kvs (Sum.inl k)))) := by
  unfold uPop1
  rw [dOf_K e0, dOf_K e]
  simp [dDrop, toKey, hv]
theorem uItems_K (e : S[h]? = some (.dK kvs)) : uItems (.obj h) S = some (.pd (.list (kvs.map itemD)), S) := by simp [uItems, e]
end
end
end DM
set_option Elab.async false
set_option linter.all false
set_option maxRecDepth 100000
set_option maxHeartbeats 4000000
/-! DMBox2: an instance made in a box of its own -/
namespace DM
open PySem L2 PyProof.Rows
noncomputable section
section
variable {K : PySem.W.Frag} {cl : Nat → Addr} {wd : Wd} {S : Store} {H H1 : Hp}
def wd0 (wd : Wd) (S : Store) : Wd := ⟨fun _ => 0, fun _ _ => False, Own wd S.length⟩
theorem WR.empty (w : WR K cl wd S H) : WR K cl (wd0 wd S) [] H := ⟨fun i o e => (by cases e), fun i j b hi _ _ _ => absurd hi (by simp), fun i b hi _ => absurd hi (by simp), fun b hb => ⟨w.live hb, fun i hi => absurd hi (by simp)⟩⟩
theorem own_wd0 {b : Addr} : Own (wd0 wd S) ([] : Store).length b ↔ Own wd S.length b := ⟨fun z => by
  rcases z with z | ⟨i, hi, z⟩
  · exact z
  · exact z.elim, fun z => .inl z⟩
theorem WR.close (w : WR K cl wd S H) {wi0 : Wd} {T T2 : Store} {nz : Nz} {r : Nat} (w1 : WR K cl wi0 T H1) (x1 : Ext (wd0 wd S) [] H wi0 T H1) (hr : r < T.length) (hT : DM.nrm nz r T = some T2) :
    ∃ wd', WR K cl wd' (S ++ [mkBox T2]) H1 ∧ Ext wd S H wd' (S ++ [mkBox T2]) H1 ∧ wd'.ad S.length = wi0.ad r := by
  obtain ⟨wi, w1', j1, j2, hT2, j4⟩ := w1.nrm hr hT
  have hk : ∀ b u, H b = some u → H1 b = some u := fun b u hu => by
    by_cases o : Own wd S.length b
    · rw [(x1.hid b o).2]; exact hu
    · exact (x1.keep b u hu fun z => o (own_wd0.mp z)).1
  have sub : ∀ b, Own (wd.push S.length (wi0.ad r) fun b => ∃ i, i < T2.length ∧ wi.fp i b) (S.length + 1) b → ¬ (∃ i, i < T2.length ∧ wi.fp i b) → wi.hid b := fun b z nf => by
    rcases push_own.mp z with z | z
    · rw [j1]
      exact (x1.hid b z).1
    · exact absurd z nf
  obtain ⟨w2, x2⟩ := w.push (o := mkBox T2) (p := wi0.ad r) (f := fun b => ∃ i, i < T2.length ∧ wi.fp i b) hk (fun b ⟨i, hi, hb⟩ => ⟨by
    cases hu : H b with
    | none => rfl
    | some u =>
      by_cases o : Own wd S.length b
      · exact absurd hb ((w1'.hd b (by rw [j1]; exact (x1.hid b o).1)).2 i hi)
      · exact absurd (j2 b (.inr ⟨i, hi, hb⟩)) (x1.keep b u hu fun z => o (own_wd0.mp z)).2, w1'.lv i b hi hb⟩)
    ⟨boxP_mono T2, wi.ad, wi.fp, w1'.hidLess (fun b z => sub b z.1 z.2.1), hT2, j4, fun b => Iff.rfl⟩
  exact ⟨_, w2, x2, by simp [Wd.push]⟩
end
/-- T(e, ..), in a box of its own -/
def eMakeB (nz : Nz) (c : Nat) (F : List Val → M Val) (n : Nat) (fa : DEnv → M (List Val)) : DEnv → M Val := fun ρ S => bindR (fa ρ S) fun ds S1 => match allPd ds with
  | some ys => if ys.length + 1 = n then match F (.obj 0 :: ys.map Val.pd) [.ins c []] with
    | some (.pd .none, T) => match nrm nz 0 T with
      | some T2 => some (.obj S1.length, S1 ++ [mkBox T2])
      | none => none
    | _ => none
    else none
  | none => none
section
variable {X : Cx} {cl : Nat → Addr} {pos p : Pos} {k n : Nat} {x : Str} {e : Expr} {es : List Expr} {F : List Val → M Val} {fa : DEnv → M (List Val)}
theorem sim_makeB {sp : Sp} {t : TA} {E : XK} {np c : Nat} (nz : Nz) (hs : sp = spOf X.K cl np F) (ha : SimA X.K cl t fa) : SimE X.K cl (tMake (cl c) sp [] E t) (eMakeB nz c F np fa) := fun wd σ ρ S H Q d S' w q h kk => by
  subst hs
  obtain ⟨ds, S1, h1, hz⟩ := bindR_inv h
  clear h
  split at hz
  · rename_i ys ey
    split at hz
    · rename_i hl
      split at hz
      · rename_i T ef
        split at hz
        · rename_i T2 eT
          cases hz
          have ed := allPd_eq ey
          subst ed
          refine ha wd σ ρ S H _ _ S1 w q h1 fun wd1 vs H1 w1 x1 r1 => ?_
          intro a dx hx hdx ne
          rw [List.append_nil]
          have hk1 : ∀ b u, H1 b = some u → (upd (upd H1 dx (.own a)) a (.ins (cl c) dx [])) b = some u := fun b u e => by
            rw [upd_ne (ne_of_none e hx), upd_ne (ne_of_none e hdx)]; exact e
          have hdx1 : (upd (upd H1 dx (.own a)) a (.ins (cl c) dx [])) dx = some (.own a) := by rw [upd_ne ne, upd_same]
          obtain ⟨w2, x2⟩ := w1.empty.push (o := .ins c []) (p := a) (f := fun b => b = a ∨ b = dx) hk1 (fun b hb => by
            rcases hb with rfl | rfl
            · exact ⟨hx, _, upd_same⟩
            · exact ⟨hdx, _, hdx1⟩) ⟨dx, fun b => Iff.rfl, hdx1, [], upd_same, .nil⟩
          have r0 : RVs X.K (wd0 wd1 S1) ([] : Store).length H1 vs (ys.map Val.pd) := RVs.pdsB (fun b z => own_wd0.mp z) r1
          refine ⟨_, [.ins c []], .obj 0 :: ys.map Val.pd, .pd .none, T, w2, .cons ⟨by simp, by simp [Wd.push]⟩ (r0.ext x2), by simpa using hl, ef, fun wd3 v H3 w3 x3 r3 => ⟨r3.none_inv, ?_⟩⟩
          obtain ⟨wd4, w4, x4, ad4⟩ := w1.close w3 (x2.trans x3) (Nat.lt_of_lt_of_le (by simp) x3.len) eT
          refine kk wd4 _ H3 w4 (x1.trans x4) ⟨by simp, ?_⟩
          rw [ad4, x3.ad 0 (by simp)]
          simp [Wd.push]
        · cases hz
      · cases hz
    · cases hz
  · cases hz
theorem de_makeB {j c : Nat} (nz : Nz) (cm : MakD X.prog X.w X.K X.mg X.base cl k c x n F) (hr : Room j X.A) (hk : k + 1 ≤ j) (hg : Gl X x) (ha : DA X cl (e :: es) fa) (hdb : (x == ("__debug__" : Str)) = false := by decide)
    (he : starEach (e :: es) X.env = (false, eval e X.env) :: starEach es X.env := by rfl) (hpl : (backTo pos (starEach es X.env)).any (·.1) = false := by rfl) : DE X cl (.Call (.Name x p) (e :: es) [] pos) (eMakeB nz c F n fa) := by
  obtain ⟨f, fd, ps, hn, Fo, hmk, hm, hb⟩ := cm
  obtain ⟨t, pa, sa⟩ := ha
  subst hn
  exact ⟨_, pe_make hmk Fo (hr.mono hk) hg hm hb .nil pass0 pa hdb he hpl, sim_makeB nz rfl sa⟩
theorem makeB_eq {nz : Nz} {c n : Nat} {ρ : DEnv} {S S1 T T2 : Store} {ys : List PyData} (ea : fa ρ S = some (ys.map Val.pd, S1)) (hn : ys.length + 1 = n) (hF : F (.obj 0 :: ys.map Val.pd) [.ins c []] = some (.pd .none, T)) (hz : nrm nz 0 T = some T2) : eMakeB nz c F n fa ρ S = some (.obj S1.length, S1 ++ [mkBox T2]) := by
  have ap : ∀ ys : List PyData, allPd (ys.map Val.pd) = some ys := fun ys => by
    induction ys with
    | nil => rfl
    | cons y r ih => simp [ih]
  unfold eMakeB
  rw [ea]
  simp only [bindR_some, ap, hn, if_true, hF, hz]
end
end
end DM
set_option Elab.async false
set_option linter.all false
set_option maxRecDepth 100000
set_option maxHeartbeats 4000000
/-! DMWp: what a run comes to, step by step -/
namespace DM
open PySem L2 PyProof.Rows
noncomputable section
def Ok {α : Type} (r : Option (α × Store)) (Q : α → Store → Prop) : Prop := ∃ a S, r = some (a, S) ∧ Q a S
section
variable {α β γ : Type} {a : α} {S : Store} {Q : α → Store → Prop} {r : Option (α × Store)} {k : α → M β} {P : β → Store → Prop}
@[simp] theorem ok_some : Ok (some (a, S)) Q ↔ Q a S := ⟨fun ⟨_, _, e, q⟩ => by cases e; exact q, fun q => ⟨a, S, rfl, q⟩⟩
@[simp] theorem ok_none : Ok (none : Option (α × Store)) Q ↔ False := ⟨fun h => (by obtain ⟨_, _, e, _⟩ := h; cases e), fun h => False.elim h⟩
theorem Ok.bind (h : Ok r Q) (hk : ∀ a S, Q a S → Ok (k a S) P) : Ok (bindR r k) P := by
  obtain ⟨a, S, e, q⟩ := h
  rw [e]
  exact hk a S q
theorem Ok.mono {Q' : α → Store → Prop} (h : Ok r Q) (hk : ∀ a S, Q a S → Q' a S) : Ok r Q' := by
  obtain ⟨a, S, e, q⟩ := h
  exact ⟨a, S, e, hk a S q⟩
theorem ok_b (h : Ok r fun a S => Ok (k a S) P) : Ok (bindR r k) P := Ok.bind h fun _ _ q => q
theorem Ok.eq (h : Ok r fun a' S' => a' = a ∧ S' = S) : r = some (a, S) := by
  obtain ⟨a', S', e, q1, q2⟩ := h
  rw [e, q1, q2]
theorem Ok.of_eq (h : r = some (a, S)) (q : Q a S) : Ok r Q := ⟨a, S, h, q⟩
theorem bindR_congr {r' : Option (α × Store)} (h : r = r') : bindR r k = bindR r' k := by rw [h]
theorem ok_congr {r' : Option (α × Store)} (h : r = r') : Ok r Q = Ok r' Q := by rw [h]
theorem seqR_congr {r r' : Option (Fl × Store)} {k : DEnv → M Fl} (h : r = r') : seqR r k = seqR r' k := by rw [h]
theorem endR_congr {r r' : Option (Fl × Store)} {ex : Val → M Val} (h : r = r') : endR r ex = endR r' ex := by rw [h]
@[simp] theorem bindR_bindR {g : β → M γ} : bindR (bindR r k) g = bindR r fun a S => bindR (k a S) g := by
  cases r <;> rfl
theorem bindR_ret : (bindR r fun a S => some (a, S)) = r := by
  cases r <;> rfl
@[simp] theorem bindR_ite {c : Prop} [Decidable c] {r' : Option (α × Store)} : bindR (if c then r else r') k = if c then bindR r k else bindR r' k := by
  split <;> rfl
theorem ok_ite {c : Prop} [Decidable c] {r' : Option (α × Store)} (h1 : c → Ok r Q) (h2 : ¬ c → Ok r' Q) : Ok (if c then r else r') Q := by
  split
  · rename_i h; exact h1 h
  · rename_i h; exact h2 h
end
section
variable {S : Store} {Q : Fl → Store → Prop} {r r' : Option (Fl × Store)} {k k2 : DEnv → M Fl} {P : Val → Store → Prop}
@[simp] theorem seqR_bindR {α : Type} {q : Option (α × Store)} {f : α → M Fl} : seqR (bindR q f) k = bindR q fun a S => seqR (f a S) k := by
  cases q <;> rfl
@[simp] theorem seqR_seqR : seqR (seqR r k) k2 = seqR r fun ρ S => seqR (k ρ S) k2 := by
  cases r with
  | none => rfl
  | some p =>
    obtain ⟨f, S⟩ := p
    cases f <;> rfl
@[simp] theorem seqR_ite {c : Prop} [Decidable c] : seqR (if c then r else r') k = if c then seqR r k else seqR r' k := by
  split <;> rfl
@[simp] theorem endR_bindR {α : Type} {q : Option (α × Store)} {f : α → M Fl} {ex : Val → M Val} : endR (bindR q f) ex = bindR q fun a S => endR (f a S) ex := by
  cases q <;> rfl
@[simp] theorem endR_ite {c : Prop} [Decidable c] {ex : Val → M Val} : endR (if c then r else r') ex = if c then endR r ex else endR r' ex := by
  split <;> rfl
theorem Ok.seq {R : DEnv → Store → Prop} (h : Ok r fun f S => ∃ ρ, f = .nx ρ ∧ R ρ S) (hk : ∀ ρ S, R ρ S → Ok (k ρ S) Q) : Ok (seqR r k) Q := by
  obtain ⟨f, S, e, ρ, rfl, q⟩ := h
  rw [e]
  exact hk ρ S q
theorem ok_s (h : Ok r fun f S => ∃ ρ, f = .nx ρ ∧ Ok (k ρ S) Q) : Ok (seqR r k) Q := Ok.seq h fun _ _ q => q
theorem ok_es {ex : Val → M Val} (h : Ok r fun f S => ∃ ρ, f = .nx ρ ∧ Ok (DM.endR (k ρ S) ex) P) : Ok (DM.endR (seqR r k) ex) P := by
  obtain ⟨f, S, e, ρ, rfl, q⟩ := h
  rw [e]
  exact q
theorem Ok.endR {R : DEnv → Store → Prop} {ex : Val → M Val} (h : Ok r Q) (hk : ∀ f S, Q f S → Ok (DM.endR (some (f, S)) ex) P) : Ok (DM.endR r ex) P := by
  obtain ⟨f, S, e, q⟩ := h
  rw [e]
  exact hk f S q
theorem Ok.endSeq {R : DEnv → Store → Prop} {ex : Val → M Val} (h : Ok r fun f S => ∃ ρ, f = .nx ρ ∧ R ρ S) (hk : ∀ ρ S, R ρ S → Ok (DM.endR (k ρ S) ex) P) : Ok (DM.endR (seqR r k) ex) P := by
  obtain ⟨f, S, e, ρ, rfl, q⟩ := h
  rw [e]
  exact hk ρ S q
end
section
variable {gg : Val → DEnv → M DEnv} {gb : DEnv → M Fl} {R : DEnv → Store → Prop}
/-- a loop that goes through -/
theorem ok_loop {I : List Val → DEnv → Store → Prop} (ht : ∀ d r ρ S, I (d :: r) ρ S → Ok (turnG gg gb d ρ S) fun f S' => ∃ ρ', f = .nx ρ' ∧ I r ρ' S') (he : ∀ ρ S, I [] ρ S → R ρ S) : ∀ (ds : List Val) (ρ : DEnv) (S : Store), I ds ρ S → Ok (loopG gg gb ds ρ S) fun f S' => ∃ ρ', f = .nx ρ' ∧ R ρ' S'
  | [], ρ, S, h => ⟨.nx ρ, S, rfl, ρ, rfl, he ρ S h⟩
  | d :: r, ρ, S, h => by
    obtain ⟨f, S1, e1, ρ1, rfl, h1⟩ := ht d r ρ S h
    have i := ok_loop ht he r ρ1 S1 h1
    rw [loopG_cons, e1]
    exact i
/-- a loop over what a list's members become -/
theorem ok_loopL {α : Type} {g : α → Val} {Q : Fl → Store → Prop} (I : List α → DEnv → Store → Prop) (ht : ∀ x r ρ S, I (x :: r) ρ S → Ok (turnG gg gb (g x) ρ S) fun f S' => ∃ ρ', f = .nx ρ' ∧ I r ρ' S') (he : ∀ ρ S, I [] ρ S → Q (.nx ρ) S) : ∀ (xs : List α) (ρ : DEnv) (S : Store), I xs ρ S → Ok (loopG gg gb (xs.map g) ρ S) Q
  | [], ρ, S, h => ⟨.nx ρ, S, rfl, he ρ S h⟩
  | x :: r, ρ, S, h => by
    obtain ⟨f, S1, e1, ρ1, rfl, h1⟩ := ht x r ρ S h
    have i := ok_loopL I ht he r ρ1 S1 h1
    rw [List.map_cons, loopG_cons, e1]
    exact i
/-- the same, each turn for any question -/
theorem ok_loopQ {α : Type} {g : α → Val} {Q : Fl → Store → Prop} (I : List α → DEnv → Store → Prop) (ht : ∀ x r ρ S (P : Fl → Store → Prop), I (x :: r) ρ S → (∀ ρ' S', I r ρ' S' → P (.nx ρ') S') → Ok (turnG gg gb (g x) ρ S) P) (he : ∀ ρ S, I [] ρ S → Q (.nx ρ) S) (xs : List α) (ρ : DEnv) (S : Store) (h : I xs ρ S) : Ok (loopG gg gb (xs.map g) ρ S) Q :=
  ok_loopL I (fun x r ρ S hI => ht x r ρ S _ hI fun ρ' S' h' => ⟨ρ', rfl, h'⟩) he xs ρ S h
theorem ok_loop2 {a b : Val} {ρ : DEnv} {S : Store} {Q : Fl → Store → Prop} (h : Ok (turnG gg gb a ρ S) fun f S1 => ∃ ρ1, f = .nx ρ1 ∧ Ok (turnG gg gb b ρ1 S1) fun f S2 => ∃ ρ2, f = .nx ρ2 ∧ Q (.nx ρ2) S2) : Ok (loopG gg gb [a, b] ρ S) Q := by
  obtain ⟨f, S1, e1, ρ1, rfl, f2, S2, e2, ρ2, rfl, q⟩ := h
  rw [loopG_cons, e1]
  show Ok (loopG gg gb [b] ρ1 S1) Q
  rw [loopG_cons, e2]
  exact ⟨_, _, rfl, q⟩
@[simp] theorem turnG_e {d : Val} {ρ : DEnv} {S : Store} : turnG gg gb d ρ S = bindR (gg d ρ S) fun ρ1 S1 => gb ρ1 S1 := rfl
/-- one of a list, by a number -/
theorem ok_pick {β : Type} {xs : List PyData} {i : Int} {S : Store} {k : Val → M β} {P : β → Store → Prop} (h0 : 0 ≤ i) (h1 : i < xs.length) (hk : ∀ d ∈ xs, Ok (k (.pd d) S) P) : Ok (bindR (uIx (.pd (.list xs)) (.pd (.int i)) S) k) P := by
  obtain ⟨d, hd, e⟩ := uIx_some (S := S) h0 h1
  rw [e]
  exact hk d hd
end
theorem isTy_lst {S : Store} {h : Nat} {xs : List PyData} (e : S[h]? = some (.lst xs)) : isTy "list" (.obj h) S = true := by
  simp [isTy, e]
theorem uAppend_lst {S : Store} {h : Nat} {xs : List PyData} {d : PyData} (e : S[h]? = some (.lst xs)) (hl : xs.length < 16777216) : uAppend (.obj h) [.pd d] S = some (.pd .none, S.set h (.lst (xs ++ [d]))) := by
  simp [uAppend, e, hl]
/-- a comprehension that leaves the store as it is -/
theorem loopC_map {α : Type} {gg : Val → DEnv → M DEnv} {ft : DEnv → M Bool} {fe : DEnv → M Val} {ρ : DEnv} {S : Store} {g : α → Val} {f : α → PyData} : ∀ (xs : List α) (acc : List PyData), (∀ x ∈ xs, (bindR (gg (g x) ρ S) fun ρ1 S1 => bindR (ft ρ1 S1) fun b S2 => if b = true then fe ρ1 S2 else none) = some (.pd (f x), S)) → acc.length + xs.length ≤ 16777216 →
    loopC gg ft fe ρ (xs.map g) acc S = some (acc ++ xs.map f, S)
  | [], acc, _, _ => by simp
  | x :: xs, acc, h, hl => by
    have h0 := h x (List.mem_cons_self ..)
    have ih := loopC_map xs (acc ++ [f x]) (fun y hy => h y (List.mem_cons_of_mem _ hy)) (by simp at hl ⊢; omega)
    rw [List.map_cons, loopC_cons]
    cases e1 : gg (g x) ρ S with
    | none => rw [e1] at h0; cases h0
    | some p =>
      obtain ⟨ρ1, S1⟩ := p
      rw [e1] at h0
      simp only [bindR_some] at h0 ⊢
      cases e2 : ft ρ1 S1 with
      | none => rw [e2] at h0; cases h0
      | some q =>
        obtain ⟨b, S2⟩ := q
        rw [e2] at h0
        simp only [bindR_some] at h0 ⊢
        cases b with
        | false => cases h0
        | true =>
          simp only [if_true] at h0 ⊢
          rw [h0]
          simp only [bindR_some, addC_pd]
          rw [if_pos (by simp at hl; omega), ih, List.append_assoc]
          rfl
/-- one turn of a comprehension -/
def yC (y : Val) : M (Option PyData) := fun S => match y with
  | .pd d => some (some d, S)
  | _ => none
@[simp] theorem yC_pd {d : PyData} {S : Store} : yC (.pd d) S = some (some d, S) := rfl
def turnC (gg : Val → DEnv → M DEnv) (ft : DEnv → M Bool) (fe : DEnv → M Val) (d : Val) (ρ : DEnv) : M (Option PyData) := fun S => bindR (gg d ρ S) fun ρ1 S1 => bindR (ft ρ1 S1) fun b S2 => if b = true then bindR (fe ρ1 S2) fun y S3 => yC y S3 else some (none, S2)
@[simp] theorem turnC_e {gg : Val → DEnv → M DEnv} {ft : DEnv → M Bool} {fe : DEnv → M Val} {d : Val} {ρ : DEnv} {S : Store} : turnC gg ft fe d ρ S = bindR (gg d ρ S) fun ρ1 S1 => bindR (ft ρ1 S1) fun b S2 => if b = true then bindR (fe ρ1 S2) fun y S3 => yC y S3 else some (none, S2) := rfl
theorem loopC_turn {gg : Val → DEnv → M DEnv} {ft : DEnv → M Bool} {fe : DEnv → M Val} {d : Val} {ds : List Val} {ρ : DEnv} {S : Store} {acc : List PyData} {o : Option PyData} {S1 : Store} (h : turnC gg ft fe d ρ S = some (o, S1)) (hl : acc.length < 16777216) : loopC gg ft fe ρ (d :: ds) acc S = loopC gg ft fe ρ ds (acc ++ o.toList) S1 := by
  rw [turnC_e] at h
  rw [loopC_cons]
  cases e1 : gg d ρ S with
  | none => rw [e1] at h; cases h
  | some p =>
    obtain ⟨ρ1, S1⟩ := p
    rw [e1] at h
    simp only [bindR_some] at h ⊢
    cases e2 : ft ρ1 S1 with
    | none => rw [e2] at h; cases h
    | some q =>
      obtain ⟨b, S2⟩ := q
      rw [e2] at h
      simp only [bindR_some] at h ⊢
      cases b with
      | false =>
        simp only [Bool.false_eq_true, if_false] at h ⊢
        cases h
        simp
      | true =>
        simp only [if_true] at h ⊢
        cases e3 : fe ρ1 S2 with
        | none => rw [e3] at h; cases h
        | some u =>
          obtain ⟨y, S3⟩ := u
          rw [e3] at h
          simp only [bindR_some] at h ⊢
          cases y with
          | obj i => cases h
          | pd y =>
            cases h
            rw [addC_pd, if_pos hl]
            rfl
theorem ok_loopC {α : Type} {gg : Val → DEnv → M DEnv} {ft : DEnv → M Bool} {fe : DEnv → M Val} {ρ : DEnv} {g : α → Val} {Q : List PyData → Store → Prop} (I : List α → List PyData → Store → Prop) (hb : ∀ x r acc S, I (x :: r) acc S → acc.length < 16777216) (ht : ∀ x r acc S, I (x :: r) acc S → Ok (turnC gg ft fe (g x) ρ S) fun o S' => I r (acc ++ o.toList) S') (he : ∀ acc S, I [] acc S → Q acc S) : ∀ (xs : List α) (acc : List PyData) (S : Store), I xs acc S → Ok (loopC gg ft fe ρ (xs.map g) acc S) Q
  | [], acc, S, h => ⟨acc, S, rfl, he acc S h⟩
  | x :: r, acc, S, h => by
    obtain ⟨o, S1, e1, h1⟩ := ht x r acc S h
    rw [List.map_cons, loopC_turn e1 (hb x r acc S h)]
    exact ok_loopC I hb ht he r _ S1 h1
theorem wf_blw {S : Store} (w : Wf S) {n : Nat} (h : S.length = n) : S.all (Ob.blw n) = true := by
  subst h
  exact List.all_eq_true.mpr w
theorem exitF_pre {S0 S : Store} {d : PyData} (w : Wf S0) (h : ∃ T, S = S0 ++ T) : exitF S0.length (.pd d) S = some (.pd d, S0) := by
  obtain ⟨T, rfl⟩ := h
  exact exitF_app w
theorem cutP_nn {α : Type} {xs : List α} {a b : Nat} : cutP xs (some (a : Int)) (some (b : Int)) = (xs.take b).drop a := by
  unfold cutP
  rw [HT.sIx_nat, HT.sIx_nat, List.drop_take]
  rcases Nat.le_total a xs.length with h | h
  · rw [Nat.min_eq_left h]
    rcases Nat.le_total b xs.length with h2 | h2
    · rw [Nat.min_eq_left h2]
    · rw [Nat.min_eq_right h2, List.take_of_length_le (by simp), List.take_of_length_le (by simp; omega)]
  · rw [Nat.min_eq_right h, List.drop_of_length_le (Nat.le_refl _), List.drop_of_length_le h]
    simp
theorem cutP_map {α β : Type} {f : α → β} {xs : List α} {lo hi : Option Int} : cutP (xs.map f) lo hi = (cutP xs lo hi).map f := by
  unfold cutP
  simp
theorem uEq_s {S : Store} {a b : Str} (p : Bool) (ha : PyData.strOk a = true) (hb : PyData.strOk b = true) (h : decide (a = b) = p) : uEq (.pd (.str a)) (.pd (.str b)) S = some (.pd (.bool p), S) :=
  uEq_D (n := 0) (m := 0) rfl rfl (by simpa [plD] using ha) (by simpa [plD] using hb) (by omega) (by omega) (by subst h; simp)
theorem uNe_s {S : Store} {a b : Str} (p : Bool) (ha : PyData.strOk a = true) (hb : PyData.strOk b = true) (h : decide (a ≠ b) = p) : uNe (.pd (.str a)) (.pd (.str b)) S = some (.pd (.bool p), S) :=
  uNe_D (n := 0) (m := 0) rfl rfl (by simpa [plD] using ha) (by simpa [plD] using hb) (by omega) (by omega) (by subst h; simp)
@[simp] theorem uEq_put_put {S : Store} : uEq (.pd (.str "put")) (.pd (.str "put")) S = some (.pd (.bool true), S) := uEq_s _ (by decide +kernel) (by decide +kernel) (by decide +kernel)
@[simp] theorem uEq_put_cut {S : Store} : uEq (.pd (.str "put")) (.pd (.str "cut")) S = some (.pd (.bool false), S) := uEq_s _ (by decide +kernel) (by decide +kernel) (by decide +kernel)
@[simp] theorem uEq_put_look {S : Store} : uEq (.pd (.str "put")) (.pd (.str "look")) S = some (.pd (.bool false), S) := uEq_s _ (by decide +kernel) (by decide +kernel) (by decide +kernel)
@[simp] theorem uEq_put_step {S : Store} : uEq (.pd (.str "put")) (.pd (.str "step")) S = some (.pd (.bool false), S) := uEq_s _ (by decide +kernel) (by decide +kernel) (by decide +kernel)
@[simp] theorem uEq_cut_put {S : Store} : uEq (.pd (.str "cut")) (.pd (.str "put")) S = some (.pd (.bool false), S) := uEq_s _ (by decide +kernel) (by decide +kernel) (by decide +kernel)
@[simp] theorem uEq_cut_cut {S : Store} : uEq (.pd (.str "cut")) (.pd (.str "cut")) S = some (.pd (.bool true), S) := uEq_s _ (by decide +kernel) (by decide +kernel) (by decide +kernel)
@[simp] theorem uEq_cut_look {S : Store} : uEq (.pd (.str "cut")) (.pd (.str "look")) S = some (.pd (.bool false), S) := uEq_s _ (by decide +kernel) (by decide +kernel) (by decide +kernel)
@[simp] theorem uEq_cut_step {S : Store} : uEq (.pd (.str "cut")) (.pd (.str "step")) S = some (.pd (.bool false), S) := uEq_s _ (by decide +kernel) (by decide +kernel) (by decide +kernel)
@[simp] theorem uEq_look_put {S : Store} : uEq (.pd (.str "look")) (.pd (.str "put")) S = some (.pd (.bool false), S) := uEq_s _ (by decide +kernel) (by decide +kernel) (by decide +kernel)
@[simp] theorem uEq_look_cut {S : Store} : uEq (.pd (.str "look")) (.pd (.str "cut")) S = some (.pd (.bool false), S) := uEq_s _ (by decide +kernel) (by decide +kernel) (by decide +kernel)
@[simp] theorem uEq_look_look {S : Store} : uEq (.pd (.str "look")) (.pd (.str "look")) S = some (.pd (.bool true), S) := uEq_s _ (by decide +kernel) (by decide +kernel) (by decide +kernel)
@[simp] theorem uEq_look_step {S : Store} : uEq (.pd (.str "look")) (.pd (.str "step")) S = some (.pd (.bool false), S) := uEq_s _ (by decide +kernel) (by decide +kernel) (by decide +kernel)
@[simp] theorem uEq_step_put {S : Store} : uEq (.pd (.str "step")) (.pd (.str "put")) S = some (.pd (.bool false), S) := uEq_s _ (by decide +kernel) (by decide +kernel) (by decide +kernel)
@[simp] theorem uEq_step_cut {S : Store} : uEq (.pd (.str "step")) (.pd (.str "cut")) S = some (.pd (.bool false), S) := uEq_s _ (by decide +kernel) (by decide +kernel) (by decide +kernel)
@[simp] theorem uEq_step_look {S : Store} : uEq (.pd (.str "step")) (.pd (.str "look")) S = some (.pd (.bool false), S) := uEq_s _ (by decide +kernel) (by decide +kernel) (by decide +kernel)
@[simp] theorem uEq_step_step {S : Store} : uEq (.pd (.str "step")) (.pd (.str "step")) S = some (.pd (.bool true), S) := uEq_s _ (by decide +kernel) (by decide +kernel) (by decide +kernel)
/-- (script + [0])[0] -/
theorem first_cell {β : Type} {S : Store} {ns : List Int} {k : Val → M β} {P : β → Store → Prop} (e : S[0]? = some (.scr (ns.map PyData.int))) (hn : ns.length ≤ 63) (hk : ∀ c : Int, Ok (k (.pd (.int c)) S) P) : Ok (bindR (uAdd (.obj 0) (.pd (.list [.int 0])) S) fun a S => bindR (uIx a (.pd (.int 0)) S) k) P := by
  have l : ns.length + 1 ≤ 16777216 := by omega
  have ea : uAdd (.obj 0) (.pd (.list [.int 0])) S = some (.pd (.list (ns.map PyData.int ++ [.int 0])), S) := by simp [uAdd, getL, e, l]
  rw [ea, bindR_some]
  refine ok_pick (by omega) (by simp) fun d hd => ?_
  rcases List.mem_append.mp hd with q | q
  · obtain ⟨c, _, rfl⟩ := List.mem_map.mp q
    exact hk c
  · simp at q
    subst q
    exact hk 0
theorem uLen_K {S : Store} {h : Nat} {kvs : List (Key × PyData)} (e : S[h]? = some (.dK kvs)) : uLen [.obj h] S = some (.pd (.int kvs.length), S) := by simp [uLen, e]
theorem exitF_wf {S0 S : Store} {d : PyData} (w : Wf S0) (h : ∃ T, S = S0 ++ T) {n : Nat} (hn : S0.length = n) : exitF n (.pd d) S = some (.pd d, S0) := by
  subst hn
  exact exitF_pre w h
theorem wf_scr {ns : List Int} : Wf [.scr (ns.map PyData.int)] := fun o ho => by
  simp at ho
  subst ho
  rfl
theorem law_end {ns : List Int} {T : Store} : Ok (exitF 1 (.pd (.bool true)) (.scr (ns.map PyData.int) :: T)) fun d _ => d = .pd (.bool true) := by
  rw [show Ob.scr (ns.map PyData.int) :: T = [.scr (ns.map PyData.int)] ++ T from rfl, exitF_wf (n := 1) wf_scr ⟨_, rfl⟩ rfl, ok_some]
@[simp] theorem get_at {S T : Store} {i : Nat} : (S ++ T)[S.length + i]? = T[i]? := by
  rw [List.getElem?_append_right (by omega)]
  congr 1
  omega
@[simp] theorem get_at0 {S T : Store} : (S ++ T)[S.length]? = T[0]? := get_at (i := 0)
@[simp] theorem set_at {S T : Store} {i : Nat} {o : Ob} : (S ++ T).set (S.length + i) o = S ++ T.set i o := by
  rw [List.set_append_right _ _ (by omega)]
  congr 2
  omega
@[simp] theorem set_at0 {S T : Store} {o : Ob} : (S ++ T).set S.length o = S ++ T.set 0 o := set_at (i := 0)
theorem atI_last {α : Type} {xs : List α} {d : α} : atI (xs ++ [d]) (-1) = some d := by
  have e : ixN (xs ++ [d]).length (-1) = some xs.length := by
    unfold ixN
    rw [if_neg (by omega), if_pos (by simp; omega)]
    simp
    omega
  unfold atI
  rw [e]
  simp
theorem uIx_last {S : Store} {h : Nat} {xs : List PyData} {d : PyData} (e : S[h]? = some (.lst (xs ++ [d]))) : uIx (.obj h) (.pd (.int (-1))) S = some (.pd d, S) := by
  rw [uIx_obj e, atI_last]
  rfl
theorem uLen_lst {S : Store} {h : Nat} {xs : List PyData} (e : S[h]? = some (.lst xs)) : uLen [.obj h] S = some (.pd (.int xs.length), S) := by simp [uLen, e]
theorem pl_ints {n : Nat} (ns : List Int) : plA n (ns.map PyData.int) = true := by
  induction ns with
  | nil => simp [plA]
  | cons x xs ih => simp [plA, plD, ih]
theorem uNe_nil {S : Store} {h : Nat} {ns : List Int} (e : S[h]? = some (.lst (ns.map PyData.int))) : uNe (.obj h) (.pd (.list [])) S = some (.pd (.bool (!ns.isEmpty)), S) :=
  uNe_D (n := 1) (m := 1) (x := .list (ns.map PyData.int)) (y := .list []) (by simp [toD, e]) rfl (pl_ints (n := 0) ns) rfl (by omega) (by omega) (by cases ns <;> simp)
/-- what stays where it is when another cell is set -/
theorem get_set_ne {S : Store} {i j : Nat} {o u : Ob} (h : i ≠ j) (e : S[j]? = some u) : (S.set i o)[j]? = some u := by
  rw [List.getElem?_set_ne h]
  exact e
theorem get_set_eq {S : Store} {i : Nat} {o u : Ob} (e : S[i]? = some u) : (S.set i o)[i]? = some o := List.getElem?_set_self (lt_of_get e)
end
end DM
set_option Elab.async false
set_option linter.all false
set_option maxRecDepth 100000
set_option maxHeartbeats 4000000
/-! DMSort: sorted, of ints, of pairs of ints -/
namespace DM
open PySem L2 PyProof.Rows
def rSortedPO (K : PySem.W.Frag) : List V → Hp → VK → Prop := fun vs H Q => ∃ (a : Addr) (ys : List V) (k : V → Int × Int), vs = [V.ref a] ∧ SqL K H a ys ∧ (∀ y ∈ ys, ∃ t, y = V.ref t ∧ H t = some (.tup [.int (k y).1, .int (k y).2])) ∧
  ∀ zs p, SrtO.Srtd (ltP k) zs → SrtO.Stb (ltP k) zs ys → H p = none → Q (.ref p) (upd H p (.lst zs))
theorem cr_sortedPO {X : Cx} : CallR X (.builtin "sorted") (rSortedPO X.K) := by
  intro pins s σ H vs us Q I r h
  obtain ⟨a, ys, k, rfl, hs, hx, q⟩ := h
  obtain ⟨its, rv, hl, hz⟩ := I.list hs
  obtain ⟨u, rfl, ru⟩ := vals1 r
  obtain rfl : u = Value.ref a := ru
  obtain ⟨e1, e2⟩ := refs_back rv fun x m => by
    obtain ⟨t, e, _⟩ := hx x m
    exact ⟨t, e⟩
  have hp : ∀ v ∈ its, Srt.IsPair s.heap v (k (backV v)).1 (k (backV v)).2 := fun v hv => by
    obtain ⟨t, rfl⟩ := e2 v hv
    have hm : V.ref t ∈ ys := by rw [e1]; exact List.mem_map.mpr ⟨_, hv, rfl⟩
    obtain ⟨t', e, ht⟩ := hx _ hm
    cases e
    obtain ⟨_, its2, r2, o, ho, hc, n, hd⟩ := I.hok _ _ ht
    obtain ⟨u1, u2, rfl, ri, rj⟩ := vals2 r2
    obtain ⟨t1, rfl⟩ := ri
    obtain ⟨t2, rfl⟩ := rj
    exact ⟨t, o, t1, t2, n, rfl, ho, hc, hd⟩
  refine SrtO.sorted_pairsO (k := fun u => k (backV u)) hl.isList (by rw [← rv.length]; exact hz) hp fun h' d out h1 h2 kk hd hn => ?_
  have h3 : ∀ u ∈ out, ∃ a, u = Value.ref a := fun u hu => e2 u (h2.perm.mem_iff.mp hu)
  obtain ⟨n, hn⟩ := hn
  have hb : SrtO.Stb (ltP k) (out.map backV) ys := by
    rw [e1]
    exact SrtO.Stb.map (ltP_swo k) backV h2
  refine ⟨.ref d, upd H d (.lst (out.map backV)), I.laid (t' := s.toks) kk hd ⟨?_, out, n, vals_back h3, hn⟩, rfl, q _ d (SrtO.srtd_map h1) hb (I.hok.fresh hd)⟩
  rw [hb.len]
  exact hz
/-! the same of data -/
def leP (p q : Int × Int) : Bool := !SrtO.lexB q p
theorem leP_iff {p q : Int × Int} : leP p q = true ↔ p.1 < q.1 ∨ (p.1 = q.1 ∧ p.2 ≤ q.2) := by
  unfold leP
  rw [Bool.not_eq_true', SrtO.lexB_no]
  omega
def sortP (ps : List (Int × Int)) : List (Int × Int) := ps.mergeSort leP
def sortI (ps : List Int) : List Int := ps.mergeSort fun a b => decide (a ≤ b)
theorem leP_anti {p q : Int × Int} (h1 : leP p q = true) (h2 : leP q p = true) : p = q := by
  rw [leP_iff] at h1 h2
  refine Prod.ext ?_ ?_ <;> omega
theorem sortP_pair (ps : List (Int × Int)) : (sortP ps).Pairwise fun p q => leP p q = true :=
  List.pairwise_mergeSort (fun a b c h1 h2 => by rw [leP_iff] at *; omega) (fun a b => by
    rw [Bool.or_eq_true, leP_iff, leP_iff]
    omega) ps
theorem sortP_perm (ps : List (Int × Int)) : (sortP ps).Perm ps := List.mergeSort_perm _ _
theorem sortP_uniq {ps zs : List (Int × Int)} (h1 : zs.Perm ps) (h2 : zs.Pairwise fun p q => leP p q = true) : zs = sortP ps :=
  List.Perm.eq_of_pairwise (fun a b _ _ => leP_anti) h2 (sortP_pair ps) (h1.trans (sortP_perm ps).symm)
theorem sortI_pair (ps : List Int) : (sortI ps).Pairwise (· ≤ ·) := by
  have := List.pairwise_mergeSort (le := fun a b : Int => decide (a ≤ b)) (fun a b c h1 h2 => by simp at *; omega) (fun a b => by simp; omega) ps
  exact this.imp fun h => by simpa using h
theorem sortI_perm (ps : List Int) : (sortI ps).Perm ps := List.mergeSort_perm _ _
theorem sortI_uniq {ps zs : List Int} (h1 : zs.Perm ps) (h2 : zs.Pairwise (· ≤ ·)) : zs = sortI ps :=
  List.Perm.eq_of_pairwise (fun a b _ _ h1 h2 => by omega) h2 (sortI_pair ps) (h1.trans (sortI_perm ps).symm)
theorem sortP_eq {a b : List (Int × Int)} (h : a.Perm b) : sortP a = sortP b := sortP_uniq ((sortP_perm a).trans h) (sortP_pair a)
theorem sortI_eq {a b : List Int} (h : a.Perm b) : sortI a = sortI b := sortI_uniq ((sortI_perm a).trans h) (sortI_pair a)
def prX (p : Int × Int) : PyData := .tuple [.int p.1, .int p.2]
def allPr : List PyData → Option (List (Int × Int))
  | [] => some []
  | .tuple [.int i, .int j] :: r => (allPr r).map ((i, j) :: ·)
  | _ :: _ => none
theorem allPr_eq : ∀ {ds : List PyData} {xs : List (Int × Int)}, allPr ds = some xs → ds = xs.map prX
  | [], _, h => by cases h; rfl
  | d :: r, xs, h => by
    unfold allPr at h
    split at h
    · rename_i e; cases e
    · rename_i e
      cases e
      rename_i i j r'
      cases hr : allPr r with
      | none => rw [hr] at h; cases h
      | some ys =>
        rw [hr] at h
        cases h
        rw [allPr_eq hr]
        rfl
    · cases h
theorem allPr_map : ∀ xs : List (Int × Int), allPr (xs.map prX) = some xs
  | [] => rfl
  | x :: xs => by
    show (allPr (xs.map prX)).map _ = _
    rw [allPr_map xs]
    rfl
def uSorted : List Val → M Val := fun ds S => match ds with
  | [d] => (getL d S).bind fun xs => match allInt xs with
    | some ns => some (.pd (.list ((sortI ns).map PyData.int)), S)
    | none => (allPr xs).map fun ps => (.pd (.list ((sortP ps).map prX)), S)
  | _ => none
def kOf (H : Hp) (v : V) : Int × Int := match v with
  | .ref t => match H t with
    | some (.tup [.int i, .int j]) => (i, j)
    | _ => (0, 0)
  | _ => (0, 0)
section
variable {K : PySem.W.Frag} {cl : Nat → Addr} {H : Hp} {O : Addr → Prop}
theorem RpAll.prs : ∀ {ps : List (Int × Int)} {vs : List V}, RpAll K H O vs (ps.map prX) → ps = vs.map (kOf H) ∧ ∀ v ∈ vs, (∃ t, v = V.ref t ∧ H t = some (.tup [.int (kOf H v).1, .int (kOf H v).2])) ∧ Rp K H O v (prX (kOf H v))
  | [], _, h => by cases h; exact ⟨rfl, fun v hv => by cases hv⟩
  | p :: ps, _, h => by
    cases h with
    | cons r t =>
      rename_i v vs
      obtain ⟨e, g⟩ := RpAll.prs t
      have hk : kOf H v = p ∧ ∃ t, v = V.ref t ∧ H t = some (.tup [.int p.1, .int p.2]) := by
        unfold prX at r
        cases r with
        | tup f q =>
          rename_i a xs
          cases q with
          | cons r1 q =>
            cases q with
            | cons r2 q =>
              cases q
              cases r1
              cases r2
              have ha := f.1
              refine ⟨?_, a, rfl, ha⟩
              unfold kOf
              simp only [ha]
      refine ⟨by rw [List.map_cons, hk.1, ← e], fun u hu => ?_⟩
      rcases List.mem_cons.mp hu with rfl | hu
      · rw [hk.1]
        exact ⟨hk.2, r⟩
      · exact g u hu
theorem RpAll.of_prs : ∀ {vs : List V}, (∀ v ∈ vs, Rp K H O v (prX (kOf H v))) → RpAll K H O vs ((vs.map (kOf H)).map prX)
  | [], _ => .nil
  | v :: vs, h => .cons (h v (List.mem_cons_self ..)) (RpAll.of_prs fun u hu => h u (List.mem_cons_of_mem _ hu))
theorem sc_sorted : SimC K cl (fun xs H Q => rSortedI K xs H Q ∨ rSortedPO K xs H Q) uSorted := fun wd S H xs ds Q d S' w r h k => by
  unfold uSorted at h
  split at h
  · rename_i d0
    cases e : getL d0 S with
    | none => rw [e] at h; cases h
    | some ys =>
      rw [e] at h
      have h : (match allInt ys with
        | some ns => some (Val.pd (.list ((sortI ns).map PyData.int)), S)
        | none => (allPr ys).map fun ps => (Val.pd (.list ((sortP ps).map prX)), S)) = some (d, S') := h
      obtain ⟨v, rfl, r1⟩ := r.one_inv
      obtain ⟨a, vs, rfl, f, q⟩ := w.getL r1 e
      cases e2 : allInt ys with
      | some ns =>
        rw [e2] at h
        cases h
        have := allInt_eq e2
        subst this
        obtain rfl := q.ints
        refine .inl ⟨a, ns, rfl, f, fun ns' p h1 h2 hp => ?_⟩
        have ee := sortI_uniq h1 h2
        subst ee
        have ri : RpAll K H (Own wd S.length) ((sortI ns).map V.int) ((sortI ns).map PyData.int) := by
          generalize sortI ns = zs
          induction zs with
          | nil => exact .nil
          | cons z zs ih => exact .cons (.int z) ih
        obtain ⟨w2, x2, r2⟩ := w.newF ri hp
        exact k _ _ _ w2 x2 r2
      | none =>
        rw [e2] at h
        cases e3 : allPr ys with
        | none => rw [e3] at h; cases h
        | some ps =>
          rw [e3] at h
          cases h
          have := allPr_eq e3
          subst this
          obtain ⟨ep, g⟩ := q.prs
          refine .inr ⟨a, vs, kOf H, rfl, f, fun y hy => (g y hy).1, fun zs p h1 h2 hp => ?_⟩
          have es : zs.map (kOf H) = sortP ps := by
            refine sortP_uniq ?_ ?_
            · rw [ep]
              exact h2.perm.map _
            · refine List.pairwise_map.mpr (h1.imp fun {x y} hxy => ?_)
              unfold leP
              rw [show SrtO.lexB (kOf H y) (kOf H x) = false from hxy]
              rfl
          have rz : RpAll K H (Own wd S.length) zs ((sortP ps).map prX) := by
            rw [← es]
            exact RpAll.of_prs fun v hv => (g v (h2.perm.mem_iff.mp hv)).2
          obtain ⟨w2, x2, r2⟩ := w.newF rz hp
          exact k _ _ _ w2 x2 r2
  · cases h
theorem cr_sorted' {X : Cx} : CallR X (.builtin "sorted") (fun xs H Q => rSortedI X.K xs H Q ∨ rSortedPO X.K xs H Q) := cr_sortedI.or cr_sortedPO
end
theorem uSorted_P {S : Store} {a : Val} {ps : List (Int × Int)} (e : getL a S = some (ps.map prX)) (hp : ps ≠ []) : uSorted [a] S = some (.pd (.list ((sortP ps).map prX)), S) := by
  have h1 : allInt (ps.map prX) = none := by
    cases ps with
    | nil => exact absurd rfl hp
    | cons p ps => rfl
  simp only [uSorted, e, Option.bind_some, h1, allPr_map, Option.map_some]
theorem uSorted_I {S : Store} {a : Val} {ns : List Int} (e : getL a S = some (ns.map PyData.int)) : uSorted [a] S = some (.pd (.list ((sortI ns).map PyData.int)), S) := by
  simp only [uSorted, e, Option.bind_some, allInt_map]
theorem uSorted_P' {S : Store} {a : Val} {ps : List (Int × Int)} (e : getL a S = some (ps.map prX)) : uSorted [a] S = some (.pd (.list ((sortP ps).map prX)), S) := by
  cases ps with
  | nil =>
    rw [uSorted_I (ns := []) e]
    have h1 : sortI [] = [] := List.perm_nil.mp (sortI_perm [])
    have h2 : sortP [] = [] := List.perm_nil.mp (sortP_perm [])
    rw [h1, h2]
    rfl
  | cons p ps => exact uSorted_P e (by simp)
/-! x in xs -/
theorem u65 {k : Nat} {A : Around} (r : Room k A) : A.units + 65 < cLine := by have := r.un; omega
def inT (x : PyData) (ns : List Int) : Option Bool := match x with
  | .int i => some (decide (i ∈ ns))
  | _ => none
def inB (a b : Val) (S : Store) : Option Bool := match b with
  | .pd (.tuple ys) => match toD a S, allInt ys with
    | some x, some ns => inT x ns
    | _, _ => none
  | b => match toD a S, toD b S with
    | some x, some (.list ys) => if SeqAt.shaped x = true ∧ SeqAt.shaped (.list ys) = true then some (ys.any fun z => PyData.eqv z x) else none
    | _, _ => none
def uIn : Val → Val → M Val := fun a b S => (inB a b S).map fun p => (.pd (.bool p), S)
def uNotIn : Val → Val → M Val := fun a b S => (inB a b S).map fun p => (.pd (.bool (!p)), S)
def rInA (K : PySem.W.Frag) (neg : Bool) : R2 := fun x y H Q => (∃ d ds, Dp K H x d ∧ Dp K H y (.list ds) ∧ SeqAt.shaped d = true ∧ SeqAt.shaped (.list ds) = true ∧ Q (.bl (if neg then !ds.any fun z => PyData.eqv z d else ds.any fun z => PyData.eqv z d)) H) ∨ rIn K neg x y H Q
theorem op_inA' {X : Cx} (hu : X.A.units + 65 < cLine) : OpR X (compareOp .In) (rInA X.K false) := (op_inD hu).or op_in_seq
theorem op_notInA' {X : Cx} (hu : X.A.units + 65 < cLine) : OpR X (compareOp .NotIn) (rInA X.K true) := (op_notInD hu).or op_notIn_seq
section
variable {K : PySem.W.Frag} {cl : Nat → Addr}
theorem flat_ints {ns : List Int} : (ns.map V.int).all flatV = true := by
  rw [List.all_eq_true]
  intro v hv
  obtain ⟨j, _, rfl⟩ := List.mem_map.mp hv
  rfl
theorem so_inB {wd : Wd} {S : Store} {H : Hp} {x y : V} {dx dy : Val} {neg p : Bool} {Q : VK} (w : WR K cl wd S H) (rx : RV K wd S.length H x dx) (ry : RV K wd S.length H y dy) (h : inB dx dy S = some p) (k : Q (.bl (if neg then !p else p)) H) : rInA K neg x y H Q := by
  unfold inB at h
  split at h
  · rename_i ys
    split at h
    · rename_i d ns e1 e2
      unfold inT at h
      split at h
      · rename_i i
        cases h
        have := allInt_eq e2
        subst this
        obtain ⟨a, vs, rfl, f, q⟩ := ry.tup_inv
        obtain rfl := q.ints
        have hd := w.toD rx e1
        have hx : x = .int i := by
          cases hd
          rfl
        subst hx
        exact .inr ⟨a, ns.map V.int, rfl, .inr f.sq, rfl, flat_ints, by rw [inV_ints]; exact k⟩
      · cases h
    · cases h
  · split at h
    · rename_i e1 e2
      split at h
      · rename_i hs
        cases h
        exact .inl ⟨_, _, w.toD rx e1, w.toD ry e2, hs.1, hs.2, k⟩
      · cases h
    · cases h
theorem so_in : SimO K cl (rInA K false) uIn := fun wd S H x y dx dy Q d S' w rx ry h k => by
  unfold uIn at h
  cases e : inB dx dy S with
  | none => rw [e] at h; cases h
  | some p =>
    rw [e] at h
    cases h
    exact so_inB w rx ry e (k wd _ H w .refl (.bl _))
theorem so_notin : SimO K cl (rInA K true) uNotIn := fun wd S H x y dx dy Q d S' w rx ry h k => by
  unfold uNotIn at h
  cases e : inB dx dy S with
  | none => rw [e] at h; cases h
  | some p =>
    rw [e] at h
    cases h
    exact so_inB w rx ry e (k wd _ H w .refl (.bl _))
end
theorem any_eqv {n : Nat} {x : PyData} {ys : List PyData} (hx : plD n x = true) (hy : plA n ys = true) : (ys.any fun z => PyData.eqv z x) = true ↔ x ∈ ys := by
  rw [List.any_eq_true]
  have mem : ∀ (ys : List PyData), plA n ys = true → ∀ y ∈ ys, plD n y = true := fun ys => by
    induction ys with
    | nil => intro _ y hy; cases hy
    | cons a r ih =>
      intro h y hy
      unfold plA at h
      rw [Bool.and_eq_true] at h
      rcases List.mem_cons.mp hy with rfl | hy
      · exact h.1
      · exact ih h.2 y hy
  constructor
  · rintro ⟨y, hy', e⟩
    have := (eqv_pl n y x n (mem ys hy y hy') hx).mp e
    subst this
    exact hy'
  · intro h
    exact ⟨x, h, (eqv_pl n x x n hx hx).mpr rfl⟩
/-- x in a list of plain data -/
theorem inB_list {S : Store} {a b : Val} {x : PyData} {ys : List PyData} {n : Nat} (ha : toD a S = some x) (hb : toD b S = some (.list ys)) (hx : plD n x = true) (hy : plA n ys = true) (hn : n < 60) {p : Bool} (hp : p = true ↔ x ∈ ys) : inB a b S = some p := by
  have s1 := pl_shaped hx (by omega)
  have s2 : SeqAt.shaped (.list ys) = true := pl_shaped (n := n + 1) hy (by omega)
  unfold inB
  split
  · simp [toD] at hb
  · rw [ha, hb]
    have : (ys.any fun z => PyData.eqv z x) = p := by rw [Bool.eq_iff_iff, any_eqv hx hy, hp]
    simp [s1, s2, this]
theorem uIn_D {S : Store} {a b : Val} {x : PyData} {ys : List PyData} {n : Nat} (ha : toD a S = some x) (hb : toD b S = some (.list ys)) (hx : plD n x = true) (hy : plA n ys = true) (hn : n < 60) {p : Bool} (hp : p = true ↔ x ∈ ys) : uIn a b S = some (.pd (.bool p), S) := by
  unfold uIn
  rw [inB_list ha hb hx hy hn hp]
  rfl
theorem uNotIn_D {S : Store} {a b : Val} {x : PyData} {ys : List PyData} {n : Nat} (ha : toD a S = some x) (hb : toD b S = some (.list ys)) (hx : plD n x = true) (hy : plA n ys = true) (hn : n < 60) {p : Bool} (hp : p = true ↔ x ∈ ys) : uNotIn a b S = some (.pd (.bool (!p)), S) := by
  unfold uNotIn
  rw [inB_list ha hb hx hy hn hp]
  rfl
theorem uIn_tup {S : Store} {i : Int} {ns : List Int} : uIn (.pd (.int i)) (.pd (.tuple (ns.map PyData.int))) S = some (.pd (.bool (decide (i ∈ ns))), S) := by
  simp only [uIn, inB, toD, allInt_map, inT, Option.map_some]
theorem uNotIn_tup {S : Store} {i : Int} {ns : List Int} : uNotIn (.pd (.int i)) (.pd (.tuple (ns.map PyData.int))) S = some (.pd (.bool (!decide (i ∈ ns))), S) := by
  simp only [uNotIn, inB, toD, allInt_map, inT, Option.map_some]
end DM
set_option Elab.async false
set_option linter.all false
set_option maxRecDepth 100000
set_option maxHeartbeats 4000000
/-! DMList: attribute targets; a list's methods -/
namespace DM
open PySem L2 PyProof.Rows
noncomputable section
/-- o.f as a target -/
def gFld (K : PySem.W.Frag) (to : TE) (f : Str) : TG := fun v σ H Q => to σ H fun x H1 => ∃ a C dx fs, x = .ref a ∧ H1 a = some (.ins C dx fs) ∧ Cls K C ∧ NoAttr K C f ∧ fs.length < 1000 ∧ Q σ (upd H1 a (.ins C dx (putF f v fs)))
section
variable {X : Cx} {cl : Nat → Addr} {o : Expr} {f : Str} {pos : Pos} {fo : DEnv → M Val} {c : Nat}
theorem pg_fld {to : TE} (ho : PE X o to) : PG X (.Attribute o f pos) (gFld X.K to f) := by
  refine ⟨fun pins s σ H v u Q I r h => ?_⟩
  rw [assign_Attribute]
  refine wpAny_bind (wpAny_holding (thn (ho.run pins s σ H _ I h) fun ov s1 ⟨x, H1, I1, rx, a, C, dx, fs, ex, ea, cc, n, l, q⟩ => ?_))
  subst ex
  obtain rfl : ov = Value.ref a := rx
  refine wpAny_bind (wpAny_standAt (wpAny_bind (wpAny_holding (setattr_ok I1 ea cc n l r fun s3 I3 => ?_))))
  exact wpAny_release ⟨σ, _, I3, q⟩
def nFld (c : Nat) (f : Str) (fo : DEnv → M Val) : Val → DEnv → M DEnv := fun d ρ S => bindR (fo ρ S) fun o S1 => bindR (uSetF c f o d S1) fun _ S2 => some (ρ, S2)
@[simp] theorem nFld_e {d : Val} {ρ : DEnv} {S : Store} : nFld c f fo d ρ S = bindR (fo ρ S) fun o S1 => bindR (uSetF c f o d S1) fun _ S2 => some (ρ, S2) := rfl
theorem dg_fld (hc : Cls X.K (cl c)) (na : NoAttr X.K (cl c) f) (ho : DE X cl o fo) : DG X cl (.Attribute o f pos) (nFld c f fo) := by
  obtain ⟨t, p, s⟩ := ho
  refine ⟨_, pg_fld p, fun wd σ ρ S H v d Q ρ' S' w q r h k => ?_⟩
  obtain ⟨y, S2, h2, h⟩ := bindR_inv h
  obtain ⟨_, S3, h3, h⟩ := bindR_inv h
  cases h
  refine s wd σ ρ S H _ y S2 w q h2 fun wd2 v2 H2 w2 x2 r2 => ?_
  unfold uSetF at h3
  split at h3
  · rename_i hh
    obtain ⟨hi, rfl⟩ := r2
    split at h3
    · rename_i c' fs e1
      split at h3
      · rename_i ec
        obtain ⟨ec, hl⟩ := ec
        subst ec
        cases h3
        obtain ⟨dx, gs, ea, l, w3, x3⟩ := w2.setF (f := f) e1 (r.ext x2)
        exact ⟨_, _, _, _, rfl, ea, hc, na, by rw [l]; exact hl, k wd2 σ _ w3 (x2.trans x3) ((q.ext x2).ext x3)⟩
      · cases h3
    · cases h3
  · cases h3
end
/-! a list's methods -/
section
variable {K : PySem.W.Frag} {cl : Nat → Addr}
def small (i : Int) : Bool := decide (-16777217 ≤ i) && decide (i ≤ 16777217)
theorem small_ok {i : Int} (h : small i = true) : -(2 ^ 63) ≤ i ∧ i < 2 ^ 63 := by
  unfold small at h
  simp at h
  omega
def uPopAt : Val → List Val → M Val := fun o ds S => match o, ds with
  | .obj h, [.pd (.int i)] => match S[h]? with
    | some (.lst xs) => if small i = true then match ixN xs.length i with
      | some k => match xs[k]? with
        | some y => some (.pd y, S.set h (.lst (xs.eraseIdx k)))
        | none => none
      | none => none
      else none
    | _ => none
  | _, _ => none
theorem sm_popAt : SimM K cl rPopAt uPopAt := fun wd S H x xs dx ds Q d S' w rx r h k => by
  unfold uPopAt at h
  split at h
  · rename_i hh i
    obtain ⟨hi, rfl⟩ := rx
    obtain ⟨v, rfl, rv⟩ := r.one_inv
    obtain rfl := rv.int_inv
    split at h
    · rename_i ys e
      obtain ⟨f, vs, e1, q⟩ := w.ob hh _ e
      split at h
      · rename_i hs
        obtain ⟨s1, s2⟩ := small_ok hs
        split at h
        · rename_i j hj
          obtain ⟨a1, _⟩ := ixN_seq hj
          split at h
          · rename_i y hy
            cases h
            obtain ⟨u, hu, ru⟩ := q.get hy
            obtain ⟨wd2, w2, x2⟩ := w.setL e (q.eraseIdx j)
            refine ⟨_, vs, i, j, u, rfl, rfl, e1, s1, s2, by rw [q.length]; exact a1, hu, k _ _ _ w2 x2 ?_⟩
            exact RV.ext (d := .pd y) x2 ru
          · cases h
        · cases h
      · cases h
    · cases h
  · cases h
def uClear : Val → List Val → M Val := fun o ds S => match o, ds with
  | .obj h, [] => match S[h]? with
    | some (.lst xs) => some (.pd .none, S.set h (.lst []))
    | _ => none
  | _, _ => none
theorem sm_clear : SimM K cl rClear uClear := fun wd S H x xs dx ds Q d S' w rx r h k => by
  unfold uClear at h
  split at h
  · rename_i hh
    obtain ⟨hi, rfl⟩ := rx
    cases r
    split at h
    · rename_i ys e
      obtain ⟨f, vs, e1, q⟩ := w.ob hh _ e
      cases h
      obtain ⟨wd2, w2, x2⟩ := w.setL e (.nil)
      exact ⟨_, vs, rfl, rfl, e1, k _ _ _ w2 x2 .non⟩
    · cases h
  · cases h
def uReverse : Val → List Val → M Val := fun o ds S => match o, ds with
  | .obj h, [] => match S[h]? with
    | some (.lst xs) => some (.pd .none, S.set h (.lst xs.reverse))
    | _ => none
  | _, _ => none
theorem sm_reverse : SimM K cl rReverse uReverse := fun wd S H x xs dx ds Q d S' w rx r h k => by
  unfold uReverse at h
  split at h
  · rename_i hh
    obtain ⟨hi, rfl⟩ := rx
    cases r
    split at h
    · rename_i ys e
      obtain ⟨f, vs, e1, q⟩ := w.ob hh _ e
      cases h
      obtain ⟨wd2, w2, x2⟩ := w.setL e q.reverse
      exact ⟨_, vs, rfl, rfl, e1, k _ _ _ w2 x2 .non⟩
    · cases h
  · cases h
/-- a list takes a tuple's items, whatever the tuple's object holds besides -/
theorem extend_tup (l : Addr) (items : Array Value) (n : Nat) (b : Addr) (its2 : Array Value) (n2 : Nat) (dd : Option Addr) (sl : Array (Option Value)) (hs0 : ¬(!items.isEmpty && Builtin.List.listTooLong (items.size + its2.size)) = true) (hs1 : items.size ≤ sizeLine) (hs2 : items.size + its2.size ≤ sizeLine + 1) :
    Meets (Builtin.«list.extend» ⟨[.ref l, .ref b], []⟩) (fun _ R s => s.heap.get? l = some { cls := .type "list", dict := none, data := .seq items n, slots := #[] } ∧ s.heap.get? b = some { cls := .type "tuple", dict := dd, data := .seq its2 n2, slots := sl } ∧ R (.ok (.ret Value.none)) { s with heap := s.heap.update l (Obj.mapSeq fun x => x ++ its2), toks := s.toks }) := by
  refine .of_wp fun prog w A R s h => ?_
  obtain ⟨hp, g, d, tk, os⟩ := s
  obtain ⟨hl, hb, h⟩ := h
  have q1 := AutoSeq1.sub_tuple_tuple
  have q2 := AutoSeq1.sub_list_list
  have q3 := AutoSeq1.sub_tuple_list
  have q4 := AutoSeq1.sub_list_tuple
  have hz : (items ++ its2).size ≤ sizeLine + 1 := by rw [Array.size_append]; exact hs2
  wp_walk using (wpAny_updateSeq hl rfl (hz := hs1) (_hz' := hz)), wpAny_loadPart' hl, wpAny_loadPart' hb
  exact ⟨_, rfl, h⟩
/-- l.extend(xs), xs a list or a tuple -/
def rExtendL (K : PySem.W.Frag) : V → List V → Hp → VK → Prop := fun x vs H Q => ∃ l b xs zs, x = .ref l ∧ vs = [.ref b] ∧ H l = some (.lst xs) ∧ (Rd H b (.lst zs) ∨ SqT K H b zs) ∧ xs.length + zs.length ≤ sizeLine ∧ Q .non (upd H l (.lst (xs ++ zs)))
theorem mt_extendL {X : Cx} : MtM X "list.extend" (rExtendL X.K) := by
  intro pins s σ H x vs v us Q I rx rv h
  obtain ⟨l, b, xs, zs, rfl, rfl, hH, hB, hz, q⟩ := h
  cases rx
  obtain ⟨u, rfl, ru⟩ := rv.one
  cases ru
  obtain ⟨z, its, n, r, hl, e⟩ := I.lstM hH
  rcases hB with hB | hB
  rotate_left
  · obtain ⟨its2, r2, ⟨o, e2, hc, n2, hd⟩, z2⟩ := I.tuple hB
    obtain ⟨oc, od, oda, os⟩ := o
    simp only at hc hd
    subst hc hd
    have hl2 := r2.length
    have hsz : its.toArray.size + its2.toArray.size ≤ sizeLine := by rw [List.size_toArray, List.size_toArray]; omega
    have hlong : ¬ (!its.toArray.isEmpty && Builtin.List.listTooLong (its.toArray.size + its2.toArray.size)) = true := by
      rw [notLongL hsz, Bool.and_false]
      exact Bool.false_ne_true
    refine call_meets F.slot_list_extend ⟨_, e, rfl⟩ F.entry_list_extend (F.args_list_extend_2 _ _)
      (extend_tup l its.toArray n b its2.toArray n2 od os hlong (by rw [List.size_toArray]; omega) (by rw [List.size_toArray, List.size_toArray]; omega)) ⟨e, e2, ?_⟩
    refine ⟨.non, _, I.lset (its' := its ++ its2) hH e (by simp) (r.append r2) ?_, rfl, q⟩
    rw [List.length_append]
    omega
  obtain ⟨z2, its2, n2, r2, e2⟩ := hB.ok I.hok
  have hl2 := r2.length
  have hsz : its.toArray.size + its2.toArray.size ≤ sizeLine := by rw [List.size_toArray, List.size_toArray]; omega
  have hlong : ¬ (!its.toArray.isEmpty && Builtin.List.listTooLong (its.toArray.size + its2.toArray.size)) = true := by
    rw [notLongL hsz, Bool.and_false]
    exact Bool.false_ne_true
  refine call_meets F.slot_list_extend ⟨_, e, rfl⟩ F.entry_list_extend (F.args_list_extend_2 _ _)
    (AutoSeq1.list_extend_list_list_0 l its.toArray n b its2.toArray n2 hlong (by rw [List.size_toArray]; omega) (by omega)) ⟨e, e2, ?_⟩
  refine ⟨.non, _, I.lset (its' := its ++ its2) hH e (by simp) (r.append r2) ?_, rfl, q⟩
  rw [List.length_append]
  omega
def uExtend : Val → List Val → M Val := fun o ds S => match o, ds with
  | .obj h, [.pd (.list ys)] => match S[h]? with
    | some (.lst xs) => if xs.length + ys.length ≤ 16777216 then some (.pd .none, S.set h (.lst (xs ++ ys))) else none
    | _ => none
  | .obj h, [.pd (.tuple ys)] => match S[h]? with
    | some (.lst xs) => if xs.length + ys.length ≤ 16777216 then some (.pd .none, S.set h (.lst (xs ++ ys))) else none
    | _ => none
  | .obj h, [.obj i] => match S[h]?, S[i]? with
    | some (.lst xs), some (.lst ys) => if xs.length + ys.length ≤ 16777216 then some (.pd .none, S.set h (.lst (xs ++ ys))) else none
    | _, _ => none
  | _, _ => none
theorem sm_extend : SimM K cl (rExtendL K) uExtend := fun wd S H x xs dx ds Q d S' w rx r h k => by
  unfold uExtend at h
  split at h
  · rename_i hh zs
    obtain ⟨hi, rfl⟩ := rx
    obtain ⟨v, rfl, rv⟩ := r.one_inv
    split at h
    · rename_i ys e
      obtain ⟨f, vs, e1, q⟩ := w.ob hh _ e
      split at h
      · rename_i hl
        cases h
        cases rv with
        | lst f2 q2 =>
          obtain ⟨wd2, w2, x2⟩ := w.setL e (q.append q2)
          exact ⟨_, _, vs, _, rfl, rfl, e1, .inl f2.1, by rw [q.length, q2.length, szl]; exact hl, k _ _ _ w2 x2 .non⟩
      · cases h
    · cases h
  · rename_i hh zs
    obtain ⟨hi, rfl⟩ := rx
    obtain ⟨v, rfl, rv⟩ := r.one_inv
    split at h
    · rename_i ys e
      obtain ⟨f, vs, e1, q⟩ := w.ob hh _ e
      split at h
      · rename_i hl
        cases h
        cases rv with
        | tup f2 q2 =>
          obtain ⟨wd2, w2, x2⟩ := w.setL e (q.append q2)
          exact ⟨_, _, vs, _, rfl, rfl, e1, .inr f2.sq, by rw [q.length, q2.length, szl]; exact hl, k _ _ _ w2 x2 .non⟩
      · cases h
    · cases h
  · rename_i hh j
    obtain ⟨hi, rfl⟩ := rx
    obtain ⟨v, rfl, rv⟩ := r.one_inv
    obtain ⟨hj, rfl⟩ := rv
    split at h
    · rename_i ys zs e e3
      obtain ⟨f, vs, e1, q⟩ := w.ob hh _ e
      obtain ⟨f3, us, e4, q3⟩ := w.ob j _ e3
      split at h
      · rename_i hl
        cases h
        obtain ⟨wd2, w2, x2⟩ := w.setL e (q.append q3)
        exact ⟨_, _, vs, us, rfl, rfl, e1, .inl (.inl e4), by rw [q.length, q3.length, szl]; exact hl, k _ _ _ w2 x2 .non⟩
      · cases h
    · cases h
  · cases h
end
section
variable {S : Store} {h : Nat} {xs : List PyData}
theorem ixN_nat {n k : Nat} (hk : k < n) : ixN n (k : Int) = some k := by
  rw [ixN_pos (by omega) (by omega)]
  rfl
theorem uPopAt_lst {k : Nat} {y : PyData} (e : S[h]? = some (.lst xs)) (hy : xs[k]? = some y) (hl : xs.length ≤ 16777216) : uPopAt (.obj h) [.pd (.int k)] S = some (.pd y, S.set h (.lst (xs.eraseIdx k))) := by
  obtain ⟨hk, _⟩ := List.getElem?_eq_some_iff.mp hy
  have s1 : small (k : Int) = true := by unfold small; simp; omega
  simp only [uPopAt, e, s1, if_true, ixN_nat hk, hy]
theorem uExtend_pd {ys : List PyData} (e : S[h]? = some (.lst xs)) (hl : xs.length + ys.length ≤ 16777216) : uExtend (.obj h) [.pd (.list ys)] S = some (.pd .none, S.set h (.lst (xs ++ ys))) := by
  simp only [uExtend, e, hl, if_true]
theorem uExtend_tup {ys : List PyData} (e : S[h]? = some (.lst xs)) (hl : xs.length + ys.length ≤ 16777216) : uExtend (.obj h) [.pd (.tuple ys)] S = some (.pd .none, S.set h (.lst (xs ++ ys))) := by
  simp only [uExtend, e, hl, if_true]
end
/-! a dict display with texts as keys -/
def DPs (X : Cx) (cl : Nat → Addr) (pos : Pos) (keys : List (Option Expr)) (values : List Expr) (ks : List Str) (fs : DEnv → M (List Val)) : Prop := ∃ trs, PPs X pos keys values trs ∧
  ∀ (wd : Wd) (σ : L2.St) (ρ : DEnv) (S : Store) (H : Hp) (Q : List (V × V) → Hp → Prop) (vs : List Val) (S' : Store), WR X.K cl wd S H → ER X.K wd S.length H σ ρ → fs ρ S = some (vs, S') →
    (∀ wd' us H', WR X.K cl wd' S' H' → Ext wd S H wd' S' H' → RVs X.K wd' S'.length H' us vs → us.length = ks.length → Q ((ks.map V.str).zip us) H') → tPairs trs σ H Q
section
variable {X : Cx} {cl : Nat → Addr} {pos : Pos}
theorem dps_nil : DPs X cl pos [] [] [] aNil := ⟨[], pps_nil, fun wd σ ρ S H Q vs S' w q h k => by
  cases h
  exact k wd [] H w .refl .nil rfl⟩
theorem dps_cons {ke ve : Expr} {s : Str} {fv : DEnv → M Val} {keys : List (Option Expr)} {values : List Expr} {ks : List Str} {fs : DEnv → M (List Val)} (hk : DE X cl ke (eC (.str s))) (hv : DE X cl ve fv) (hr : DPs X cl pos keys values ks fs) : DPs X cl pos (some ke :: keys) (ve :: values) (s :: ks) (aCons fv fs) := by
  obtain ⟨t1, p1, s1⟩ := hk
  obtain ⟨t2, p2, s2⟩ := hv
  obtain ⟨trs, p3, s3⟩ := hr
  refine ⟨(t1, t2) :: trs, pps_cons p1 p2 p3, fun wd σ ρ S H Q vs S' w q h k => ?_⟩
  obtain ⟨v, S1, h1, h⟩ := bindR_inv h
  obtain ⟨r, S2, h2, h⟩ := bindR_inv h
  cases h
  refine s1 wd σ ρ S H _ (.pd (.str s)) S w q rfl fun wd1 x1 H1 w1 e1 r1 => ?_
  obtain rfl := r1.str_inv
  refine s2 wd1 σ ρ S H1 _ v S1 w1 (q.ext e1) h1 fun wd2 x2 H2 w2 e2 r2 => ?_
  refine s3 wd2 σ ρ S1 H2 _ r _ w2 ((q.ext e1).ext e2) h2 fun wd3 us H3 w3 e3 r3 hl => ?_
  exact k wd3 (x2 :: us) H3 w3 ((e1.trans e2).trans e3) (.cons (r2.ext e3) r3) (by rw [List.length_cons, List.length_cons, hl])
def dispK (ks : List Str) (vs : List Val) : List (Key × Val) := (ks.zip vs).foldl (fun acc p => putKD acc (Sum.inr p.1) p.2) []
def eDisp (ks : List Str) (fs : DEnv → M (List Val)) : DEnv → M Val := fun ρ S => bindR (fs ρ (S ++ [.dK []])) fun vs S2 => match S2[S.length]? with
  | some (.dK []) => if ks.length ≤ 15 then some (.obj S.length, S2.set S.length (.dV (dispK ks vs))) else none
  | _ => none
theorem pkw_fold {R : V → Val → Prop} : ∀ {ks : List Str} {us : List V} {vs : List Val} {acc : List (Key × V)} {acd : List (Key × Val)}, Paired R us vs → PKW R acc acd → PKW R (mergeK acc ((ks.map Sum.inr).zip us)) ((ks.zip vs).foldl (fun acc p => putKD acc (Sum.inr p.1) p.2) acd)
  | [], _, _, _, _, _, h => h
  | _ :: _, _, _, _, _, .nil, h => h
  | k :: ks, _, _, _, _, .cons r t, h => pkw_fold (ks := ks) t (pk_put (k := Sum.inr k) r h)
theorem RVs.paired {K : PySem.W.Frag} {wd : Wd} {n : Nat} {H : Hp} : ∀ {us : List V} {vs : List Val}, RVs K wd n H us vs → Paired (RV K wd n H) us vs
  | _, _, .nil => .nil
  | _, _, .cons r t => .cons r (RVs.paired t)
theorem de_disp {keys : List (Option Expr)} {values : List Expr} {ks : List Str} {fs : DEnv → M (List Val)} (hp : DPs X cl pos keys values ks fs) (hall : keys.all (·.isSome) = true) (hl : keys.length = values.length) (h0 : keys ≠ []) (h15 : keys.length ≤ 15) : DE X cl (.Dict keys values pos) (eDisp ks fs) := by
  obtain ⟨trs, pp, ss⟩ := hp
  refine ⟨_, pe_disp pp hall hl h0 h15, fun wd σ ρ S H Q d S' w q h k p hpn => ?_⟩
  obtain ⟨wd2, w2, x2, r⟩ := w.newDK hpn
  obtain ⟨vs, S2, h1, h⟩ := bindR_inv h
  refine ss wd2 σ ρ _ _ _ vs S2 w2 (q.ext x2) h1 fun wd3 us H3 w3 x3 rs hu => ?_
  split at h
  · rename_i e
    split at h
    · rename_i h15'
      cases h
      obtain ⟨f, ks0, e1, pk⟩ := w3.ob _ _ e
      cases pk
      obtain ⟨hi, ep⟩ := r
      have ea : wd3.ad S.length = p := by
        rw [x3.ad _ (by simp)]
        exact (V.ref.inj ep).symm
      rw [ea] at e1
      have oa : Own wd3 S2.length (wd3.ad S.length) := .inr ⟨S.length, lt_of_get e, (f _).mpr rfl⟩
      have oa' : Own wd3 S2.length p := ea ▸ oa
      refine ⟨e1, (ks.map Sum.inr).zip us, ?_, ?_, ?_⟩
      · rw [List.map_zip_eq_zipWith]
        rw [List.zip_eq_zipWith, List.zipWith_map_left, List.zipWith_map_left]
        rfl
      · rw [List.length_zip, List.length_map]
        exact Nat.le_trans (Nat.min_le_left _ _) h15'
      · have pw : PKW (RV X.K wd3 S2.length (upd H3 p (.dK (mergeK [] ((ks.map Sum.inr).zip us))))) (mergeK [] ((ks.map Sum.inr).zip us)) (dispK ks vs) :=
          pkw_fold (Paired.mapP rs.paired fun x y z => z.upd oa') .nil
        have fin := w3.setS (o' := .dV (dispK ks vs)) (u := .dK (mergeK [] ((ks.map Sum.inr).zip us))) e (fun u z => by cases z) ((f _).mpr rfl) ⟨f, _, upd_same, by rw [ea]; exact pw⟩
        rw [ea] at fin
        refine k wd3 (.ref p) _ fin.1 ((x2.trans x3).trans fin.2) ⟨by rw [List.length_set]; exact lt_of_get e, by rw [ea]⟩
    · cases h
  · cases h
@[simp] theorem eDisp_e {ks : List Str} {fs : DEnv → M (List Val)} {ρ : DEnv} {S : Store} : eDisp ks fs ρ S = bindR (fs ρ (S ++ [.dK []])) fun vs S2 => (match S2[S.length]? with
  | some (.dK []) => if ks.length ≤ 15 then some (.obj S.length, S2.set S.length (.dV (dispK ks vs))) else none
  | _ => none) := rfl
/-- lists of objects, one behind the other -/
def uAddV : Val → Val → M Val := fun a b S => match getV a S, getV b S with
  | some xs, some ys => if xs.length + ys.length ≤ 16777216 then some (.obj S.length, S ++ [.lsv (xs ++ ys)]) else none
  | _, _ => none
theorem so_addV {K : PySem.W.Frag} : SimO K cl (rCatR K) uAddV := fun wd S H x y dx dy Q d S' w rx ry h k => by
  unfold uAddV at h
  split at h
  · rename_i xs ys e1 e2
    split at h
    · rename_i hl
      cases h
      obtain ⟨a, vs, rfl, f1, r1⟩ := w.getV rx e1
      obtain ⟨b, us, rfl, f2, r2⟩ := w.getV ry e2
      have l1 := r1.length
      have l2 := r2.length
      refine ⟨a, b, vs, us, rfl, rfl, f1, f2, by rw [szl, l1, l2]; exact hl, fun p hp => ?_⟩
      obtain ⟨wd2, w2, x2, r3⟩ := w.newLV (r1.append r2) hp
      exact k _ _ _ w2 x2 r3
    · cases h
  · cases h
end
end
end DM
set_option Elab.async false
set_option linter.all false
set_option maxRecDepth 100000
set_option maxHeartbeats 4000000
/-! DMRev: xs[::-1] -/
namespace DM
open PySem L2 PyProof.Rows
noncomputable section
def uRev : Val → M Val := fun d S => (getL d S).map fun xs => (.pd (.list xs.reverse), S)
section
variable {X : Cx} {cl : Nat → Addr}
theorem de_rev {e : Expr} {fe : DEnv → M Val} {k : Nat} {p1 p2 p3 pos : Pos} (he : DE X cl e fe) : DE X cl (.Subscript e (.Slice none none (some (.UnaryOp .USub (.Constant (.int 1) k p1) p2)) p3) pos) (eU uRev fe) := by
  obtain ⟨t, p, s⟩ := he
  refine ⟨_, pe_revL p, fun wd σ ρ S H Q d S' w q h k' => ?_⟩
  obtain ⟨x, S1, h1, h⟩ := bindR_inv h
  refine s wd σ ρ S H _ x S1 w q h1 fun wd1 v1 H1 w1 x1 r1 => ?_
  unfold uRev at h
  cases e : getL x S1 with
  | none => rw [e] at h; cases h
  | some xs =>
    rw [e] at h
    cases h
    obtain ⟨a, vs, rfl, f, r⟩ := w1.getL r1 e
    refine ⟨a, vs, rfl, f, fun p hp => ?_⟩
    obtain ⟨w2, x2, r2⟩ := w1.newF r.reverse hp
    exact k' _ _ _ w2 (x1.trans x2) r2
/-- is of truths -/
def uIsB : Val → Val → M Val := fun a b S => match a, b with
  | .pd (.bool i), .pd (.bool j) => some (.pd (.bool (decide (i = j))), S)
  | _, _ => none
def uIsNotB : Val → Val → M Val := fun a b S => match a, b with
  | .pd (.bool i), .pd (.bool j) => some (.pd (.bool (!decide (i = j))), S)
  | _, _ => none
theorem op_isB : OpR X (compareOp .Is) rIsB := op_isBl
theorem op_isnotB : OpR X (compareOp .IsNot) rNotB := op_notBl
theorem so_isB {K : PySem.W.Frag} : SimO K cl rIsB uIsB := fun wd S H x y dx dy Q d S' w rx ry h k => by
  unfold uIsB at h
  split at h
  · rename_i i j
    cases h
    exact ⟨i, j, rx.bool_inv, ry.bool_inv, k wd _ H w .refl (.bl _)⟩
  · cases h
theorem so_isnotB {K : PySem.W.Frag} : SimO K cl rNotB uIsNotB := fun wd S H x y dx dy Q d S' w rx ry h k => by
  unfold uIsNotB at h
  split at h
  · rename_i i j
    cases h
    exact ⟨i, j, rx.bool_inv, ry.bool_inv, k wd _ H w .refl (.bl _)⟩
  · cases h
/-- a new list that is told is frozen -/
def eFrz (fe : DEnv → M Val) : DEnv → M Val := fun ρ S => bindR (fe ρ S) fun d S1 => exitF S.length d S1
theorem de_frz {e : Expr} {fe : DEnv → M Val} (he : DE X cl e fe) : DE X cl e (eFrz fe) := by
  obtain ⟨t, p, s⟩ := he
  refine ⟨t, p, fun wd σ ρ S H Q d S' w q h k => ?_⟩
  obtain ⟨x, S1, h1, h⟩ := bindR_inv h
  refine s wd σ ρ S H Q x S1 w q h1 fun wd1 v1 H1 w1 x1 r1 => ?_
  obtain ⟨wd', w', x', r'⟩ := sim_exitF wd S H wd1 S1 H1 v1 x d S' w w1 x1 r1 h
  exact k wd' v1 H1 w' x' r'
end
@[simp] theorem uIsB_b {i j : Bool} {S : Store} : uIsB (.pd (.bool i)) (.pd (.bool j)) S = some (.pd (.bool (decide (i = j))), S) := rfl
@[simp] theorem uIsNotB_b {i j : Bool} {S : Store} : uIsNotB (.pd (.bool i)) (.pd (.bool j)) S = some (.pd (.bool (!decide (i = j))), S) := rfl
theorem eFrz_e {fe : DEnv → M Val} {ρ : DEnv} {S : Store} : eFrz fe ρ S = bindR (fe ρ S) fun d S1 => exitF S.length d S1 := rfl
@[simp] theorem uRev_list {xs : List PyData} {S : Store} : uRev (.pd (.list xs)) S = some (.pd (.list xs.reverse), S) := rfl
end
end DM
set_option Elab.async false
set_option linter.all false
set_option maxRecDepth 100000
set_option maxHeartbeats 4000000
/-! DMRng: range with a step -/
namespace DM
open PySem L2 PyProof.Rows
noncomputable section
def rgC (lo c : Int) (n : Nat) : List Val := (List.range n).map fun i => .pd (.int (lo + (i : Nat) * c))
def rgN (i j c : Int) : Nat := if i < j then ((j - i - 1) / c + 1).toNat else 0
def rgOk (i j c : Int) : Prop := (0 ≤ i ∧ i ≤ 1000000) ∧ (0 ≤ j ∧ j ≤ 1000000) ∧ 0 < c ∧ c ≤ 1000000
instance (i j c : Int) : Decidable (rgOk i j c) := inferInstanceAs (Decidable (_ ∧ _))
def rng3 (d e f : Val) : M Iter := fun S => match d, e, f with
  | .pd (.int i), .pd (.int j), .pd (.int c) => if rgOk i j c then some (⟨rgC i c (rgN i j c), none⟩, S) else none
  | _, _, _ => none
def iRng3 (f g h : DEnv → M Val) : DEnv → M Iter := fun ρ S => bindR (f ρ S) fun d S1 => bindR (g ρ S1) fun e S2 => bindR (h ρ S2) fun c S3 => rng3 d e c S3
theorem rgC_ok {i j c : Int} (h : rgOk i j c) : RgC i j c (rgN i j c) := by
  obtain ⟨⟨h1, h2⟩, ⟨h3, h4⟩, h5, h6⟩ := h
  have e : Builtin.Range.rangeSize i j c = (rgN i j c : Nat) ∧ rgN i j c ≤ 1000000 := by
    unfold Builtin.Range.rangeSize rgN
    rw [if_pos h5]
    by_cases hl : i < j
    · rw [if_pos hl, if_pos hl]
      have z0 : 0 ≤ (j - i - 1) / c := Int.ediv_nonneg (by omega) (by omega)
      have z1 : (j - i - 1) / c ≤ j - i - 1 := Int.ediv_le_self _ (by omega)
      omega
    · rw [if_neg hl, if_neg hl]
      exact ⟨rfl, by omega⟩
  refine ⟨by omega, by omega, ?_, e.1⟩
  unfold Builtin.Range.small
  rw [e.1]
  have := e.2
  simp only [Builtin.Range.rangeFitsLong, Bool.and_eq_true, Bool.or_eq_true, decide_eq_true_eq, beq_iff_eq, gt_iff_lt, h5, if_true]
  refine ⟨⟨⟨⟨?_, ?_⟩, ?_⟩, ?_⟩, ?_⟩ <;> omega
section
variable {X : Cx} {cl : Nat → Addr} {tg a b c : Expr} {f g h : DEnv → M Val} {p pos : Pos}
theorem itOk_rgC {K : PySem.W.Frag} {lo c : Int} {n : Nat} {wd : Wd} {S : Store} {H : Hp} : ItOk K cl (Itc lo c n) (rgC lo c n) wd S H := fun wd' S' H' w x => by
  have hl : (rgC lo c n).length = n := by simp [rgC]
  refine ⟨by rw [hl]; exact Nat.le_refl _, fun i hi => ?_⟩
  rw [hl] at hi
  refine ⟨hi, fun y H'' yl => ?_⟩
  obtain ⟨rfl, rfl⟩ := yl
  exact ⟨.pd (.int (lo + (i : Nat) * c)), by simp [rgC, hi], w, .refl, .int _⟩
theorem di_rng3 (hg : Gl X "range") (hm : X.mg "range" = none) (ha : DE X cl a f) (hb : DE X cl b g) (hc : DE X cl c h) (hs : starEach [a, b, c] X.env = (false, eval a X.env) :: starEach [b, c] X.env := by rfl) (hs1 : starEach [b, c] X.env = [(false, eval b X.env), (false, eval c X.env)] := by rfl) (hs2 : starEach [c] X.env = [(false, eval c X.env)] := by rfl) :
    DI X cl tg (.Call (.Name "range" p) [a, b, c] [] pos) (DM.iRng3 f g h) := by
  obtain ⟨t, pa, s⟩ := ha
  obtain ⟨t', pb, s'⟩ := hb
  obtain ⟨t2, pc, s2⟩ := hc
  refine ⟨_, pi_range3 hg hm (pa_cons pa (pa_cons pb (pa_cons pc pa_nil (by rw [hs2]; rfl)) (by rw [hs1, hs2])) hs) hs (by rw [hs1]; rfl), fun wd σ ρ S H R it S' w q hh k => ?_⟩
  obtain ⟨d, S1, h1, hh⟩ := bindR_inv hh
  obtain ⟨d2, S2, h2, hh⟩ := bindR_inv hh
  obtain ⟨d3, S3, h3, hh⟩ := bindR_inv hh
  refine s wd σ ρ S H _ d S1 w q h1 fun wd1 v1 H1 w1 x1 r1 => ?_
  refine s' wd1 σ ρ S1 H1 _ d2 S2 w1 (q.ext x1) h2 fun wd2 v2 H2 w2 x2 r2 => ?_
  refine s2 wd2 σ ρ S2 H2 _ d3 S3 w2 ((q.ext x1).ext x2) h3 fun wd3 v3 H3 w3 x3 r3 => ?_
  unfold rng3 at hh
  split at hh
  · split at hh
    · rename_i hj
      cases hh
      obtain rfl := r1.int_inv
      obtain rfl := r2.int_inv
      obtain rfl := r3.int_inv
      exact ⟨_, _, _, _, rfl, rgC_ok hj, k wd3 _ H3 _ w3 ((x1.trans x2).trans x3) rfl w3 itOk_rgC⟩
    · cases hh
  · cases hh
theorem lk_rng3 : ∀ ρ S it S', DM.iRng3 f g h ρ S = some (it, S') → ∀ hh o, it.lk = some (hh, o) → (∃ xs, o = Ob.lst xs) ∨ ∃ xs, o = Ob.lsv xs := fun ρ S it S' h0 hh o e => by
  obtain ⟨d, S1, h1, h0⟩ := bindR_inv h0
  obtain ⟨d2, S2, h2, h0⟩ := bindR_inv h0
  obtain ⟨d3, S3, h3, h0⟩ := bindR_inv h0
  unfold rng3 at h0
  split at h0
  · split at h0
    · cases h0; cases e
    · cases h0
  · cases h0
end
@[simp] theorem iRng3_e {f g h : DEnv → M Val} {ρ : DEnv} {S : Store} : DM.iRng3 f g h ρ S = bindR (f ρ S) fun d S1 => bindR (g ρ S1) fun e S2 => bindR (h ρ S2) fun c S3 => rng3 d e c S3 := rfl
theorem rng3_int {i j c : Int} {S : Store} (hh : rgOk i j c) : rng3 (.pd (.int i)) (.pd (.int j)) (.pd (.int c)) S = some (⟨rgC i c (rgN i j c), none⟩, S) := if_pos hh
end
end DM
set_option Elab.async false
set_option linter.all false
set_option maxRecDepth 100000
set_option maxHeartbeats 4000000
/-! DMSet: d.pop(k, x), dict(pairs), len(set(xs)), min(xs), sorted(d) -/
namespace DM
open PySem PySem.Spec L2 PyProof.Rows
noncomputable section
/-! d.pop(k, x) -/
def uPop2 (S1 : Store) (x y z : Val) : M Val := fun S => match x, y with
  | .obj h, .pd d => match S1[h]?, S[h]? with
    | some (.dK _), some (.dK kvs) => (toKey d).bind fun k => match valD kvs k with
      | some v => some (.pd v, S.set h (.dK (dropKD kvs k)))
      | none => some (z, S)
    | _, _ => none
  | _, _ => none
def ePop2 (fo fe fz : DEnv → M Val) : DEnv → M Val := fun ρ S => bindR (fo ρ S) fun x S1 => bindR (fe ρ S1) fun y S2 => bindR (fz ρ S2) fun z S3 => uPop2 S1 x y z S3
section
variable {X : Cx} {cl : Nat → Addr} {o e f : Expr} {fo fe fz : DEnv → M Val} {apos cpos : Pos}
theorem de_pop2 (ho : DE X cl o fo) (he : DE X cl e fe) (hf : DE X cl f fz) (m : M2 X o "pop" apos e f cpos := by exact ⟨rfl, rfl, rfl, rfl⟩) : DE X cl (.Call (.Attribute o "pop" apos) [e, f] [] cpos) (ePop2 fo fe fz) := by
  obtain ⟨t1, p1, s1⟩ := ho
  obtain ⟨t2, p2, s2⟩ := he
  obtain ⟨t3, p3, s3⟩ := hf
  refine ⟨_, pe_dpop2 p1 p2 p3 m, fun wd σ ρ S H Q d S' w q h k => ?_⟩
  obtain ⟨x, S1, h1, ha⟩ := bindR_inv h
  obtain ⟨y, S2, h2, hb⟩ := bindR_inv ha
  obtain ⟨z, S3, h3, hz⟩ := bindR_inv hb
  clear h ha hb
  refine s1 wd σ ρ S H _ x S1 w q h1 fun wd1 v1 H1 w1 x1 r1 => ?_
  unfold uPop2 at hz
  split at hz
  · rename_i hh d0
    split at hz
    · rename_i k0 kvs g1 g2
      obtain ⟨hi, rfl⟩ := r1
      obtain ⟨f1, ks1, ob1, _⟩ := w1.ob hh _ g1
      refine ⟨_, rfl, .inl ⟨_, .inl ob1⟩, ?_⟩
      refine s2 wd1 σ ρ S1 H1 _ _ S2 w1 (q.ext x1) h2 fun wd2 v2 H2 w2 x2 r2 => ?_
      refine s3 wd2 σ ρ S2 H2 _ z S3 w2 ((q.ext x1).ext x2) h3 fun wd3 v3 H3 w3 x3 r3 => ?_
      obtain ⟨kk, hk, hy⟩ := Option.bind_eq_some_iff.mp hz
      obtain ⟨f3, ks3, ob3, pk⟩ := w3.ob hh _ g2
      have ea : wd1.ad hh = wd3.ad hh := by
        rw [x3.ad hh (Nat.lt_of_lt_of_le hi x2.len), x2.ad hh hi]
      rw [ea]
      refine ⟨ks3, kk, ob3, toKey_ok r2 hk, fun v hv => ?_, fun hv => ?_⟩
      · rcases pk_val (k := kk) pk with ⟨b, _⟩ | ⟨a, b, za, zb, rr⟩
        · rw [b] at hv
          cases hv
        · rw [zb] at hy
          cases hy
          rw [za] at hv
          cases hv
          have oa : Own wd3 S3.length (wd3.ad hh) := .inr ⟨hh, lt_of_get g2, (f3 _).mpr rfl⟩
          obtain ⟨w4, x4⟩ := w3.setS (o' := .dK (dropKD kvs kk)) (u := .dK (dropK ks3 kk)) g2 (fun u z => by cases z) ((f3 _).mpr rfl) ⟨f3, _, upd_same, PKV.mono (fun _ _ z => Rp.upd oa z) (pk_drop pk)⟩
          exact k wd3 _ _ w4 (((x1.trans x2).trans x3).trans x4) (RV.ext (d := .pd _) x4 rr)
      · rcases pk_val (k := kk) pk with ⟨_, b⟩ | ⟨a, b, za, zb, rr⟩
        · rw [b] at hy
          cases hy
          exact k wd3 _ _ w3 ((x1.trans x2).trans x3) r3
        · rw [za] at hv
          cases hv
    · cases hz
  · cases hz
end
@[simp] theorem ePop2_e {fo fe fz : DEnv → M Val} {ρ : DEnv} {S : Store} : ePop2 fo fe fz ρ S = bindR (fo ρ S) fun x S1 => bindR (fe ρ S1) fun y S2 => bindR (fz ρ S2) fun z S3 => uPop2 S1 x y z S3 := rfl
/-! min(xs) -/
def minL : List Int → Int
  | [] => 0
  | x :: xs => xs.foldl min x
theorem minL_aux : ∀ (xs : List Int) (x : Int), xs.foldl min x ∈ x :: xs ∧ ∀ y ∈ x :: xs, xs.foldl min x ≤ y
  | [], x => ⟨List.mem_cons_self .., fun y h => by
    simp at h
    show x ≤ y
    omega⟩
  | z :: xs, x => by
    obtain ⟨a, b⟩ := minL_aux xs (min x z)
    rw [List.foldl_cons]
    refine ⟨?_, fun y h => ?_⟩
    · rcases List.mem_cons.mp a with h | h
      · rw [h]
        rcases Int.le_total x z with c | c
        · rw [Int.min_eq_left c]; exact List.mem_cons_self ..
        · rw [Int.min_eq_right c]; exact List.mem_cons_of_mem _ (List.mem_cons_self ..)
      · exact List.mem_cons_of_mem _ (List.mem_cons_of_mem _ h)
    · have hm := b (min x z) (List.mem_cons_self ..)
      rcases List.mem_cons.mp h with h | h
      · omega
      · rcases List.mem_cons.mp h with h | h
        · omega
        · exact b y (List.mem_cons_of_mem _ h)
def uMin1 : List Val → M Val := fun ds S => match ds with
  | [d] => (getL d S).bind fun xs => (allInt xs).bind fun ns => if ns = [] then none else some (.pd (.int (minL ns)), S)
  | _ => none
theorem sc_min1 {K : PySem.W.Frag} {cl : Nat → Addr} : SimC K cl (rMin K) uMin1 := fun wd S H xs ds Q d S' w r h k => by
  unfold uMin1 at h
  split at h
  · rename_i d0
    obtain ⟨ys, e, ha⟩ := Option.bind_eq_some_iff.mp h
    obtain ⟨ns, e2, hz⟩ := Option.bind_eq_some_iff.mp ha
    clear h ha
    obtain ⟨v, rfl, r1⟩ := r.one_inv
    obtain ⟨a, vs, rfl, f, q⟩ := w.getL r1 e
    have := allInt_eq e2
    subst this
    obtain rfl := q.ints
    split at hz
    · cases hz
    · rename_i hne
      cases hz
      refine ⟨a, ns, rfl, f, by cases ns with | nil => exact absurd rfl hne | cons => simp, fun m hm hle => ?_⟩
      have : m = minL ns := by
        cases ns with
        | nil => exact absurd rfl hne
        | cons x xs =>
          obtain ⟨z1, z2⟩ := minL_aux xs x
          have a1 := hle _ z1
          have a2 := z2 m hm
          show m = xs.foldl min x
          omega
      rw [this]
      exact k wd _ H w .refl (.int _)
  · cases h
/-! dict(pairs) -/
def allKV : List PyData → Option (List (Key × PyData))
  | [] => some []
  | .tuple [a, b] :: r => (toKey a).bind fun k => (allKV r).map ((k, b) :: ·)
  | _ :: _ => none
def mergeD (acc more : List (Key × PyData)) : List (Key × PyData) := more.foldl (fun acc kv => putKD acc kv.1 kv.2) acc
def uDictOf : List Val → M Val := fun ds S => match ds with
  | [d] => (getL d S).bind fun xs => (allKV xs).map fun kvs => (.obj S.length, S ++ [.dK (mergeD [] kvs)])
  | _ => none
theorem allKV_ok {K : PySem.W.Frag} {H : Hp} {O : Addr → Prop} : ∀ {ds : List PyData} {vs : List V} {kvs : List (Key × PyData)}, RpAll K H O vs ds → allKV ds = some kvs →
    ∃ (ps : List Addr) (ks : List (Key × V)), vs = ps.map V.ref ∧ Paired (fun p kv => SqT K H p [kV kv.1, kv.2]) ps ks ∧ PKV (Rp K H O) ks kvs
  | [], _, kvs, .nil, h => by
    cases h
    exact ⟨[], [], rfl, .nil, .nil⟩
  | d :: r, _, kvs, .cons r1 t, h => by
    unfold allKV at h
    split at h
    · rename_i e; cases e
    · rename_i a b r' e
      cases e
      obtain ⟨k, hk, h⟩ := Option.bind_eq_some_iff.mp h
      obtain ⟨ks', h2, rfl⟩ := Option.map_eq_some_iff.mp h
      obtain ⟨ps, ks, rfl, p1, p2⟩ := allKV_ok t h2
      cases r1 with
      | tup f q =>
        cases q with
        | cons ra q =>
          cases q with
          | cons rb q =>
            cases q
            have ek := toKey_ok ra hk
            subst ek
            exact ⟨_ :: ps, (k, _) :: ks, rfl, .cons f.sq p1, .cons ⟨rfl, rb⟩ p2⟩
    · cases h
theorem pkv_merge {R : V → PyData → Prop} : ∀ {ks : List (Key × V)} {kvs : List (Key × PyData)} {acc : List (Key × V)} {acd : List (Key × PyData)}, PKV R ks kvs → PKV R acc acd → PKV R (mergeK acc ks) (mergeD acd kvs)
  | _, _, _, _, .nil, h => h
  | (k, v) :: ks, (k', d) :: kvs, acc, acd, .cons ⟨e, r⟩ t, h => by
    dsimp only at e r
    subst e
    exact pkv_merge (acc := putK acc k v) (acd := putKD acd k d) t (pk_put r h)
def rDictP (K : PySem.W.Frag) : List V → Hp → VK → Prop := fun xs H Q => ∃ (a : Addr) (ps : List Addr) (kvs : List (Key × V)), xs = [.ref a] ∧ SqL K H a (ps.map V.ref) ∧ Paired (fun p kv => SqT K H p [kV kv.1, kv.2]) ps kvs ∧
  ∀ p, H p = none → Q (.ref p) (upd H p (.dK (mergeK [] kvs)))
theorem sc_dictOf {K : PySem.W.Frag} {cl : Nat → Addr} : SimC K cl (rDictP K) uDictOf := fun wd S H xs ds Q d S' w r h k => by
  unfold uDictOf at h
  split at h
  · rename_i d0
    obtain ⟨ys, e, h⟩ := Option.bind_eq_some_iff.mp h
    obtain ⟨kvs, e2, h⟩ := Option.map_eq_some_iff.mp h
    cases h
    obtain ⟨v, rfl, r1⟩ := r.one_inv
    obtain ⟨a, vs, rfl, f, q⟩ := w.getL r1 e
    obtain ⟨ps, ks, rfl, p1, p2⟩ := allKV_ok q e2
    refine ⟨a, ps, ks, rfl, f, p1, fun p hp => ?_⟩
    have hk := upd_keeps (o := .dK (mergeK [] ks)) hp
    have no : ∀ b, ¬ Own wd S.length b ∨ True := fun _ => .inr trivial
    obtain ⟨w2, x2⟩ := w.push (o := .dK (mergeD [] kvs)) (p := p) (f := fun b => b = p) hk (fun b hb => by subst hb; exact ⟨hp, _, upd_same⟩) ⟨fun b => Iff.rfl, _, upd_same, pkv_merge (PKV.mono (fun v d z => Rp.mono (fun b o e n => ⟨hk b o e, by
      rw [push_own]
      rintro (z | z)
      · exact n z
      · subst z; rw [hp] at e; cases e⟩) d v z) p2) .nil⟩
    exact k _ _ _ w2 x2 ⟨by simp, by simp [Wd.push]⟩
  · cases h
theorem cr_dictOf {X : Cx} (hc : X.calm = true) : CallR X (.type "dict") (rDictP X.K) := call_dictP hc
/-! len(set(xs)), xs whole numbers -/
def nub (ns : List Int) : List Int := ns.foldl step_dedup []
theorem first_take (ns : List Int) : ∀ i, i ≤ ns.length → firstMet (fun i => ns.getD i 0) i = nub (ns.take i)
  | 0, _ => rfl
  | i + 1, h => by
    rw [firstMet_succ, first_take ns i (by omega), List.take_add_one]
    unfold nub
    rw [List.foldl_append, List.getD_eq_getElem?_getD, List.getElem?_eq_getElem (show i < ns.length by omega)]
    rfl
def SetI (P : Program) (w : World) (a : Addr) (S : Int → Bool) (n : Nat) : HO := .ext fun h => h.SetOf (intKind P w) a S n
theorem setI_new {w : World} {P : Program} {H : Hp} {h : Heap} {a : Addr} {S : Int → Bool} {n : Nat} (R : h.SetOf (intKind P w) a S n) : ObjOk P w H h a (SetI P w a S n) := by
  have ⟨o, es, ep, t, ho, r⟩ := R
  exact ⟨R, ⟨o, ho⟩, fun h1 h2 p k => by
    have ⟨o, es, ep, t, ho, r⟩ := (show h1.SetOf (intKind P w) a S n from p)
    exact ⟨o, es, ep, t, k o ho, r⟩⟩
def rSetOfI (K : PySem.W.Frag) (P : Program) (w : World) : List V → Hp → VK → Prop := fun xs H Q => ∃ (l : Addr) (ns : List Int), xs = [.ref l] ∧ SqL K H l (ns.map V.int) ∧ ns.length < 4000 ∧
  ∀ a S, H a = none → Q (.ref a) (upd H a (SetI P w a S (nub ns).length))
theorem cr_setOfI {X : Cx} (hc : X.calm = true) : CallR X (.type "set") (rSetOfI X.K X.prog X.w) := by
  intro pins s σ H xs us Q I r h
  obtain ⟨l, ns, rfl, hl, hn, q⟩ := h
  obtain ⟨its, rv, pl, hz⟩ := I.list hl
  rw [Vals.ref1 r]
  have lz : its.toArray.size = ns.length := by
    have := rv.length
    rw [List.length_map] at this
    rw [List.size_toArray]
    omega
  have hb : its.toArray.size + 1 < scanBound := by
    rw [lz]
    show ns.length + 1 < 4096
    omega
  refine call_set_list (I.ok.hd hc) pl.isList rv.ints hb fun h' tk S k => ?_
  rw [lz, first_take ns _ (Nat.le_refl _), List.take_length] at S
  exact ⟨.ref s.heap.objs.size, upd H s.heap.objs.size (SetI X.prog X.w s.heap.objs.size _ (nub ns).length), I.laid (t' := tk) (fun b o e => k b o (Heap.lt_size e) e) (Nat.le_refl _) (setI_new S), rfl, q _ _ (I.hok.fresh (Nat.le_refl _))⟩
def rLenI (P : Program) (w : World) : List V → Hp → VK → Prop := fun xs H Q => ∃ (a : Addr) (S : Int → Bool) (n : Nat), xs = [.ref a] ∧ H a = some (SetI P w a S n) ∧ n ≤ 5000 ∧ Q (.int (n : Nat)) H
theorem cr_lenI {X : Cx} : CallR X (.builtin "len") (rLenI X.prog X.w) := by
  intro pins s σ H xs us Q I r h
  obtain ⟨a, S, n, rfl, ha, hn, q⟩ := h
  rw [Vals.ref1 r]
  obtain ⟨o, es, ep, t, ho, hx, hd, _, _, _, hf, hs⟩ : s.heap.SetOf (intKind X.prog X.w) a S n := (I.hok a _ ha).1
  subst hs
  exact call_len_set ho hx hd hf (by omega) ⟨.int (es.size : Nat), H, I.tok _, ⟨_, rfl⟩, q⟩
def uLenSet : Val → M Val := fun d S => (getL d S).bind fun xs => (allInt xs).bind fun ns => if ns.length < 4000 then some (.pd (.int ((nub ns).length : Nat)), S) else none
theorem nub_le : ∀ (ns acc : List Int), (ns.foldl step_dedup acc).length ≤ acc.length + ns.length
  | [], acc => by simp
  | n :: ns, acc => by
    have := nub_le ns (step_dedup acc n)
    rw [List.foldl_cons, List.length_cons]
    have l : (step_dedup acc n).length ≤ acc.length + 1 := by
      unfold step_dedup
      split
      · omega
      · simp
    omega
section
variable {X : Cx} {cl : Nat → Addr} {e : Expr} {fe : DEnv → M Val} {p p2 pos pos2 : Pos}
theorem de_lenSet (hc : X.calm = true) (he : DE X cl e fe) (hg : Gl X "len") (hm : X.mg "len" = none) (hv : bootBuiltins "len" = some (.builtin "len")) (hg2 : Gl X "set") (hm2 : X.mg "set" = none) (hv2 : bootBuiltins "set" = some (.type "set") := by decide +kernel)
    (hs : starEach [.Call (.Name "set" p2) [e] [] pos2] X.env = (false, eval (.Call (.Name "set" p2) [e] [] pos2) X.env) :: starEach [] X.env := by rfl)
    (hs2 : starEach [e] X.env = (false, eval e X.env) :: starEach [] X.env := by rfl) :
    DE X cl (.Call (.Name "len" p) [.Call (.Name "set" p2) [e] [] pos2] [] pos) (eU uLenSet fe) := by
  obtain ⟨t1, p1, s1⟩ := he
  have ps := pe_callTy (p := p2) (pos := pos2) (cr_setOfI hc) hg2 hm2 hv2 (pa_cons p1 pa_nil hs2) (by decide) (by decide) hs2 (by rfl)
  refine ⟨_, pe_callB cr_lenI hg hm hv (pa_cons ps pa_nil hs) (by decide) (by decide) hs (by rfl), fun wd σ ρ S H Q d S' w q h k => ?_⟩
  obtain ⟨x, S1, h1, hz⟩ := bindR_inv h
  clear h
  refine s1 wd σ ρ S H _ x S1 w q h1 fun wd1 v1 H1 w1 x1 r1 => ?_
  obtain ⟨xs, e1, hz⟩ := Option.bind_eq_some_iff.mp hz
  obtain ⟨ns, e2, hz⟩ := Option.bind_eq_some_iff.mp hz
  split at hz
  · rename_i hl
    cases hz
    obtain ⟨a, vs, rfl, f, qq⟩ := w1.getL r1 e1
    have := allInt_eq e2
    subst this
    obtain rfl := qq.ints
    refine ⟨a, ns, rfl, f, hl, fun b S2 hb => ?_⟩
    refine ⟨b, S2, _, rfl, upd_same, ?_, ?_⟩
    · have := nub_le ns []
      unfold nub
      simp at this
      omega
    · have hk := upd_keeps (o := SetI X.prog X.w b S2 (nub ns).length) hb
      exact k wd1 _ _ (w1.mono_all hk) (x1.trans (Ext.all w1 hk)) (.int _)
  · cases hz
end
/-! sorted(d), the keys whole numbers -/
def rSortD : List V → Hp → VK → Prop := fun xs H Q => ∃ (a : Addr) (kvs : List (Key × V)) (ks : List Int), xs = [.ref a] ∧ H a = some (.dK kvs) ∧ kvs.map (·.1) = ks.map Sum.inl ∧
  ∀ (ys : List Int) (p : Addr), ys.Perm ks → ys.Pairwise (· ≤ ·) → H p = none → Q (.ref p) (upd H p (.lst (ys.map V.int)))
theorem cr_sortD {X : Cx} (calm : X.calm = true) : CallR X (.builtin "sorted") rSortD := by
  intro pins s σ H xs us Q I r q
  obtain ⟨a, kvs, ks, rfl, hd, hks, q⟩ := q
  rw [Vals.ref1 r]
  obtain ⟨size, room, rows, rel, there⟩ := dk_rd I.hok (.inl hd)
  obtain ⟨epoch, hat⟩ := there.dictAt
  have keys : rows.map (·.1) = ks.map Sum.inl := rel.keys.symm.trans hks
  have many : rows.length = ks.length := by
    have z := congrArg List.length keys
    simpa using z
  have fits : rows.length ≤ sizeLine := by rw [← rel.length]; exact size
  refine Calls.call_function_entry kind_sorted plain_sorted entry_sorted (args_sorted1 _) ?_
  unfold Builtin.«sorted»
  refine wpAny_bind (m := checkCount "sorted" 1 1 _) (wpAny_pure (wpAny_bind (PySem.W.kdu_collect (A := X.A.in1) (PySem.W.kdl_dict (knd := mixKind X.prog X.w) (kvs := rows) (ep := epoch) room) (I.ok.hd calm) hat fits fun heap tk got kept each => ?_)))
  have gl : got.toList.length = ks.length := by rw [Array.length_toList, each.1, many]
  have allN : IntsAre got.toList ks := ints_each gl fun j v ev => by
    obtain ⟨k, x, e1, e2⟩ := each.2 j v (by rw [← Array.getElem?_toList]; exact ev)
    have e3 : (ks.map (Sum.inl : Int → Key))[j]? = some k := by rw [← keys, List.getElem?_map, e1]; rfl
    rw [List.getElem?_map] at e3
    obtain ⟨y, ey, rfl⟩ := Option.map_eq_some_iff.mp e3
    rcases keyIs_shape (show keyIs (Sum.inl y) v = true from e2) with ⟨i, t, ek, rfl⟩ | ⟨z, t, ek, _⟩
    · cases ek
      exact ⟨y, t, ey, rfl⟩
    · cases ek
  have J : Inv X pins σ H { s with heap := heap, toks := tk } := I.kept kept
  have sz : got.toList.length ≤ sizeLine := by rw [gl, ← many]; exact fits
  refine wpAny_bind (wpAny_newList ?_ sz)
  have new : (heap.push (seqObj "list" got.toList.toArray 0)).get? heap.objs.size = some (seqObj "list" got.toList.toArray 0) := Heap.get?_push_size _ rfl
  show wpAny _ _ _ _ _ { s with heap := heap.push (seqObj "list" got.toList.toArray 0), toks := tk }
  refine wpAny_bind (wpAny_holding (wpAny_call_entry slot_list_sort ⟨_, new, rfl⟩ entry_list_sort
    (SrtO.list_sort_ord (s := { s with heap := heap.push (seqObj "list" got.toList.toArray 0), toks := tk }) SrtO.swo_int new sz (fun two => SrtO.ints_sortable allN two) fun out o1 o2 => ⟨_, rfl, ?_⟩) (args_list_sort _)))
  obtain ⟨k1, k2, k3⟩ := SrtO.ints_out allN o1 o2
  obtain ⟨e', he'⟩ := sortedHeap_at (vs := got.toList) (out := out.toArray) new
  have hlen : ((out.map SrtO.iv).map V.int).length ≤ sizeLine := by
    rw [List.length_map, k2.length_eq, ← gl]
    exact sz
  refine wpAny_pure ⟨_, rfl, .ref heap.objs.size, upd H heap.objs.size (.lst ((out.map SrtO.iv).map V.int)), J.laid (t' := tk) (fun b u hb => ?_) (Nat.le_refl _) ⟨hlen, out, e', vals_of_ints k1, he'⟩, rfl, q _ _ k2 k3 (J.hok.fresh (Nat.le_refl _))⟩
  have lt := Heap.lt_size hb
  rw [sortedHeap_old (Nat.ne_of_lt lt) (by rw [size_push']; exact Nat.lt_succ_of_lt lt)]
  exact Heap.get?_push_of_some _ hb
def allI : List (Key × PyData) → Option (List Int)
  | [] => some []
  | (.inl i, _) :: r => (allI r).map (i :: ·)
  | (.inr _, _) :: _ => none
theorem allI_ok : ∀ (kvs : List (Key × PyData)) (ns : List Int), allI kvs = some ns → kvs.map (·.1) = ns.map Sum.inl
  | [], _, h => by cases h; rfl
  | (.inl i, d) :: r, ns, h => by
    obtain ⟨ms, h2, e⟩ := Option.map_eq_some_iff.mp (show (allI r).map (i :: ·) = some ns from h)
    have ih := allI_ok r ms h2
    subst e
    simp [ih]
  | (.inr _, _) :: _, _, h => by cases h
theorem pkv_keys {R : V → PyData → Prop} : ∀ {ks : List (Key × V)} {kvs : List (Key × PyData)}, PKV R ks kvs → ks.map (·.1) = kvs.map (·.1)
  | _, _, .nil => rfl
  | _, _, .cons z t => by simp [z.1, pkv_keys t]
def uSortD : List Val → M Val := fun ds S => match ds with
  | [.obj h] => match S[h]? with
    | some (.dK kvs) => (allI kvs).map fun ns => (.pd (.list ((sortI ns).map PyData.int)), S)
    | _ => none
  | _ => none
theorem sc_sortD {K : PySem.W.Frag} {cl : Nat → Addr} : SimC K cl rSortD uSortD := fun wd S H xs ds Q d S' w r h k => by
  unfold uSortD at h
  split at h
  · rename_i hh
    split at h
    · rename_i kvs e
      obtain ⟨ns, e2, h⟩ := Option.map_eq_some_iff.mp h
      cases h
      obtain ⟨v, rfl, r1⟩ := r.one_inv
      obtain ⟨hi, rfl⟩ := r1
      obtain ⟨f, ks, e1, pk⟩ := w.ob hh _ e
      have ek := pkv_keys pk
      refine ⟨_, ks, ns, rfl, e1, ek.trans (allI_ok _ _ e2), fun ys p h1 h2 hp => ?_⟩
      have ee := sortI_uniq h1 h2
      subst ee
      have ri : RpAll K H (Own wd S.length) ((sortI ns).map V.int) ((sortI ns).map PyData.int) := by
        generalize sortI ns = zs
        induction zs with
        | nil => exact .nil
        | cons z zs ih => exact .cons (.int z) ih
      obtain ⟨w2, x2, r2⟩ := w.newF ri hp
      exact k _ _ _ w2 x2 r2
    · cases h
  · cases h
end
end DM
set_option Elab.async false
set_option linter.all false
set_option maxRecDepth 100000
set_option maxHeartbeats 4000000
/-! DMSet2: d == {}; d.get(k, x) -/
namespace DM
open PySem PySem.Spec L2 PyProof.Rows
noncomputable section
section
variable {X : Cx} {cl : Nat → Addr}
def rEq0 : R2 := fun x y H Q => ∃ a b ks, x = .ref a ∧ y = .ref b ∧ H a = some (.dK ks) ∧ H b = some (.dK []) ∧ Q (.bl (ks.length == 0)) H
def rNe0 : R2 := fun x y H Q => ∃ a b ks, x = .ref a ∧ y = .ref b ∧ H a = some (.dK ks) ∧ H b = some (.dK []) ∧ Q (.bl (!(ks.length == 0))) H
theorem hits0 {A : Around} {s : Shared} {ka kb : List (Key × Value)} (hb : kb.length = 0) : ka.length = kb.length → PySem.W.KeqHits A s kb ka true := fun e => by
  have : ka = [] := List.length_eq_zero_iff.mp (e.trans hb)
  subst this
  exact .nil
theorem op_eq0 (hu : X.A.units + 1 < cLine) : OpR X (compareOp .Eq) rEq0 := by
  intro pins s σ H x y v u Q I rx ry h
  obtain ⟨a, b, ks, rfl, rfl, ea, eb, q⟩ := h
  obtain rfl : v = Value.ref a := rx
  obtain rfl : u = Value.ref b := ry
  obtain ⟨_, ya, va, ra, da⟩ := I.hok a _ ea
  obtain ⟨_, yb, vb, rb, db⟩ := I.hok b _ eb
  have lb : vb.length = 0 := by rw [← rb.length]; rfl
  exact PySem.W.keq_eq (knd := mixKind X.prog X.w) (r := true) ya yb da db (by omega) (hits0 lb) (fin_bl I q (by rw [lb, ← ra.length, Bool.and_true]))
theorem op_ne0 (hu : X.A.units + 1 < cLine) : OpR X (compareOp .NotEq) rNe0 := by
  intro pins s σ H x y v u Q I rx ry h
  obtain ⟨a, b, ks, rfl, rfl, ea, eb, q⟩ := h
  obtain rfl : v = Value.ref a := rx
  obtain rfl : u = Value.ref b := ry
  obtain ⟨_, ya, va, ra, da⟩ := I.hok a _ ea
  obtain ⟨_, yb, vb, rb, db⟩ := I.hok b _ eb
  have lb : vb.length = 0 := by rw [← rb.length]; rfl
  exact PySem.W.keq_ne (knd := mixKind X.prog X.w) (r := true) ya yb da db (by omega) (hits0 lb) (fin_bl I q (by rw [lb, ← ra.length, Bool.and_true]))
def uEq0 (neg : Bool) : Val → Val → M Val := fun x y S => match x, y with
  | .obj h, .obj i => match S[h]?, S[i]? with
    | some (.dK kvs), some (.dK []) => some (.pd (.bool (if neg then !(kvs.length == 0) else kvs.length == 0)), S)
    | _, _ => none
  | _, _ => none
theorem so_eq0 {K : PySem.W.Frag} : SimO K cl rEq0 (uEq0 false) := fun wd S H x y dx dy Q d S' w rx ry h k => by
  unfold uEq0 at h
  split at h
  · rename_i h1 i1
    split at h
    · rename_i kvs e1 e2
      cases h
      obtain ⟨a1, rfl⟩ := rx
      obtain ⟨a2, rfl⟩ := ry
      obtain ⟨_, ks, o1, pk⟩ := w.ob _ _ e1
      obtain ⟨_, ls, o2, pl⟩ := w.ob _ _ e2
      cases pl
      refine ⟨_, _, ks, rfl, rfl, o1, o2, ?_⟩
      rw [Paired.length pk]
      exact k wd _ H w .refl (.bl _)
    · cases h
  · cases h
theorem so_ne0 {K : PySem.W.Frag} : SimO K cl rNe0 (uEq0 true) := fun wd S H x y dx dy Q d S' w rx ry h k => by
  unfold uEq0 at h
  split at h
  · rename_i h1 i1
    split at h
    · rename_i kvs e1 e2
      cases h
      obtain ⟨a1, rfl⟩ := rx
      obtain ⟨a2, rfl⟩ := ry
      obtain ⟨_, ks, o1, pk⟩ := w.ob _ _ e1
      obtain ⟨_, ls, o2, pl⟩ := w.ob _ _ e2
      cases pl
      refine ⟨_, _, ks, rfl, rfl, o1, o2, ?_⟩
      rw [Paired.length pk]
      exact k wd _ H w .refl (.bl _)
    · cases h
  · cases h
/-! d.get(k, x) -/
def uGet2 (S1 : Store) (x y z : Val) : M Val := fun S => (dOf x S1).bind fun _ => (dOf x S).bind fun p => (dLook p.2 y).map fun r => (r.getD z, S)
def eGet2 (fo fe fz : DEnv → M Val) : DEnv → M Val := fun ρ S => bindR (fo ρ S) fun x S1 => bindR (fe ρ S1) fun y S2 => bindR (fz ρ S2) fun z S3 => uGet2 S1 x y z S3
variable {o e f : Expr} {fo fe fz : DEnv → M Val} {apos cpos : Pos}
theorem de_get2 (hu : X.A.units + 1 < cLine) (ho : DE X cl o fo) (he : DE X cl e fe) (hf : DE X cl f fz) (m : M2 X o "get" apos e f cpos := by exact ⟨rfl, rfl, rfl, rfl⟩) : DE X cl (.Call (.Attribute o "get" apos) [e, f] [] cpos) (eGet2 fo fe fz) := by
  obtain ⟨t1, p1, s1⟩ := ho
  obtain ⟨t2, p2, s2⟩ := he
  obtain ⟨t3, p3, s3⟩ := hf
  refine ⟨_, pe_dget2 hu p1 p2 p3 m, fun wd σ ρ S H Q d S' w q h k => ?_⟩
  obtain ⟨x, S1, h1, ha⟩ := bindR_inv h
  obtain ⟨y, S2, h2, hb⟩ := bindR_inv ha
  obtain ⟨z, S3, h3, hz⟩ := bindR_inv hb
  clear h ha hb
  obtain ⟨p0, e0, ha⟩ := Option.bind_eq_some_iff.mp hz
  obtain ⟨p, e1, hb⟩ := Option.bind_eq_some_iff.mp ha
  obtain ⟨r, e2, hy⟩ := Option.map_eq_some_iff.mp hb
  clear hz ha hb
  cases hy
  refine s1 wd σ ρ S H _ x S1 w q h1 fun wd1 v1 H1 w1 x1 r1 => ?_
  obtain ⟨rfl, e4⟩ := dOf_inv e1
  obtain ⟨eh, e5⟩ := dOf_inv e0
  obtain ⟨hi, rfl⟩ := r1
  have eh2 : p.1 = p0.1 := by injection eh
  refine ⟨_, rfl, ?_, ?_⟩
  · rw [eh2]
    exact w1.isD e5 (dOf_kind e0)
  refine s2 wd1 σ ρ S1 H1 _ y S2 w1 (q.ext x1) h2 fun wd2 v2 H2 w2 x2 r2 => ?_
  refine s3 wd2 σ ρ S2 H2 _ z _ w2 ((q.ext x1).ext x2) h3 fun wd3 v3 H3 w3 x3 r3 => ?_
  have ea : wd1.ad p.1 = wd3.ad p.1 := by
    rw [x3.ad _ (Nat.lt_of_lt_of_le hi x2.len), x2.ad _ hi]
  rw [ea]
  obtain ⟨ov, g, zz⟩ := w3.look e4 (r2.ext x3) e2
  refine ⟨ov, g, ?_⟩
  rcases zz with ⟨z1, z2⟩ | ⟨a, b, za, zb, rr⟩
  · rw [z2]
    rw [z1] at k
    exact k wd3 _ _ w3 ((x1.trans x2).trans x3) r3
  · rw [zb]
    rw [za] at k
    exact k wd3 _ _ w3 ((x1.trans x2).trans x3) rr
end
@[simp] theorem eGet2_e {fo fe fz : DEnv → M Val} {ρ : DEnv} {S : Store} : eGet2 fo fe fz ρ S = bindR (fo ρ S) fun x S1 => bindR (fe ρ S1) fun y S2 => bindR (fz ρ S2) fun z S3 => uGet2 S1 x y z S3 := rfl
end
end DM
set_option Elab.async false
set_option linter.all false
set_option maxRecDepth 100000
set_option maxHeartbeats 4000000
/-! DMKill: a list that is told and not used again; sorted(d.items()) -/
namespace DM
open PySem PySem.Spec L2 PyProof.Rows
noncomputable section
def uKill : Val → M Val := fun x S => match x with
  | .obj h => match S[h]? with
    | some (.lst xs) => some (.pd (.list xs), S.set h .dead)
    | _ => none
  | _ => none
section
variable {X : Cx} {cl : Nat → Addr} {e : Expr} {fe : DEnv → M Val}
theorem de_kill (he : DE X cl e fe) : DE X cl e (eU uKill fe) := by
  obtain ⟨t, p, s⟩ := he
  refine ⟨t, p, fun wd σ ρ S H Q d S' w q h k => ?_⟩
  obtain ⟨x, S1, h1, hz⟩ := bindR_inv h
  clear h
  refine s wd σ ρ S H Q x S1 w q h1 fun wd1 v1 H1 w1 x1 r1 => ?_
  unfold uKill at hz
  split at hz
  · rename_i hh
    split at hz
    · rename_i xs e1
      cases hz
      obtain ⟨hi, rfl⟩ := r1
      obtain ⟨f, vs, e2, rp⟩ := w1.ob hh _ e1
      obtain ⟨w2, x2⟩ := w1.set (o' := .dead) (f := fun _ => False) (H' := H1) e1 (fun u z => by cases z) (fun _ _ u z => z) (fun b z => z.elim) (fun b z => z)
      refine k _ _ H1 w2 (x1.trans x2) (.lst ⟨.inl e2, ?_⟩ (RpAll.mono (fun b o eb n => x2.keep b o eb n) _ _ rp))
      rintro (z | ⟨i, hi2, z⟩)
      · exact (w1.hd _ z).2 hh hi ((f _).mpr rfl)
      · by_cases ei : i = hh
        · subst ei
          simp [Wd.own] at z
        · simp only [Wd.own, ei, if_false] at z
          rw [List.length_set] at hi2
          exact ei (w1.dj i hh _ hi2 hi z ((f _).mpr rfl))
    · cases hz
  · cases hz
end
theorem uKill_e {S : Store} {h : Nat} {xs : List PyData} (e : S[h]? = some (.lst xs)) : uKill (.obj h) S = some (.pd (.list xs), S.set h .dead) := by simp [uKill, e]
end
end DM
set_option Elab.async false
set_option linter.all false
set_option maxRecDepth 100000
set_option maxHeartbeats 4000000
/-! DMTpv: a tuple that holds objects of the store -/
namespace DM
open PySem PySem.Spec L2 PyProof.Rows
noncomputable section
section
variable {K : PySem.W.Frag} {cl : Nat → Addr} {wd : Wd} {S : Store} {H : Hp}
theorem WR.newTV (w : WR K cl wd S H) {vs : List V} {ds : List Val} (r : RVs K wd S.length H vs ds) {p : Addr} (hp : H p = none) :
    ∃ wd', WR K cl wd' (S ++ [.tpv ds]) (upd H p (.tup vs)) ∧ Ext wd S H wd' (S ++ [.tpv ds]) (upd H p (.tup vs)) ∧ RV K wd' (S ++ [Ob.tpv ds]).length (upd H p (.tup vs)) (.ref p) (.obj S.length) := by
  have hk := upd_keeps (o := .tup vs) hp
  have kk : ∀ b u, H b = some u → ¬ Own wd S.length b → upd H p (.tup vs) b = some u ∧ ¬ Own (wd.push S.length p fun _ => False) (S.length + 1) b := fun b o e n => ⟨hk b o e, by
    rw [push_own]
    rintro (z | z)
    · exact n z
    · exact z⟩
  have r' : RVs K (wd.push S.length p fun _ => False) (S.length + 1) (upd H p (.tup vs)) vs ds := by
    have ad : ∀ i, i < S.length → (wd.push S.length p fun _ => False).ad i = wd.ad i := fun i hi => by
      have : i ≠ S.length := by omega
      simp [Wd.push, this]
    generalize hH : upd H p (.tup vs) = H'
    rw [hH] at kk
    clear hH hk
    induction r with
    | nil => exact .nil
    | @cons v vs' d ds' r _ ih =>
      refine .cons ?_ ih
      cases d with
      | pd d => exact Rp.mono kk d v r
      | obj i => exact ⟨by have := r.1; omega, by rw [ad i r.1]; exact r.2⟩
  obtain ⟨w2, x2⟩ := w.push (o := .tpv ds) (p := p) (f := fun _ => False) hk (fun b hb => hb.elim) ⟨fun b h => h, vs, ⟨upd_same, by
    rw [push_own]
    rintro (z | z)
    · exact w.fresh hp z
    · exact z⟩, r'⟩
  exact ⟨_, w2, x2, ⟨by simp, by simp [Wd.push]⟩⟩
end
def uTupV : List Val → M Val := fun ds S => if ds.length ≤ 16777216 then some (.obj S.length, S ++ [.tpv ds]) else none
section
variable {X : Cx} {cl : Nat → Addr} {pos : Pos} {es : List Expr} {fs : DEnv → M (List Val)}
theorem de_tupV {x1} (h : DA X cl es fs) : DE X cl (.Tuple es x1 pos) (eA uTupV fs) := by
  obtain ⟨t, p, s⟩ := h
  refine ⟨_, pe_tup p, fun wd σ ρ S H Q d S' w q h k => ?_⟩
  obtain ⟨ds, S1, h1, h⟩ := bindR_inv h
  refine s wd σ ρ S H _ ds S1 w q h1 fun wd1 vs H1 w1 x1 r1 => ?_
  unfold uTupV at h
  split at h
  · rename_i hl
    cases h
    refine ⟨by rw [r1.length, szl]; exact hl, fun p hp => ?_⟩
    obtain ⟨wd2, w2, x2, r2⟩ := w1.newTV r1 hp
    exact k _ _ _ w2 (x1.trans x2) r2
  · cases h
end
theorem rgI0 {n : Nat} : rgI 0 n = (List.range n).map fun i : Nat => Val.pd (.int i) := by simp [rgI]
end
end DM
set_option Elab.async false
set_option linter.all false
set_option maxRecDepth 100000
set_option maxHeartbeats 4000000
/-! DMKeys: for k in d, the dict locked meanwhile -/
namespace DM
open PySem PySem.Spec L2 PyProof.Rows
noncomputable section
section
variable {K : PySem.W.Frag} {cl : Nat → Addr} {wd wd1 wd2 : Wd} {S S1 S2 : Store} {H H1 H2 : Hp}
theorem own_self {h : Nat} : wd.own h (wd.fp h) = wd := by
  unfold Wd.own
  congr 1
  funext i
  split
  · rename_i e; rw [e]
  · rfl
theorem WR.lockK (w : WR K cl wd S H) {h : Nat} {kvs : List (Key × PyData)} (e : S[h]? = some (.dK kvs)) : ∃ ks, H (wd.ad h) = some (.dK ks) ∧
    ∀ od, WR K cl wd (S.set h (.lock (.dK kvs))) (upd H (wd.ad h) (.frz od (.dK ks))) ∧ Ext wd S H wd (S.set h (.lock (.dK kvs))) (upd H (wd.ad h) (.frz od (.dK ks))) := by
  obtain ⟨f, ks, e1, pk⟩ := w.ob h _ e
  refine ⟨ks, e1, fun od => ?_⟩
  have hh := lt_of_get e
  have ow : Own wd S.length (wd.ad h) := .inr ⟨h, hh, (f _).mpr rfl⟩
  have keep : ∀ b u, H b = some u → ¬ Own wd S.length b → upd H (wd.ad h) (.frz od (.dK ks)) b = some u ∧ ¬ Own wd S.length b := fun b u eb n => ⟨by rw [upd_ne (fun z => n (by rw [z]; exact ow))]; exact eb, n⟩
  have st := w.set (o' := .lock (.dK kvs)) (f := wd.fp h) (H' := upd H (wd.ad h) (.frz od (.dK ks))) e (fun u z => by cases z) (fun b nb u eb => by
    rw [upd_ne (fun z => nb ((f b).mpr z))]; exact eb) (fun b hb => ⟨.inl hb, by
    have := (f b).mp hb
    exact ⟨_, by rw [this]; exact upd_same⟩⟩) (by
    rw [own_self]
    exact ⟨f, od, ks, upd_same, PKV.mono (fun v d => Rp.mono keep d v) pk⟩)
  rw [own_self] at st
  exact st
theorem WR.unlockK (w : WR K cl wd S H) {h : Nat} {kvs : List (Key × PyData)} {ks : List (Key × V)} {od : Obj} (e : S[h]? = some (.dK kvs)) (eH : H (wd.ad h) = some (.dK ks)) (w2 : WR K cl wd2 S2 H2)
    (x2 : Ext wd (S.set h (.lock (.dK kvs))) (upd H (wd.ad h) (.frz od (.dK ks))) wd2 S2 H2) (x1 : Ext wd S H wd (S.set h (.lock (.dK kvs))) (upd H (wd.ad h) (.frz od (.dK ks)))) :
    H2 (wd.ad h) = some (.frz od (.dK ks)) ∧ WR K cl wd2 (S2.set h (.dK kvs)) (upd H2 (wd.ad h) (.dK ks)) ∧ Ext wd S H wd2 (S2.set h (.dK kvs)) (upd H2 (wd.ad h) (.dK ks)) ∧
    (∀ v d, RV K wd2 S2.length H2 v d → RV K wd2 (S2.set h (.dK kvs)).length (upd H2 (wd.ad h) (.dK ks)) v d) := by
  have hh := lt_of_get e
  obtain ⟨f, ks0, e0, _⟩ := w.ob h _ e
  obtain ⟨e2, eq2⟩ := x2.lock h _ (List.getElem?_set_self hh)
  have ad2 : wd2.ad h = wd.ad h := x2.ad h (by simpa using hh)
  have eh2 : H2 (wd.ad h) = some (.frz od (.dK ks)) := by rw [eq2]; exact upd_same
  obtain ⟨f2, od2, ks2, e3, pk⟩ := w2.ob h _ e2
  rw [ad2, eh2] at e3
  cases e3
  rw [ad2] at f2
  have hh2 := lt_of_get e2
  have len : (S2.set h (.dK kvs)).length = S2.length := by simp
  have ow2 : Own wd2 S2.length (wd.ad h) := .inr ⟨h, hh2, (f2 _).mpr rfl⟩
  have keep : ∀ b u, H2 b = some u → ¬ Own wd2 S2.length b → upd H2 (wd.ad h) (.dK ks) b = some u ∧ ¬ Own wd2 S2.length b := fun b u eb n => ⟨by rw [upd_ne (fun z => n (by rw [z]; exact ow2))]; exact eb, n⟩
  have oth : ∀ i b, i < S2.length → i ≠ h → wd2.fp i b → b ≠ wd.ad h := fun i b hi ne hb z => ne (w2.dj i h b hi hh2 hb (by rw [z]; exact (f2 _).mpr rfl))
  refine ⟨eh2, ⟨fun i u eu => ?_, fun i j b hi hj => w2.dj i j b (by omega) (by omega), fun i b hi hb => ?_, fun b hb => ?_⟩, ⟨?_, fun i hi => ?_, fun b u eb n => ?_, fun i u eu => ?_, fun b hb => ?_⟩, fun v d r => r.mono (S := S2) (S' := S2.set h (.dK kvs)) (by omega) (fun _ _ => rfl) (by rw [len]; exact keep)⟩
  · rw [len]
    by_cases ei : i = h
    · subst ei
      rw [List.getElem?_set_self hh2] at eu
      cases eu
      rw [ad2]
      exact ⟨f2, ks, upd_same, PKV.mono (fun v d => Rp.mono keep d v) pk⟩
    · rw [List.getElem?_set_ne (Ne.symm ei)] at eu
      exact OR.mono (S := S2) (S' := S2) (Nat.le_refl _) (fun _ _ => rfl) keep (fun b hb => upd_ne (oth i b (lt_of_get eu) ei hb)) (w2.ob i u eu)
  · rw [len] at hi
    obtain ⟨v, hv⟩ := w2.lv i b hi hb
    by_cases z : b = wd.ad h
    · exact ⟨_, by rw [z]; exact upd_same⟩
    · exact ⟨v, by rw [upd_ne z]; exact hv⟩
  · obtain ⟨⟨v, hv⟩, n⟩ := w2.hd b hb
    refine ⟨?_, fun i hi => n i (by omega)⟩
    by_cases z : b = wd.ad h
    · exact ⟨_, by rw [z]; exact upd_same⟩
    · exact ⟨v, by rw [upd_ne z]; exact hv⟩
  · have := x2.len
    simpa using this
  · exact x2.ad i (by simpa using hi)
  · obtain ⟨h1, n1⟩ := x1.keep b u eb n
    obtain ⟨h2, n2⟩ := x2.keep b u h1 n1
    rw [len]
    exact keep b u h2 n2
  · have ne : i ≠ h := by
      rintro rfl
      rw [e] at eu
      cases eu
    obtain ⟨l1, q1⟩ := x1.lock i u eu
    obtain ⟨l2, q2⟩ := x2.lock i u l1
    refine ⟨by rw [List.getElem?_set_ne (Ne.symm ne)]; exact l2, ?_⟩
    have fi : wd.fp i (wd.ad i) := by
      have r := w.ob i _ eu
      cases u with
      | lst xs => obtain ⟨f, _⟩ := r; exact (f _).mpr rfl
      | lsv xs => obtain ⟨f, _⟩ := r; exact (f _).mpr rfl
      | dK xs => obtain ⟨f, _⟩ := r; exact (f _).mpr rfl
      | _ => exact r.elim
    have nz : wd.ad i ≠ wd.ad h := fun z => ne (w.dj i h _ (lt_of_get eu) hh fi (by rw [z]; exact (f _).mpr rfl))
    rw [upd_ne nz, q2, q1]
  · obtain ⟨h1, q1⟩ := x1.hid b hb
    obtain ⟨h2, q2⟩ := x2.hid b h1
    refine ⟨h2, ?_⟩
    have nz : b ≠ wd.ad h := fun z => (w.hd b hb).2 h hh (by rw [z]; exact (f _).mpr rfl)
    rw [upd_ne nz, q2, q1]
end
def keyVal : Key → Val
  | .inl i => .pd (.int i)
  | .inr s => .pd (.str s)
/-- the keys of a locked dict -/
def keysI (x : Val) : M Iter := fun S => match x with
  | .obj h => match S[h]? with
    | some (.lock (.dK kvs)) => some (⟨kvs.map fun kv => keyVal kv.1, none⟩, S)
    | _ => none
  | _ => none
def iDK (fe : DEnv → M Val) : DEnv → M Iter := fun ρ S => bindR (fe ρ S) fun x S1 => keysI x S1
@[simp] theorem iDK_e {fe : DEnv → M Val} {ρ : DEnv} {S : Store} : iDK fe ρ S = bindR (fe ρ S) fun x S1 => keysI x S1 := rfl
theorem keysI_K {S : Store} {h : Nat} {kvs : List (Key × PyData)} (e : S[h]? = some (.lock (.dK kvs))) : keysI (.obj h) S = some (⟨kvs.map fun kv => keyVal kv.1, none⟩, S) := by simp [keysI, e]
/-- which dict is locked -/
def fdOf (fe : DEnv → M Val) : DEnv → Store → Option Nat := fun ρ S => match fe ρ S with
  | some (.obj h, _) => some h
  | _ => none
def lockD (fd : DEnv → Store → Option Nat) (ρ : DEnv) (S : Store) : Option (Nat × List (Key × PyData)) := (fd ρ S).bind fun h => match S[h]? with
  | some (.dK kvs) => some (h, kvs)
  | _ => none
def gLock (fe : DEnv → M Val) (g : DEnv → M Fl) : DEnv → M Fl := fun ρ S => match lockD (fdOf fe) ρ S with
  | some (h, kvs) => bindR (g ρ (S.set h (.lock (.dK kvs)))) fun fl S2 => some (fl, S2.set h (.dK kvs))
  | none => none
def eLock (fe : DEnv → M Val) (g : DEnv → M Val) : DEnv → M Val := fun ρ S => match lockD (fdOf fe) ρ S with
  | some (h, kvs) => bindR (g ρ (S.set h (.lock (.dK kvs)))) fun d S2 => some (d, S2.set h (.dK kvs))
  | none => none
theorem lockD_get {fd : DEnv → Store → Option Nat} {ρ : DEnv} {S : Store} {h : Nat} {kvs : List (Key × PyData)} (e : lockD fd ρ S = some (h, kvs)) : S[h]? = some (.dK kvs) := by
  unfold lockD at e
  obtain ⟨i, _, e⟩ := Option.bind_eq_some_iff.mp e
  split at e
  · rename_i kv e1
    cases e
    exact e1
  · cases e
section
variable {X : Cx} {cl : Nat → Addr} {e : Expr} {fe ge : DEnv → M Val} {st : Stmt} {g : DEnv → M Fl} {tg : Expr}
theorem di_keys (he : DE X cl e fe) : DI X cl tg e (iDK fe) := by
  obtain ⟨t, p, s⟩ := he
  refine ⟨_, pi_keys p, fun wd σ ρ S H R it S' w q h k => ?_⟩
  obtain ⟨x, S1, h1, hz⟩ := bindR_inv h
  clear h
  refine s wd σ ρ S H _ x S1 w q h1 fun wd1 v1 H1 w1 x1 r1 => ?_
  unfold keysI at hz
  split at hz
  · rename_i hh
    split at hz
    · rename_i kvs e1
      cases hz
      obtain ⟨hi, rfl⟩ := r1
      obtain ⟨f, od, ks, e2, pk⟩ := w1.ob hh _ e1
      refine ⟨wd1.ad hh, od, rfl, .inl ⟨ks, e2, k wd1 _ H1 _ w1 x1 rfl w1 ?_⟩⟩
      intro wd' S' H' w' x'
      obtain ⟨e3, e4⟩ := x'.lock hh _ e1
      have e5 : H' (wd1.ad hh) = some (.frz od (.dK ks)) := by rw [e4]; exact e2
      have hl : ks.length = kvs.length := Paired.length pk
      refine ⟨⟨e5, by simp [hl]⟩, fun i hi' => ?_⟩
      rw [List.length_map] at hi'
      refine ⟨⟨e5, by omega⟩, fun y H'' yl => ?_⟩
      obtain ⟨rfl, k0, v0, hk, rfl⟩ := yl
      obtain ⟨b, hb, e6, _⟩ := L2.paired_get pk hk
      refine ⟨keyVal k0, by rw [List.getElem?_map, hb]; simp [← e6], w', .refl, ?_⟩
      cases k0 with
      | inl i => exact .int i
      | inr z => exact .str z
    · cases hz
  · cases hz
theorem lk_keys {fe : DEnv → M Val} : ∀ ρ S it S', iDK fe ρ S = some (it, S') → ∀ h o, it.lk = some (h, o) → (∃ xs, o = Ob.lst xs) ∨ ∃ xs, o = Ob.lsv xs := fun ρ S it S' h hh o e => by
  obtain ⟨x, S1, h1, hz⟩ := bindR_inv h
  unfold keysI at hz
  split at hz
  · split at hz
    · cases hz; cases e
    · cases hz
  · cases hz
theorem er_of {K : PySem.W.Frag} {wd : Wd} {n m : Nat} {H H' : Hp} {σ : L2.St} {ρ : DEnv} (k : ∀ v d, RV K wd n H v d → RV K wd m H' v d) (q : ER K wd n H σ ρ) : ER K wd m H' σ ρ := ⟨q.len, fun i d e => by
  obtain ⟨v, h1, h2⟩ := q.at' i d e
  exact ⟨v, h1, k v d h2⟩⟩
theorem ds_lock (fe : DEnv → M Val) (hs : DS X cl st g) : DS X cl st (gLock fe g) := by
  obtain ⟨t, p, s⟩ := hs
  refine ⟨_, ps_lock p, fun wd σ ρ S H D fl S' w q h k => ?_⟩
  unfold gLock at h
  split at h
  · rename_i hh kvs e0
    have e := lockD_get e0
    obtain ⟨fl0, S2, h1, hz⟩ := bindR_inv h
    clear h
    cases hz
    obtain ⟨ks, eH, lk⟩ := w.lockK e
    refine ⟨wd.ad hh, .dK ks, eH, trivial, fun od => ?_⟩
    obtain ⟨w1, x1⟩ := lk od
    have q1 : ER X.K wd (S.set hh (.lock (.dK kvs))).length (upd H (wd.ad hh) (.frz od (.dK ks))) σ ρ := q.ext x1
    refine s wd σ ρ _ _ _ fl S2 w1 q1 h1 ?_
    cases fl with
    | nx ρ' =>
      intro wd' σ' H' w' x' q'
      obtain ⟨a, b, c, m⟩ := w.unlockK e eH w' x' x1
      exact ⟨a, k wd' σ' _ b c (er_of m q')⟩
    | rt d =>
      intro wd' v H' w' x' r'
      obtain ⟨a, b, c, m⟩ := w.unlockK e eH w' x' x1
      exact ⟨a, k wd' v _ b c (m v d r')⟩
    | bk ρ' =>
      intro wd' σ' H' w' x' q'
      obtain ⟨a, b, c, m⟩ := w.unlockK e eH w' x' x1
      exact ⟨a, k wd' σ' _ b c (er_of m q')⟩
    | ct ρ' =>
      intro wd' σ' H' w' x' q'
      obtain ⟨a, b, c, m⟩ := w.unlockK e eH w' x' x1
      exact ⟨a, k wd' σ' _ b c (er_of m q')⟩
  · cases h
theorem de_lock (fe : DEnv → M Val) (he : DE X cl e ge) : DE X cl e (eLock fe ge) := by
  obtain ⟨t, p, s⟩ := he
  refine ⟨_, pe_lock p, fun wd σ ρ S H Q d S' w q h k => ?_⟩
  unfold eLock at h
  split at h
  · rename_i hh kvs e0
    have e := lockD_get e0
    obtain ⟨d0, S2, h1, hz⟩ := bindR_inv h
    clear h
    cases hz
    obtain ⟨ks, eH, lk⟩ := w.lockK e
    refine ⟨wd.ad hh, .dK ks, eH, trivial, fun od => ?_⟩
    obtain ⟨w1, x1⟩ := lk od
    have q1 : ER X.K wd (S.set hh (.lock (.dK kvs))).length (upd H (wd.ad hh) (.frz od (.dK ks))) σ ρ := q.ext x1
    refine s wd σ ρ _ _ _ d S2 w1 q1 h1 fun wd' v H' w' x' r' => ?_
    obtain ⟨a, b, c, m⟩ := w.unlockK e eH w' x' x1
    exact ⟨a, k wd' v _ b c (m v d r')⟩
  · cases h
/-- a new dict that is walked and not used again -/
def uFzK : Val → M Val := fun x S => match x with
  | .obj h => match S[h]? with
    | some (.dK kvs) => some (.obj h, S.set h (.lock (.dK kvs)))
    | _ => none
  | _ => none
def tFzK (t : TE) : TE := fun σ H Q => t σ H fun x H1 => ∃ d u, x = .ref d ∧ H1 d = some u ∧ Mut (some u) ∧ ∀ od, Q x (upd H1 d (.frz od u))
theorem pe_fzK {t : TE} (h : PE X e t) : PE X e (tFzK t) := by
  refine ⟨fun pins s σ H Q I hw => ?_⟩
  refine thn (h.run pins s σ H _ I hw) fun v s1 ⟨x, H1, I2, r, d, u, ex, hd, mu, q⟩ => ?_
  obtain ⟨od, I1⟩ := I2.lock hd mu
  refine ⟨x, _, I1, ?_, q od⟩
  subst ex
  exact r
theorem de_fzK (he : DE X cl e fe) : DE X cl e (eU uFzK fe) := by
  obtain ⟨t, p, s⟩ := he
  refine ⟨_, pe_fzK p, fun wd σ ρ S H Q d S' w q h k => ?_⟩
  obtain ⟨x, S1, h1, hz⟩ := bindR_inv h
  clear h
  refine s wd σ ρ S H _ x S1 w q h1 fun wd1 v1 H1 w1 x1 r1 => ?_
  unfold uFzK at hz
  split at hz
  · rename_i hh
    split at hz
    · rename_i kvs e1
      cases hz
      obtain ⟨hi, rfl⟩ := r1
      obtain ⟨ks, eH, lk⟩ := w1.lockK e1
      refine ⟨wd1.ad hh, .dK ks, rfl, eH, trivial, fun od => ?_⟩
      obtain ⟨w2, x2⟩ := lk od
      exact k _ _ _ w2 (x1.trans x2) ⟨by simpa using hi, rfl⟩
    · cases hz
  · cases hz
theorem uFzK_e {S : Store} {h : Nat} {kvs : List (Key × PyData)} (e : S[h]? = some (.dK kvs)) : uFzK (.obj h) S = some (.obj h, S.set h (.lock (.dK kvs))) := by simp [uFzK, e]
end
theorem gLock_e {fe : DEnv → M Val} {g : DEnv → M Fl} {ρ : DEnv} {S : Store} {h : Nat} {kvs : List (Key × PyData)} (e1 : fe ρ S = some (.obj h, S)) (e2 : S[h]? = some (.dK kvs)) : gLock fe g ρ S = bindR (g ρ (S.set h (.lock (.dK kvs)))) fun fl S2 => some (fl, S2.set h (.dK kvs)) := by
  have : lockD (fdOf fe) ρ S = some (h, kvs) := by simp [lockD, fdOf, e1, e2]
  unfold gLock
  rw [this]
theorem eLock_e {fe : DEnv → M Val} {g : DEnv → M Val} {ρ : DEnv} {S : Store} {h : Nat} {kvs : List (Key × PyData)} (e1 : fe ρ S = some (.obj h, S)) (e2 : S[h]? = some (.dK kvs)) : eLock fe g ρ S = bindR (g ρ (S.set h (.lock (.dK kvs)))) fun d S2 => some (d, S2.set h (.dK kvs)) := by
  have : lockD (fdOf fe) ρ S = some (h, kvs) := by simp [lockD, fdOf, e1, e2]
  unfold eLock
  rw [this]
@[simp] theorem iEnum_e {fa : DEnv → M Val} {ρ : DEnv} {S : Store} : iEnum fa ρ S = bindR (fa ρ S) fun a S1 => enumI a S1 := rfl
@[simp] theorem enumI_list {xs : List PyData} {S : Store} : enumI (.pd (.list xs)) S = some (⟨enumD xs, none⟩, S) := rfl
theorem enumD_map {α : Type} {f : α → PyData} {xs : List α} : enumD (xs.map f) = xs.zipIdx.map fun q => Val.pd (.tuple [.int (q.2 : Nat), f q.1]) := by
  simp [enumD, List.zipIdx_map, Function.comp_def]
/-- d[k] while d is walked -/
def uDGetL (x d : Val) : M Val := fun S => match x, d with
  | .obj h, .pd d => match S[h]? with
    | some (.lock (.dK kvs)) => (toKey d).bind fun k => (valD kvs k).map fun v => (Val.pd v, S)
    | _ => none
  | _, _ => none
theorem de_dgetL {X : Cx} {cl : Nat → Addr} {o i : Expr} {fo fi : DEnv → M Val} {pos : Pos} (hu : X.A.units + 1 < cLine) (ho : DE X cl o fo) (hi : DE X cl i fi) (hs : NoSl i := by exact fun _ _ => rfl) : DE X cl (.Subscript o i pos) (eO uDGetL fo fi) := by
  obtain ⟨t1, p1, s1⟩ := ho
  obtain ⟨t2, p2, s2⟩ := hi
  refine ⟨_, pe_dget hu p1 p2 hs, fun wd σ ρ S H Q d S' w q h k => ?_⟩
  obtain ⟨x, S1, h1, h⟩ := bindR_inv h
  obtain ⟨y, S2, h2, h⟩ := bindR_inv h
  refine s1 wd σ ρ S H _ x S1 w q h1 fun wd1 v1 H1 w1 x1 r1 => ?_
  refine s2 wd1 σ ρ S1 H1 _ y S2 w1 (q.ext x1) h2 fun wd2 v2 H2 w2 x2 r2 => ?_
  cases x with
  | pd _ => cases h
  | obj hh =>
  cases y with
  | obj _ => cases h
  | pd y0 =>
    dsimp only [uDGetL] at h
    split at h
    · rename_i kvs e1
      obtain ⟨kk, hk, h⟩ := Option.bind_eq_some_iff.mp h
      obtain ⟨v, hv, h⟩ := Option.map_eq_some_iff.mp h
      cases h
      obtain ⟨hi, rfl⟩ := r1
      obtain ⟨f, od, ks, e2, pk⟩ := w2.ob hh _ e1
      have e0 := toKey_ok r2 hk
      rcases pk_val (k := kk) pk with ⟨_, b⟩ | ⟨a, b, za, zb, rr⟩
      · rw [b] at hv
        cases hv
      · rw [zb] at hv
        cases hv
        refine ⟨_, a, rfl, ?_, k wd2 a H2 w2 (x1.trans x2) rr⟩
        rw [← x2.ad _ hi]
        exact .inl ⟨ks, kk, .inr ⟨od, e2⟩, e0, za.symm⟩
    · cases h
theorem uDGetL_K {S : Store} {h : Nat} {kvs : List (Key × PyData)} {k : Int} {y : PyData} (e : S[h]? = some (.lock (.dK kvs))) (hv : valD kvs (Sum.inl k) = some y) : uDGetL (.obj h) (.pd (.int k)) S = some (.pd y, S) := by
  simp [uDGetL, e, toKey, hv]
end
end DM
set_option Elab.async false
set_option linter.all false
set_option maxRecDepth 100000
set_option maxHeartbeats 4000000
/-! DMTpv2: reading tuples that hold objects; freezing one -/
namespace DM
open PySem PySem.Spec L2 PyProof.Rows
noncomputable section
def tpvOf (d : Val) (S : Store) : Option (List Val) := match d with
  | .obj h => match S[h]? with
    | some (.tpv xs) => some xs
    | _ => none
  | _ => none
theorem WR.tpvOf {K : PySem.W.Frag} {cl : Nat → Addr} {wd : Wd} {S : Store} {H : Hp} {v : V} {d : Val} (w : WR K cl wd S H) (r : RV K wd S.length H v d) {xs : List Val} (h : DM.tpvOf d S = some xs) : ∃ a vs, v = .ref a ∧ FzT K H (Own wd S.length) a vs ∧ RVs K wd S.length H vs xs := by
  unfold DM.tpvOf at h
  split at h
  · rename_i i
    split at h
    · rename_i ys e
      cases h
      obtain ⟨hi, rfl⟩ := r
      obtain ⟨_, vs, fz, rv⟩ := w.ob i _ e
      exact ⟨_, vs, rfl, fz, rv⟩
    · cases h
  · cases h
def uIxG (a b : Val) : M Val := fun S => match tpvOf a S with
  | some xs => match b with
    | .pd (.int i) => (atI xs i).map fun d => (d, S)
    | _ => none
  | none => uIx a b S
def uLenG (ds : List Val) : M Val := fun S => match ds with
  | [d] => match tpvOf d S with
    | some xs => some (.pd (.int xs.length), S)
    | none => uLen [d] S
  | _ => uLen ds S
def uIsiG (T : String) (d : Val) : M Val := fun S => match tpvOf d S with
  | some _ => (kitB "tuple" T).map fun b => (.pd (.bool b), S)
  | none => uIsi T d S
section
variable {K : PySem.W.Frag} {cl : Nat → Addr}
theorem so_ixG : SimO K cl (rIx K) uIxG := fun wd S H x y dx dy Q d S' w rx ry h k => by
  unfold uIxG at h
  split at h
  · rename_i xs et
    split at h
    · rename_i i
      obtain rfl := ry.int_inv
      cases e : atI xs i with
      | none => rw [e] at h; cases h
      | some c =>
        rw [e] at h
        cases h
        obtain ⟨a, vs, rfl, f, r⟩ := w.tpvOf rx et
        obtain ⟨v, h1, h2⟩ := atI_rel r e
        exact .inr (.inl ⟨a, vs, i, v, rfl, rfl, f.sq, h1, k wd v H w .refl h2⟩)
    · cases h
  · exact so_ix wd S H x y dx dy Q d S' w rx ry h k
theorem sc_lenG : SimC K cl (rLenA K) uLenG := fun wd S H xs ds Q d S' w r h k => by
  unfold uLenG at h
  split at h
  · rename_i d0
    split at h
    · rename_i ys et
      cases h
      obtain ⟨v, rfl, r1⟩ := r.one_inv
      obtain ⟨a, vs, rfl, f, q⟩ := w.tpvOf r1 et
      exact .inl (.inl ⟨_, _, rfl, .inr ⟨vs, f.sq, q.length.symm⟩, k wd _ H w .refl (.int _)⟩)
    · exact sc_len wd S H xs _ Q d S' w r h k
  · exact sc_len wd S H xs _ Q d S' w r h k
end
section
variable {X : Cx} {cl : Nat → Addr} {pos : Pos} {a b e : Expr} {fa fb fe : DEnv → M Val}
theorem de_ixG (ha : DE X cl a fa) (hb : DE X cl b fb) (hs : PlainIx b := by exact fun _ _ => rfl) : DE X cl (.Subscript a b pos) (eO uIxG fa fb) := by
  obtain ⟨ta, pa, sa⟩ := ha
  obtain ⟨tb, pb, sb⟩ := hb
  exact ⟨_, pe_ix ix_seq pa pb hs, sim_o so_ixG sa sb⟩
theorem de_isiG {p p2 : Pos} {x : Str} {T : String} (hi : Gl X "isinstance") (hm : X.mg "isinstance" = none) (hx : Gl X x) (hm2 : X.mg x = none) (ha : DE X cl a fa) (hv : bootBuiltins x = some (.type T)) (hn : x ≠ "__name__" := by decide) (hd : (x == ("__debug__" : Str)) = false := by decide) (hvi : bootBuiltins "isinstance" = some (.builtin "isinstance") := by decide +kernel)
    (h1 : starEach [a, .Name x p2] X.env = (false, eval a X.env) :: starEach [.Name x p2] X.env := by rfl) (h2 : starEach [.Name x p2] X.env = (false, eval (.Name x p2) X.env) :: starEach [] X.env := by rfl)
    (hpl : (backTo pos (starEach [.Name x p2] X.env)).any (·.1) = false := by rfl) :
    DE X cl (.Call (.Name "isinstance" p) [a, .Name x p2] [] pos) (eU (uIsiG T) fa) := by
  obtain ⟨ta, pa, sa⟩ := ha
  refine ⟨_, pe_callB call_isi hi hm hvi (pa_cons pa (pa_cons (pe_bltn (v := .ty T) hx hm2 hv rfl hn hd) pa_nil h2) h1) (by decide) (by decide) h1 hpl, fun wd σ ρ S H Q d S' w q h k => ?_⟩
  obtain ⟨y, S1, e1, h⟩ := bindR_inv h
  refine sa wd σ ρ S H _ y S1 w q e1 fun wd1 v1 H1 w1 x1 r1 => ?_
  unfold uIsiG at h
  split at h
  · rename_i xs et
    cases e2 : kitB "tuple" T with
    | none =>
      rw [e2] at h
      cases h
    | some b =>
      rw [e2] at h
      cases h
      obtain ⟨ad, vs, rfl, f, _⟩ := w1.tpvOf r1 et
      exact ⟨_, _, _, _, b, rfl, .ty T, f.ty, kit_ty e2, k wd1 _ H1 w1 x1 (.bl b)⟩
  · unfold uIsi at h
    split at h
    · rename_i t et
      cases e2 : kitB t T with
      | none =>
        rw [e2] at h
        cases h
      | some b =>
        rw [e2] at h
        cases h
        exact ⟨_, _, _, _, b, rfl, .ty T, w1.tyN r1 et, kit_ty e2, k wd1 _ H1 w1 x1 (.bl b)⟩
    · cases h
/-- (a, list) told: the list is not used again -/
def uKillT : Val → M Val := fun x S => match x with
  | .obj h => match S[h]? with
    | some (.tpv [.pd a, .obj l]) => match S[l]? with
      | some (.lst xs) => if h ≠ l then some (.pd (.tuple [a, .list xs]), (S.set l .dead).set h .dead) else none
      | _ => none
    | _ => none
  | _ => none
theorem de_killT (he : DE X cl e fe) : DE X cl e (eU uKillT fe) := by
  obtain ⟨t, p, s⟩ := he
  refine ⟨t, p, fun wd σ ρ S H Q d S' w q h k => ?_⟩
  obtain ⟨x, S1, h1, hz⟩ := bindR_inv h
  clear h
  refine s wd σ ρ S H Q x S1 w q h1 fun wd1 v1 H1 w1 x1 r1 => ?_
  unfold uKillT at hz
  split at hz
  · rename_i hh
    split at hz
    · rename_i a l e0
      split at hz
      · rename_i xs e1
        split at hz
        · rename_i hne
          cases hz
          obtain ⟨hi, rfl⟩ := r1
          obtain ⟨_, vs0, fz, rv⟩ := w1.ob hh _ e0
          obtain ⟨f, vs, e2, rp⟩ := w1.ob l _ e1
          have hl := lt_of_get e1
          obtain ⟨w2, x2⟩ := w1.set (o' := .dead) (f := fun _ => False) (H' := H1) e1 (fun u z => by cases z) (fun _ _ u z => z) (fun b z => z.elim) (fun b z => z)
          have e0' : (S1.set l .dead)[hh]? = some (.tpv [.pd a, .obj l]) := by rw [List.getElem?_set_ne (Ne.symm hne)]; exact e0
          obtain ⟨w3, x3⟩ := w2.set (o' := .dead) (f := fun _ => False) (H' := H1) e0' (fun u z => by cases z) (fun _ _ u z => z) (fun b z => z.elim) (fun b z => z)
          have x23 := x2.trans x3
          have rv2 := RVs.ext x23 rv
          refine k _ _ H1 w3 (x1.trans x23) ?_
          cases rv2 with
          | cons ra rv2 =>
            cases rv2 with
            | cons rb rv2 =>
              cases rv2
              obtain ⟨hb, rfl⟩ := rb
              have fz3 := FzT.mono x23.keep fz
              refine .tup fz3 (.cons ra (.cons (.lst ⟨.inl ?_, ?_⟩ (RpAll.mono (fun b o eb n => x23.keep b o eb n) _ _ rp)) .nil))
              · rw [x23.ad l hl]
                exact e2
              · rw [x23.ad l hl]
                rintro (z | ⟨i, hi2, z⟩)
                · exact (w1.hd _ z).2 l hl ((f _).mpr rfl)
                · by_cases e5 : i = hh
                  · subst e5
                    simp [Wd.own] at z
                  · by_cases e6 : i = l
                    · subst e6
                      simp [Wd.own, e5] at z
                    · simp only [Wd.own, e5, e6, if_false] at z
                      simp at hi2
                      exact e6 (w1.dj i l _ hi2 hl z ((f _).mpr rfl))
        · cases hz
      · cases hz
    · cases hz
  · cases hz
end
end
end DM
set_option Elab.async false
set_option linter.all false
/-! DMCast: a comprehension's target of several names; all([..]) -/
namespace DM
open PySem PySem.Spec L2 PyProof.Rows
noncomputable section
theorem dc_tupB {X : Cx} {s : Shared} {H : Hp} {scope : Scope} {env : Env} {fp : List Addr} {cl : Nat → Addr} {es : List Expr} {kk n : Nat} {pos : Pos} {ix ix' : List Nat} {t : TGs} {ggs : List Val → DEnv → M DEnv} (hc : (X.blk s H scope env fp).calm = true) (h : DCs (X.blk s H scope env fp) cl es ix t ggs) (e : ix = ix' := by rfl) (hn : (assignEach es (X.blk s H scope env fp).env).length = n := by rfl) (hst : (assignEach es (X.blk s H scope env fp).env).findIdx? (·.1) = none := by rfl) : DC (X.blk s H scope env fp) cl (.Tuple es kk pos) ix' (gTup X.K n t) (nTup n ggs) := e ▸ dc_tup hc h hn hst
def allBl : List PyData → Option (List Bool)
  | [] => some []
  | .bool b :: r => (allBl r).map (b :: ·)
  | _ => none
theorem allBl_eq : ∀ {xs : List PyData} {bs : List Bool}, allBl xs = some bs → xs = bs.map PyData.bool
  | [], _, h => by cases h; rfl
  | .bool b :: r, _, h => by
    unfold allBl at h
    cases hr : allBl r with
    | none => rw [hr] at h; cases h
    | some ys =>
      rw [hr] at h
      cases h
      rw [allBl_eq hr]
      rfl
  | .none :: _, _, h => by cases h
  | .int _ :: _, _, h => by cases h
  | .str _ :: _, _, h => by cases h
  | .list _ :: _, _, h => by cases h
  | .tuple _ :: _, _, h => by cases h
  | .dict _ :: _, _, h => by cases h
theorem allBl_map : ∀ (xs : List Bool), allBl (xs.map PyData.bool) = some xs
  | [] => rfl
  | x :: xs => by simp [allBl, allBl_map xs]
section
variable {K : PySem.W.Frag} {cl : Nat → Addr}
theorem RpAll.bls {H : Hp} {O : Addr → Prop} : ∀ {xs : List Bool} {vs : List V}, RpAll K H O vs (xs.map PyData.bool) → vs = xs.map V.bl
  | [], _, h => by cases h; rfl
  | x :: xs, _, h => by
    cases h with
    | cons r t =>
      cases r
      rw [RpAll.bls t]
      rfl
/-- all of a list of truths -/
def uAll : List Val → M Val := fun ds S => match ds with
  | [d] => match d with
    | .pd (.list xs) => (allBl xs).map fun bs => (.pd (.bool (bs.all id)), S)
    | _ => none
  | _ => none
theorem sc_all : SimC K cl (rAll K) uAll := fun wd S H xs ds Q d S' w r h k => by
  unfold uAll at h
  split at h
  · rename_i d0
    split at h
    · rename_i ys
      cases e2 : allBl ys with
      | none =>
        rw [e2] at h
        cases h
      | some bs =>
        rw [e2] at h
        cases h
        obtain ⟨v, rfl, r1⟩ := r.one_inv
        obtain ⟨a, vs, rfl, f, q⟩ := w.getL r1 (show getL (.pd (.list ys)) S = some ys from rfl)
        have := allBl_eq e2
        subst this
        obtain rfl := q.bls
        exact ⟨a, bs, rfl, f, k wd _ H w .refl (.bl _)⟩
    · cases h
  · cases h
end
end
end DM
set_option Elab.async false
set_option linter.all false
set_option maxRecDepth 100000
set_option maxHeartbeats 4000000
/-! DMEnumT: enumerate over a tuple -/
namespace PySem
open Sem (wp)
open AutoSeq1 (wpAny_loadPart')
set_option maxHeartbeats 4000000 in
theorem meets_enumT1 {v : Value} {o : Obj} {H : Heap → Prop} (B : Begins v o H) :
    Meets (Builtin.«enumerate.__new__» ⟨[.type "enumerate", v], []⟩) (fun _ R s => H s.heap ∧
      R (.ok (.ret (.ref (s.heap.push o).objs.size))) { s with heap := (s.heap.push o).push { cls := .type "enumerate", data := .fields #[.none, .bool false, .ref s.heap.objs.size, rawInt 0, .none, .none] } }) :=
  .of_wp fun prog w A R s h => by
    obtain ⟨hp, g, d, tk, os⟩ := s; obtain ⟨h1, h⟩ := h
    have hsub := sub_enumerate
    have q1 : ∀ {A' : Around} {E : Value → Shared → Prop} {Q : Value → Shared → Prop}, Q (.ref hp.objs.size) ⟨hp.push o, g, d, tk, os⟩ → wpAny (model prog w) A' (pyIter v) Q E ⟨hp, g, d, tk, os⟩ :=
      fun q => B.iter prog w _ _ ⟨hp, g, d, tk, os⟩ _ h1 q
    wp_walk using q1
    refine wpAny_stack_any fun st => wpAny_pure ?_
    split
    · rename_i c _ _ _ _ _
      cases (c == Value.type "enumerate")
      · wp_walk using q1
        exact ⟨_, rfl, h⟩
      · wp_walk using q1
        exact ⟨_, rfl, h⟩
    · wp_walk using q1
      exact ⟨_, rfl, h⟩
section
variable {prog : Program} {w : World} {A : Around} {E : Value → Shared → Prop} {s : Shared}
theorem enum_begins1 {v : Value} {o : Obj} {H : Heap → Prop} {Q : Value → Shared → Prop} (B : Begins v o H) (h1 : H s.heap)
    (h : ∀ h', IsEnum h' (s.heap.objs.size + 1) s.heap.objs.size 0 .none → h'.get? s.heap.objs.size = some o → h'.objs.size = s.heap.objs.size + 2 →
      (∀ b o, s.heap.get? b = some o → h'.get? b = some o) → Q (.ref (s.heap.objs.size + 1)) { s with heap := h' }) :
    wpAny (model prog w) A (call (.type "enumerate") [v]) Q E s := by
  refine callType_new F.called_enumerate (by decide) (F.typeCall_enumerate_1 _) (F.newCall_enumerate_1 _) (fun obj => F.args_object_init_2 obj _) F.entry_enumerate_new
    (meets_enumT1 B) ⟨h1, ?_⟩
  have hz : (s.heap.push o).objs.size = s.heap.objs.size + 1 := Heap.size_push ..
  show _ ∧ _
  rw [hz]
  have he : IsEnum ((s.heap.push o).push { cls := .type "enumerate", data := .fields #[.none, .bool false, .ref s.heap.objs.size, rawInt 0, .none, .none] }) (s.heap.objs.size + 1) s.heap.objs.size 0 .none := by
    have := Heap.get?_push_size (s.heap.push o) (o := { cls := .type "enumerate", data := .fields #[.none, .bool false, .ref s.heap.objs.size, rawInt 0, .none, .none] }) rfl
    rw [hz] at this; exact this
  refine ⟨⟨_, he, rfl⟩, h _ he (Heap.get?_push_of_some _ (Heap.get?_push_size _ B.free)) (by rw [Heap.size_push, hz]) fun b o x => Heap.get?_push_of_some _ (Heap.get?_push_of_some _ x)⟩
theorem wpAny_pyNext_enumT_end {e it l : Addr} {i : Nat} {items : Array Value} {old : Value} {Q : Option Value → Shared → Prop} (hh : A.handled = none)
    (he : IsEnum s.heap e it i old) (hit : s.heap.IsTupleIter it l i) (hl : s.heap.IsTuple l items) (hx : items[i]? = none)
    (hQ : ∀ h', Heap.ExtBut it s.heap h' → Q none { s with heap := h' }) : wpAny (model prog w) A (pyNext (.ref e)) Q E s := by
  have hT : s.TypeIs (.ref e) "enumerate" := ⟨_, he, rfl⟩
  unfold pyNext
  refine wpAny_bind (wpAny_attempt (wpAny_callSpecial?_slot (name := Str.ofString "__next__") hT F.slot_enumerate_next
    (wpAny_call_entry F.slot_enumerate_next hT F.entry_enumerate_next ?_ (F.args_enumerate_next_1 _))))
  show wpAny _ _ (field (.ref e) 2 >>= _) _ _ _
  refine wpAny_bind (wpAny_field he rfl (x := .ref it) rfl ?_)
  refine wpAny_bind (wpAny_nextOf_tuple_end hh hit hl hx fun h' x he' hx' => ?_)
  obtain ⟨o, ho, hc⟩ := hx'
  refine wpAny_bind (wpAny_isInstance (T := "StopIteration") (b := true) ⟨o, ho, hc⟩ isSubtype_stop ?_)
  exact wpAny_pure (hQ _ he')
end
end PySem
namespace L2
open PySem PyProof.Rows
/-- the tuple at a as it stands at each turn, the items in new pairs -/
def IteT (K : PySem.W.Frag) (a : Addr) : It :=
  ⟨fun i H => ∃ (xs : List V) (x : V), SqT K H a xs ∧ xs[i]? = some x, fun i H v H' => ∃ T x, v = .ref T ∧ H T = none ∧ H' = upd H T (.tup [.int (i : Nat), x]) ∧ ∀ xs, SqT K H a xs → xs[i]? = some x, fun i H => ∃ xs : List V, SqT K H a xs ∧ xs.length ≤ i⟩
theorem turn_enumT {P : Program} {w : World} {K : PySem.W.Frag} {elts : List Expr} {kk : Nat} {tpos : Pos} (a e it : Addr) :
    Turn P w K (.Tuple elts kk tpos) (IteT K a) [e, it] e (fun i h => (∃ old, IsEnum h e it ((i : Nat) : Int) old) ∧ h.IsTupleIter it a i ∧ e ≠ it ∧ a ≠ it ∧ e ≠ a) where
  mem := by simp
  obj := fun i h st b hb => by
    obtain ⟨⟨old, he⟩, ⟨o, ho, hc, hd⟩, _⟩ := st
    have e' : b = e ∨ b = it := by simpa using hb
    rcases e' with z | z
    · rw [z]; exact ⟨_, he, fun v q => nomatch q⟩
    · rw [z]; exact ⟨o, ho, fun v q => by rw [hd] at q; cases q⟩
  keep := fun i h h' st k => let ⟨⟨old, he⟩, hi, hne⟩ := st; ⟨⟨old, k e (by simp) _ he⟩, hi.at fun o q => k it (by simp) o q, hne⟩
  item := by
    intro X hP hw hK hc i pins s σ H E I hf st hg
    subst hP hw hK
    obtain ⟨⟨old, he⟩, hit, hne, hai, hea⟩ := st
    obtain ⟨xs, x, hq, hx⟩ := hg
    obtain ⟨its, rv, p, hz⟩ := I.tuple hq
    obtain ⟨u, hu, ru⟩ := rv.get hx
    have hel : e < s.heap.objs.size := Heap.lt_size he
    have hil : it < s.heap.objs.size := by obtain ⟨_, q, _⟩ := hit; exact Heap.lt_size q
    have hlt : i < its.toArray.size := by
      have := (List.getElem?_eq_some_iff.mp hu).1
      simpa using this
    refine wpAny_pyNext_enum_itemD (Draws.tuple (A := X.A.in1) (I.ok.hd hc) it a hai its.toArray) he ⟨hit, p⟩ hlt hne (by simp [hne, hea]) fun u' h' tk hP ho hst' hT hsz hk => ?_
    have hit' := hst'.1
    have euu : u' = u := by
      have hP' : its.toArray[i]? = some u' := hP
      have : its[i]? = some u' := by simpa using hP'
      rw [hu] at this
      exact (Option.some.inj this).symm
    subst euu
    refine ⟨_, rfl, wpAny_letOwnedTupleGo_enum (s := { s with heap := h', toks := tk + 1 }) ho fun h'' he' sb => ?_⟩
    have hT2 : h''.get? s.heap.objs.size = some { cls := .type "tuple", data := .seq #[.int i tk, u'] } := (sb.2 _ (Nat.ne_of_gt hel)).trans hT
    have new : ObjOk X.prog X.w (upd H s.heap.objs.size (.tup [.int (i : Nat), x])) h'' s.heap.objs.size (.tup [.int (i : Nat), x]) :=
      ⟨by show 2 ≤ sizeLine; decide, [.int i tk, u'], .cons ⟨_, rfl⟩ (.cons ru .nil), ⟨_, hT2, rfl, _, rfl⟩⟩
    have I1 : Inv X pins σ (upd H s.heap.objs.size (.tup [.int (i : Nat), x])) { s with heap := h'', toks := tk + 1 } :=
      I.turnedNew (ch := [e, it]) (fun b ob hb q => (sb.2 b (fun z => hb (by simp [z]))).trans (hk b ob (fun z => hb (by simp [z])) (fun z => hb (by simp [z])) q)) hf (Nat.le_refl _) new
    refine ⟨.ref s.heap.objs.size, _, I1, rfl, ⟨_, x, rfl, I.hok.fresh (Nat.le_refl _), rfl, fun ys hy => by rw [I.tuple_inj hy hq]; exact hx⟩, ⟨⟨u', ?_⟩, hit'.at fun o q => (sb.2 it (Ne.symm hne)).trans q, hne, hai, hea⟩, fun b hb => ?_⟩
    · have e1 : ((i + 1 : Nat) : Int) = (i : Int) + 1 := by omega
      rw [e1]; exact he'
    · have hb' : b < s.heap.objs.size := by
        have e' : b = e ∨ b = it := by simpa using hb
        rcases e' with z | z
        · rw [z]; exact hel
        · rw [z]; exact hil
      rw [upd_ne (Nat.ne_of_lt hb')]
      exact (hf b hb).1
  done := by
    intro X hP hw hK hc i pins s σ H E I hf st hg
    subst hP hw hK
    obtain ⟨⟨old, he⟩, hit, hne, hai, hea⟩ := st
    obtain ⟨xs, hq, hx⟩ := hg
    obtain ⟨its, rv, p, hz⟩ := I.tuple hq
    obtain ⟨f0, f1, f2, f3, f4, f5⟩ := hf it (by simp)
    have hl := rv.length
    exact wpAny_pyNext_enumT_end (I.ok.hd hc) he hit (show s.heap.IsTuple a its.toArray from p) (by simp; omega) fun h' eb => ⟨rfl, I.turned (t' := s.toks) (fun b o hb q => eb b o hb q) f0 f1 f3 f4 f5⟩
  self := fun A i s Q E st h => let ⟨⟨_, he⟩, _⟩ := st; wpAny_pyIter_enum he h
def iEnumT (K : PySem.W.Frag) (ta : TA) : TI := fun σ H R => ta σ H fun vs H1 => ∃ a xs, vs = [.ref a] ∧ SqT K H1 a xs ∧ R (IteT K a) H1
theorem pi_enumT {X : Cx} {e : Expr} {ta : TA} {p pos tpos : Pos} {elts : List Expr} {kk : Nat} (hg : Gl X "enumerate") (hm : X.mg "enumerate" = none) (ha : PA X [e] ta) (hs : starEach [e] X.env = [(false, eval e X.env)] := by rfl) :
    PI X (.Tuple elts kk tpos) (.Call (.Name "enumerate" p) [e] [] pos) (iEnumT X.K ta) := by
  refine ⟨fun pins s σ H R I h => ?_⟩
  refine Call_ (ld_blt I hg hm boot_enumerate (PyProof.Rows.callWith_type1 (thn (ha.run pos pins s σ H _ I h) fun us s1 ⟨vs, H1, I1, r1, q1⟩ => ?_) hs rfl))
  obtain ⟨a, xs, ex, hq, q⟩ := q1
  subst ex
  cases r1 with
  | cons r rr =>
    cases rr
    cases r
    obtain ⟨its, rv, p', hz⟩ := I1.tuple hq
    have hla : a < s1.heap.objs.size := by obtain ⟨o1, ho1, _⟩ := id p'; exact Heap.lt_size ho1
    refine enum_begins1 (begins_tuple a its.toArray) (show s1.heap.IsTuple a its.toArray from p') fun h' he hit hsz hk => wpAny_pyIter_enum he ?_
    have I2 : Inv X pins σ H1 { s1 with heap := h' } := I1.kept (t' := s1.toks) hk
    refine ⟨s1.heap.objs.size + 1, [s1.heap.objs.size + 1, s1.heap.objs.size], _, _, H1, rfl, I2, turn_enumT a (s1.heap.objs.size + 1) s1.heap.objs.size, ⟨⟨.none, he⟩, ⟨_, hit, rfl, rfl⟩, Nat.succ_ne_self _, Nat.ne_of_lt hla, (Nat.ne_of_lt (Nat.lt_succ_of_lt hla)).symm⟩, fun b hb => ?_, q⟩
    have e' : b = s1.heap.objs.size + 1 ∨ b = s1.heap.objs.size := by simpa using hb
    have hle : s1.heap.objs.size ≤ b := by
      rcases e' with z | z
      · rw [z]; exact Nat.le_add_right _ _
      · rw [z]; exact Nat.le_refl _
    exact I1.fpOk hle (I1.hok.fresh hle)
end L2
namespace DM
open PySem PySem.Spec L2 PyProof.Rows
noncomputable section
def enumT (a : Val) : M Iter := fun S => match a with
  | .pd (.tuple xs) => some (⟨enumD xs, none⟩, S)
  | _ => none
def iEnumT (fa : DEnv → M Val) : DEnv → M Iter := fun ρ S => bindR (fa ρ S) fun a S1 => enumT a S1
@[simp] theorem iEnumT_e {fa : DEnv → M Val} {ρ : DEnv} {S : Store} : iEnumT fa ρ S = bindR (fa ρ S) fun a S1 => enumT a S1 := rfl
@[simp] theorem enumT_tup {xs : List PyData} {S : Store} : enumT (.pd (.tuple xs)) S = some (⟨enumD xs, none⟩, S) := rfl
theorem itOk_enumT {K : PySem.W.Frag} {cl : Nat → Addr} {wd : Wd} {S : Store} {H : Hp} {a : Addr} {xs : List PyData} (ha : SrcT K cl wd S H a xs) : ItOk K cl (IteT K a) (enumD xs) wd S H := fun wd' S' H' w x => by
  obtain ⟨vs, ea, ra⟩ := ha wd' S' H' w x
  have hl : (enumD xs).length = xs.length := by simp [enumD]
  have l1 := ra.length
  refine ⟨⟨vs, ea, by omega⟩, fun i hi => ?_⟩
  have h1 : i < vs.length := by omega
  refine ⟨⟨vs, vs[i], ea, by simp [h1]⟩, fun z H'' yl => ?_⟩
  obtain ⟨T, v, rfl, hT, rfl, yv⟩ := yl
  obtain ⟨d, hd, rd⟩ := RpAll.at' ra (yv vs ea)
  obtain ⟨w2, x2, r2⟩ := w.newT (.cons (.int _) (.cons rd .nil)) hT
  exact ⟨_, enum_get hd, w2, x2, r2⟩
section
variable {X : Cx} {cl : Nat → Addr} {e : Expr} {fa : DEnv → M Val} {p pos tpos : Pos} {elts : List Expr} {kk : Nat}
theorem di_enumT (hg : Gl X "enumerate") (hm : X.mg "enumerate" = none) (ha : DE X cl e fa) (hs : starEach [e] X.env = [(false, eval e X.env)] := by rfl) : DI X cl (.Tuple elts kk tpos) (.Call (.Name "enumerate" p) [e] [] pos) (iEnumT fa) := by
  obtain ⟨t1, p1, s1⟩ := ha
  refine ⟨_, pi_enumT hg hm (pa_cons p1 pa_nil (by rw [hs]; rfl)) hs, fun wd σ ρ S H R it S' w q h k => ?_⟩
  obtain ⟨a, S1, h1, hz⟩ := bindR_inv h
  clear h
  refine s1 wd σ ρ S H _ a S1 w q h1 fun wd1 v1 H1 w1 x1 r1 => ?_
  unfold enumT at hz
  split at hz
  · cases hz
    cases r1 with
    | tup f1 q1 => exact ⟨_, _, rfl, f1.sq, k wd1 _ H1 _ w1 x1 rfl w1 (itOk_enumT (srcT_frz f1 q1))⟩
  · cases hz
theorem lk_enumT : ∀ ρ S it S', iEnumT fa ρ S = some (it, S') → ∀ h o, it.lk = some (h, o) → (∃ xs, o = Ob.lst xs) ∨ ∃ xs, o = Ob.lsv xs := fun ρ S it S' h hh o e => by
  obtain ⟨a, S1, h1, hz⟩ := bindR_inv h
  unfold enumT at hz
  split at hz
  · cases hz; cases e
  · cases hz
end
end
end DM
set_option Elab.async false
set_option linter.all false
set_option maxRecDepth 100000
set_option maxHeartbeats 4000000
/-! DMPar: x, y = (a, b) with local names -/
namespace DM
open PySem PySem.Spec L2 PyProof.Rows
noncomputable section
section
variable {X : Cx} {cl : Nat → Addr} {pos : Pos}
theorem ds_par (i j : Nat) {x y : Str} {a b : Expr} {fs : DEnv → M (List Val)} {px py pt : Pos} {kt k2 pt2} (hc : X.calm = true) (hN : X.N.Nodup) (hi : X.N[i]? = some x) (hj : X.N[j]? = some y) (hij : i ≠ j)
    (hx : X.env.scope.names.lookup x = some .local) (hy : X.env.scope.names.lookup y = some .local) (ha : DA X cl [a, b] fs)
    (hw : swappedStores [.Tuple [.Name x px, .Name y py] kt pt] (.Tuple [a, b] k2 pt2) X.env = pure (some [x, y]) := by rfl)
    (hs : swapsWithSole [.Tuple [.Name x px, .Name y py] kt pt] (.Tuple [a, b] k2 pt2) pos.line X.env = pure false := by rfl) :
    DS X cl (.Assign [.Tuple [.Name x px, .Name y py] kt pt] (.Tuple [a, b] k2 pt2) pos) (gAsg (eA uTup fs) (nTup 2 (nsCons (nName i) (nsCons (nName j) nsNil)))) := by
  obtain ⟨t, p, s⟩ := ha
  refine ⟨_, ps_par hc hN hi hj hij hx hy p hw hs, fun wd σ ρ S H D fl S' w q h k => ?_⟩
  obtain ⟨d, S1, h1, h⟩ := bindR_inv h
  obtain ⟨ds, S0, h0, h1⟩ := bindR_inv h1
  obtain ⟨ρ2, S2, h2, h⟩ := bindR_inv h
  refine s wd σ ρ S H _ ds S0 w q h0 fun wd1 vs H1 w1 x1 r1 => ?_
  have h1' : (match allPd ds with
    | some xs => if xs.length ≤ 16777216 then some (Val.pd (.tuple xs), S0) else none
    | none => none) = some (d, S1) := h1
  cases e : allPd ds with
  | none => rw [e] at h1'; cases h1'
  | some xs =>
    rw [e] at h1'
    simp only at h1'
    split at h1'
    · cases h1'
      have e2 := allPd_eq e
      subst e2
      have h2' : (if xs.length = 2 then nsCons (nName i) (nsCons (nName j) nsNil) (xs.map Val.pd) ρ S1 else none) = some (ρ2, S2) := h2
      split at h2'
      · rename_i l2
        match xs, l2 with
        | [u, v], _ =>
          cases h2'
          cases h
          cases r1 with
          | cons ra r1 =>
            cases r1 with
            | cons rb r1 =>
              cases r1
              exact ⟨_, _, rfl, k wd1 _ H1 w1 x1 (((q.ext x1).set i ra).set j rb)⟩
      · cases h2'
    · cases h1'
def truD : Val → Option Bool
  | .pd .none => some false
  | .pd (.tuple xs) => some (!xs.isEmpty)
  | _ => none
/-- a or b, of what is no truth -/
def eOrT (fa fb : DEnv → M Val) : DEnv → M Val := fun ρ S => bindR (fa ρ S) fun a S1 => match truD a with
  | some true => some (a, S1)
  | some false => fb ρ S1
  | none => none
@[simp] theorem eOrT_e {fa fb : DEnv → M Val} {ρ : DEnv} {S : Store} : eOrT fa fb ρ S = bindR (fa ρ S) fun a S1 => match truD a with
  | some true => some (a, S1)
  | some false => fb ρ S1
  | none => none := rfl
theorem de_orT {a b : Expr} {rest : List Expr} {fa fb : DEnv → M Val} (ha : DE X cl a fa) (hb : DE X cl (.BoolOp .Or (b :: rest) pos) fb) : DE X cl (.BoolOp .Or (a :: b :: rest) pos) (eOrT fa fb) := by
  obtain ⟨t, p, s⟩ := ha
  obtain ⟨t', p', s'⟩ := hb
  refine ⟨_, pe_orT p p', fun wd σ ρ S H Q d S' w q h k => ?_⟩
  obtain ⟨x, S1, h1, h⟩ := bindR_inv h
  refine s wd σ ρ S H _ x S1 w q h1 fun wd1 v1 H1 w1 x1 r1 => ?_
  have tr : ∀ c, truD x = some c → TruV X.K v1 H1 c := fun c hc => by
    unfold truD at hc
    split at hc
    · cases hc
      cases r1
      rfl
    · cases hc
      cases r1 with
      | tup f rr =>
        refine .inr (.inl ⟨_, f.sq, ?_⟩)
        cases rr <;> rfl
    · cases hc
  cases e : truD x with
  | none => rw [e] at h; cases h
  | some c =>
    rw [e] at h
    refine ⟨c, tr c e, ?_⟩
    cases c with
    | true =>
      cases h
      exact iteT (k wd1 _ H1 w1 x1 r1)
    | false =>
      exact iteF (s' wd1 σ ρ S1 H1 Q d S' w1 (q.ext x1) h fun wd2 v2 H2 w2 x2 r2 => k wd2 v2 H2 w2 (x1.trans x2) r2)
end
end
end DM
set_option Elab.async false
set_option linter.all false
set_option maxRecDepth 100000
set_option maxHeartbeats 4000000
/-! DMItems: sorted(d.items()), keys and worths whole numbers -/
namespace L2.DX
open PySem PyProof.Rows L2
section
variable {X : Cx}
def rItemsK : V → List V → Hp → VK → Prop := fun x xs H Q => ∃ (a : Addr) (kvs : List (Key × V)), x = .ref a ∧ xs = [] ∧ H a = some (.dK kvs) ∧ ∀ p, H p = none → Q (.ref p) (upd H p (itemsO p a))
theorem mt_itemsK : MtR X "dict.items" rItemsK := by
  intro pins s σ H x xs v us Q I rx rxs h
  obtain ⟨a, kvs, rfl, rfl, ha, q⟩ := h
  cases rx
  cases rxs
  obtain ⟨z, hd, vs, rel, o, es, ep, ho, hx, hdat, _⟩ := dk_of I.hok ha
  refine DT.callItems (es := es) (ep := ep) hd ⟨o, ho, hx, hdat⟩ ?_
  have hf : H s.heap.objs.size = none := I.hok.fresh (Nat.le_refl _)
  exact ⟨.ref s.heap.objs.size, upd H s.heap.objs.size (itemsO s.heap.objs.size a), I.laid (t' := s.toks) (fun b u e => Heap.get?_push_of_some _ e) (Nat.le_refl _) (itemsO_ok (Heap.get?_push_size _ rfl)), rfl, q _ hf⟩
def kvI (ps : List (Int × Int)) : List (Key × V) := ps.map fun q => (Sum.inl q.1, V.int q.2)
def rSortItK : List V → Hp → VK → Prop := fun vs H Q => ∃ (p a : Addr) (ps : List (Int × Int)), vs = [.ref p] ∧ H p = some (itemsO p a) ∧ H a = some (.dK (kvI ps)) ∧
  ∀ (H' : Hp) (l : Addr) (zs : List (Addr × Int × Int)), (∀ b o, H b = some o → H' b = some o) → (zs.map (·.2)).Perm ps → (zs.map (·.2)).Pairwise (fun x y => SrtO.lexB y x = false) → H l = none → H' l = some (.lst (zs.map fun z => V.ref z.1)) →
    (∀ z ∈ zs, H z.1 = none ∧ H' z.1 = some (.tup [.int z.2.1, .int z.2.2])) → Q (.ref l) H'
/-- the pair a made tuple stands for -/
def kOf (as : List Addr) (ps : List (Int × Int)) : Value → Int × Int
  | .ref a => ps.getD (as.idxOf a) (0, 0)
  | _ => (0, 0)
theorem cr_sortItK (hc : X.calm = true) (hu : X.A.units + 64 < cLine) : CallR X (.builtin "sorted") rSortItK := by
  intro pins s σ H xs us Q I r h
  obtain ⟨p, a, ps, rfl, hp, ha, q⟩ := h
  obtain rfl := Vals.ref1 r
  have view : s.heap.IsItemsView p a := (show ObjOk X.prog X.w H s.heap p (itemsO p a) from I.hok p _ hp).1
  obtain ⟨z, hd, vs, rel, o, es, ep, ho, hx, hdat, hks, hprs, hn⟩ := dk_of I.hok ha
  have l1 : (kvI ps).length = vs.length := Paired.length rel
  have lk : (kvI ps).length = ps.length := by simp [kvI]
  have l2 : es.size = vs.length := by rw [← Array.length_toList]; exact hprs.length
  have hh : X.A.handled = none := I.ok.hd hc
  refine DT.sortedI (es := es) (ep := ep) hh view ⟨o, ho, hx, hdat⟩ (by rw [l2, ← l1]; exact z) fun h' tk as hk hlt hl hG => ?_
  have lak : as.length = ps.length := by omega
  have nd : as.Nodup := List.Pairwise.imp (fun h => Nat.ne_of_lt h) hG.rise
  -- the pairs that were made
  have pr : ∀ (j : Nat) (b : Addr), as[j]? = some b → ∃ (e : Int × Int) (t1 t2 : Tok), ps[j]? = some e ∧ h'.get? b = some { cls := .type "tuple", data := .seq #[Value.int e.1 t1, Value.int e.2 t2] } := by
    intro j b hj
    obtain ⟨en, he, hg⟩ := hG.pairs j b hj
    have hjl : j < ps.length := by
      have := (List.getElem?_eq_some_iff.mp hj).1
      omega
    have hvl : j < vs.length := by omega
    have hvs : vs[j]? = some vs[j] := List.getElem?_eq_getElem hvl
    obtain ⟨y, hy, y1, y2⟩ := pget rel hvs
    have hy' : (kvI ps)[j]? = some (Sum.inl ps[j].1, V.int ps[j].2) := by unfold kvI; rw [List.getElem?_map, List.getElem?_eq_getElem hjl]; rfl
    have ye : y = (Sum.inl ps[j].1, V.int ps[j].2) := Option.some.inj (hy.symm.trans hy')
    rw [ye] at y1 y2
    obtain ⟨k1, k2⟩ := hprs.get? (by rw [Array.getElem?_toList]; exact he) (show vs[j]? = some (vs[j].1, vs[j].2) from hvs)
    rw [← y1] at k1
    obtain ⟨t2, hv2⟩ : ∃ t2, vs[j].2 = Value.int ps[j].2 t2 := y2
    rcases keyIs_shape (show keyIs (Sum.inl ps[j].1) en.key = true from k1) with ⟨i1, t1, ek, hk1⟩ | ⟨z1, t1, ek, _⟩
    · cases ek
      refine ⟨ps[j], t1, t2, List.getElem?_eq_getElem hjl, ?_⟩
      rw [hg, hk1, k2, hv2]
    · cases ek
  -- the heap of the sort
  have hob : (h'.push { cls := .type "list", data := .seq (as.map Value.ref).toArray }).get? h'.objs.size = some (seqObj "list" (as.map Value.ref).toArray 0) := Heap.get?_push_size _ rfl
  have kb : ∀ b o, s.heap.get? b = some o → (h'.push { cls := .type "list", data := .seq (as.map Value.ref).toArray }).get? b = some o := fun b o e => Heap.get?_push_of_some _ (hk b o e)
  have ne0 : ∀ b o, h'.get? b = some o → b ≠ h'.objs.size := fun b o e => Nat.ne_of_lt (Heap.lt_size e)
  generalize hh2 : h'.push { cls := .type "list", data := .seq (as.map Value.ref).toArray } = h2 at hob kb ⊢
  have ka : ∀ b o, h'.get? b = some o → h2.get? b = some o := fun b o e => by rw [← hh2]; exact Heap.get?_push_of_some _ e
  have kof : ∀ (j : Nat) (b : Addr) (e : Int × Int), as[j]? = some b → ps[j]? = some e → kOf as ps (.ref b) = e := fun j b e hj he => by
    obtain ⟨hjl, ej⟩ := List.getElem?_eq_some_iff.mp hj
    have ix : as.idxOf b = j := by rw [← ej]; exact nd.idxOf_getElem j hjl
    show ps.getD (as.idxOf b) (0, 0) = e
    rw [ix, List.getD_eq_getElem?_getD, he]
    rfl
  have at_ : ∀ v ∈ as.map Value.ref, ∃ (j : Nat) (b : Addr) (e : Int × Int) (t1 t2 : Tok), v = .ref b ∧ as[j]? = some b ∧ ps[j]? = some e ∧ h'.get? b = some { cls := .type "tuple", data := .seq #[Value.int e.1 t1, Value.int e.2 t2] } := by
    intro v hv'
    obtain ⟨b, hb, rfl⟩ := List.mem_map.mp hv'
    obtain ⟨j, hj⟩ := List.mem_iff_getElem?.mp hb
    obtain ⟨e, t1, t2, he, hg⟩ := pr j b hj
    exact ⟨j, b, e, t1, t2, rfl, hj, he, hg⟩
  have isp : ∀ v ∈ as.map Value.ref, Srt.IsPair h2 v (kOf as ps v).1 (kOf as ps v).2 := fun v hv => by
    obtain ⟨j, b, e, t1, t2, rfl, hj, he, hg⟩ := at_ v hv
    rw [kof j b e hj he]
    exact ⟨b, _, t1, t2, 0, rfl, ka _ _ hg, rfl, rfl⟩
  have hz' : (as.map Value.ref).length ≤ sizeLine := by rw [List.length_map, lak, ← lk]; exact z
  refine wpAny_call_entry PyProof.Rows.slot_list_sort ⟨_, hob, rfl⟩ PyProof.Rows.entry_list_sort
    (SrtO.list_sort_ord (s := { s with heap := h2, toks := tk }) (SrtO.swo_lex fun u => kOf as ps u) hob hz' (fun h2' => SrtO.pairs_sortableO (by omega) isp fun o e => by
      have e' : some o = some (seqObj "list" (as.map Value.ref).toArray 0) := e.symm.trans hob
      cases e'
      intro c
      exact absurd (Value.type.inj c) (by decide)) fun out o1 o2 => ⟨.none, rfl, ?_⟩) (PyProof.Rows.args_list_sort _)
  show EP X pins σ Q (.ref h'.objs.size) { s with heap := sortedHeap h2 h'.objs.size (as.map Value.ref) out.toArray, toks := tk }
  have lak2 : as.length = ps.length := lak
  obtain ⟨zs, pz, ez⟩ := perm_lift (fun z : Addr × Int × Int => Value.ref z.1) o2.perm (as.zip ps) (by
    rw [show (fun z : Addr × Int × Int => Value.ref z.1) = Value.ref ∘ Prod.fst from rfl, ← List.map_map, List.map_fst_zip (by rw [lak]; exact Nat.le_refl _)])
  have idx : ∀ z ∈ zs, ∃ j : Nat, as[j]? = some z.1 ∧ ps[j]? = some z.2 := by
    intro z' hz'
    obtain ⟨j, hj⟩ := List.mem_iff_getElem?.mp (pz.mem_iff.mp hz')
    exact ⟨j, List.getElem?_zip_eq_some.mp hj⟩
  have hperm : (zs.map (·.2)).Perm ps := by
    have e := pz.map (·.2)
    have m2 : (as.zip ps).map (·.2) = ps := List.map_snd_zip (by rw [lak]; exact Nat.le_refl _)
    rw [m2] at e
    exact e
  have hsort : (zs.map (·.2)).Pairwise (fun x y => SrtO.lexB y x = false) := by
    have o1' : out.Pairwise fun x y => SrtO.lexB (kOf as ps y) (kOf as ps x) = false := o1
    rw [← ez, List.pairwise_map] at o1'
    rw [List.pairwise_map]
    refine List.Pairwise.imp_of_mem (fun {x y} hx hy h => ?_) o1'
    obtain ⟨j, j1, j2⟩ := idx x hx
    obtain ⟨i, i1, i2⟩ := idx y hy
    rw [kof j _ _ j1 j2, kof i _ _ i1 i2] at h
    exact h
  -- behind the sort
  have kF : ∀ b o, b ≠ h'.objs.size → h2.get? b = some o → (sortedHeap h2 h'.objs.size (as.map Value.ref) out.toArray).get? b = some o := fun b o hb e => (PyProof.Rows.sortedHeap_old hb (Heap.lt_size e)).trans e
  have kS : ∀ b o, s.heap.get? b = some o → (sortedHeap h2 h'.objs.size (as.map Value.ref) out.toArray).get? b = some o := fun b o e => kF b o (ne0 _ _ (hk b o e)) (kb b o e)
  obtain ⟨eF, heF⟩ := PyProof.Rows.sortedHeap_at (vs := as.map Value.ref) (out := out.toArray) hob
  have I1 : Inv X pins σ H { s with heap := sortedHeap h2 h'.objs.size (as.map Value.ref) out.toArray, toks := tk } := I.kept (t' := tk) kS
  have hn0 : H h'.objs.size = none := I.hok.fresh (Nat.le_of_lt hlt)
  have hlen : (zs.map fun z => V.ref z.1).length ≤ sizeLine := by
    have e := hperm.length_eq
    rw [List.length_map] at e
    rw [List.length_map, e, ← lk]
    exact z
  have rv : Vals (zs.map fun z => V.ref z.1) out := by
    rw [← ez]
    exact vals_maps (fun z : Addr × Int × Int => V.ref z.1) (fun z => Value.ref z.1) zs fun _ _ => rfl
  have I2 : Inv X pins σ (upd H h'.objs.size (.lst (zs.map fun z => V.ref z.1))) { s with heap := sortedHeap h2 h'.objs.size (as.map Value.ref) out.toArray, toks := tk } :=
    I1.take (h' := sortedHeap h2 h'.objs.size (as.map Value.ref) out.toArray) (t' := tk) (fun b ob _ e => e) (I.fpOk (Nat.le_of_lt hlt) hn0) ⟨hlen, out, eF, rv, heF⟩
  obtain ⟨H2, I3, g, qt⟩ := takeT (P := fun b vs => ∃ (j : Nat) (e : Int × Int), as[j]? = some b ∧ ps[j]? = some e ∧ vs = [.int e.1, .int e.2]) I as _ I2 nd fun b hb => by
    obtain ⟨j, hj⟩ := List.mem_iff_getElem?.mp hb
    obtain ⟨e, t1, t2, he, hg⟩ := pr j b hj
    have hbl : s.heap.objs.size ≤ b := Nat.le_of_lt (hG.above b hb)
    refine ⟨hbl, ?_, [.int e.1, .int e.2], ⟨j, e, hj, he, rfl⟩, fun H3 => ⟨(by rw [sizeLine_eq]; show 2 ≤ 16777216; omega), [Value.int e.1 t1, Value.int e.2 t2], .cons ⟨_, rfl⟩ (.cons ⟨_, rfl⟩ .nil), ⟨_, kF _ _ (ne0 _ _ hg) (ka _ _ hg), rfl, 0, rfl⟩⟩⟩
    rw [upd_ne (ne0 _ _ hg)]
    exact I.hok.fresh hbl
  have gr : ∀ b o, H b = some o → H2 b = some o := fun b o e => g b o (by rw [upd_ne (ne_of_none e hn0)]; exact e)
  refine ⟨.ref h'.objs.size, H2, I3, rfl, q H2 h'.objs.size zs gr hperm hsort hn0 (g _ _ upd_same) fun z' hz' => ?_⟩
  obtain ⟨i, i1, i2⟩ := idx z' hz'
  obtain ⟨vs', ⟨j, e, j1, j2, ev⟩, hH⟩ := qt z'.1 (List.mem_of_getElem? i1)
  have eij : i = j := (List.getElem?_inj (List.getElem?_eq_some_iff.mp i1).1 nd).mp (i1.trans j1.symm)
  subst eij
  have ee : e = z'.2 := Option.some.inj (j2.symm.trans i2)
  rw [ev, ee] at hH
  exact ⟨I.hok.fresh (Nat.le_of_lt (hG.above z'.1 (List.mem_of_getElem? i1))), hH⟩
end
end L2.DX
set_option Elab.async false
set_option linter.all false
set_option maxRecDepth 100000
set_option maxHeartbeats 4000000
/-! DMItems2: sorted(d.items()) -/
namespace DM
open PySem PySem.Spec L2 PyProof.Rows
noncomputable section
def allII : List (Key × PyData) → Option (List (Int × Int))
  | [] => some []
  | (.inl k, .int v) :: r => (allII r).map ((k, v) :: ·)
  | _ => none
theorem allII_kv {K : PySem.W.Frag} {H : Hp} {O : Addr → Prop} : ∀ {ks : List (Key × V)} {kvs : List (Key × PyData)} {ps : List (Int × Int)}, PKV (Rp K H O) ks kvs → allII kvs = some ps → ks = L2.DX.kvI ps
  | _, _, ps, .nil, h => by
    cases h
    rfl
  | (k, v) :: ks, (k', d) :: kvs, ps, .cons ⟨e, r⟩ t, h => by
    dsimp only at e r
    subst e
    cases k with
    | inr x => cases d <;> cases h
    | inl i =>
      cases d with
      | int w =>
        unfold allII at h
        cases h2 : allII kvs with
        | none => rw [h2] at h; cases h
        | some qs =>
          rw [h2] at h
          cases h
          cases r
          rw [allII_kv t h2]
          rfl
      | _ => cases h
theorem zs_rp {K : PySem.W.Frag} {H : Hp} {O : Addr → Prop} : ∀ (zs : List (Addr × Int × Int)), (∀ z ∈ zs, H z.1 = some (.tup [.int z.2.1, .int z.2.2]) ∧ ¬ O z.1) → RpAll K H O (zs.map fun z => V.ref z.1) ((zs.map (·.2)).map prX)
  | [], _ => .nil
  | z :: zs, h => .cons (.tup (h z (List.mem_cons_self ..)) (.cons (.int _) (.cons (.int _) .nil))) (zs_rp zs fun y hy => h y (List.mem_cons_of_mem _ hy))
def uSortIt : Val → M Val := fun x S => match x with
  | .obj h => match S[h]? with
    | some (.dK kvs) => (allII kvs).map fun ps => (.pd (.list ((sortP ps).map prX)), S)
    | _ => none
  | _ => none
section
variable {X : Cx} {cl : Nat → Addr} {e : Expr} {fe : DEnv → M Val} {apos cpos pos p : Pos}
theorem de_sortIt (hc : X.calm = true) (hu : X.A.units + 64 < cLine) (he : DE X cl e fe) (hg : Gl X "sorted") (hm : X.mg "sorted" = none) (hv : bootBuiltins "sorted" = some (.builtin "sorted") := by decide +kernel) (hbase : attributeBase e "items" X.env (eval e X.env) = eval e X.env := by rfl) (hline : (apos.endLine == cpos.line) = true := by rfl)
    (hs : starEach [.Call (.Attribute e "items" apos) [] [] cpos] X.env = (false, eval (.Call (.Attribute e "items" apos) [] [] cpos) X.env) :: starEach [] X.env := by rfl) :
    DE X cl (.Call (.Name "sorted" p) [.Call (.Attribute e "items" apos) [] [] cpos] [] pos) (eU uSortIt fe) := by
  obtain ⟨t1, p1, s1⟩ := he
  have pi := pe_bm0 (X := X) PySem.F.plainAttrs_dict PySem.F.slot_dict_items PySem.F.type_dict_items L2.DX.mt_itemsK p1 hbase hline
  refine ⟨_, pe_callB (L2.DX.cr_sortItK hc hu) hg hm hv (pa_cons pi pa_nil hs) (by decide) (by decide) hs (by rfl), fun wd σ ρ S H Q d S' w q h k => ?_⟩
  obtain ⟨x, S1, h1, hz⟩ := bindR_inv h
  clear h
  refine s1 wd σ ρ S H _ x S1 w q h1 fun wd1 v1 H1 w1 x1 r1 => ?_
  unfold uSortIt at hz
  split at hz
  · rename_i hh
    have r1' := r1
    obtain ⟨hi, rfl⟩ := r1
    split at hz
    · rename_i kvs e1
      obtain ⟨ps, e2, hz⟩ := Option.map_eq_some_iff.mp hz
      cases hz
      obtain ⟨f, ks, e3, pk⟩ := w1.ob hh _ e1
      have ek := allII_kv pk e2
      subst ek
      refine ⟨w1.ty r1' (by simp [isTy, e1]), _, _, rfl, rfl, e3, fun p hp => ?_⟩
      refine ⟨p, _, ps, rfl, upd_same, by rw [upd_ne (ne_of_none e3 hp)]; exact e3, fun H' l zs gr perm srt hl hl' hzs => ?_⟩
      have hk : ∀ b o, H1 b = some o → H' b = some o := fun b o eb => gr b o (by rw [upd_ne (ne_of_none eb hp)]; exact eb)
      have fr : ∀ b, upd H1 p (L2.DX.itemsO p (wd1.ad hh)) b = none → H1 b = none := fun b hb => by
        by_cases ebp : b = p
        · subst ebp
          rw [upd_same] at hb
          cases hb
        · rw [upd_ne ebp] at hb
          exact hb
      have es : zs.map (·.2) = sortP ps := sortP_uniq perm (srt.imp fun h => by unfold leP; rw [h]; rfl)
      have rp := zs_rp (K := X.K) zs fun z hz => ⟨(hzs z hz).2, w1.fresh (fr _ (hzs z hz).1)⟩
      rw [es] at rp
      exact k wd1 _ H' (w1.mono_all hk) (x1.trans (Ext.all w1 hk)) (.lst ⟨.inl hl', w1.fresh (fr _ hl)⟩ rp)
    · cases hz
  · cases hz
end
end
end DM
set_option Elab.async false
set_option linter.all false
set_option maxRecDepth 100000
set_option maxHeartbeats 4000000
/-! DMInT: x in a tuple of data -/
namespace DM
open PySem PySem.Spec L2 PyProof.Rows
noncomputable section
def rInT (K : PySem.W.Frag) : R2 := fun x y H Q => ∃ d ds, Dp K H x d ∧ Dp K H y (.tuple ds) ∧ SeqAt.shaped d = true ∧ SeqAt.shaped (.tuple ds) = true ∧ Q (.bl (ds.any fun z => PyData.eqv z d)) H
theorem op_inT {X : Cx} (hu : X.A.units + 65 < cLine) : OpR X (compareOp .In) (rInT X.K) := by
  intro pins s σ H x y v u Q I rx ry h
  obtain ⟨d, ds, hd, he, sd, se, q⟩ := h
  obtain ⟨as, r1⟩ := Dp.reads I d x v hd rx
  obtain ⟨bs, r2⟩ := Dp.reads I (.tuple ds) y u he ry
  exact SeqAt.in_tuple_reads r2 r1 (SeqAt.canLay_of_shaped se) (SeqAt.canLay_of_shaped sd) (room_in_shaped sd hu) ⟨.bl _, H, I, rfl, q⟩
def uInT : Val → Val → M Val := fun a b S => match b with
  | .pd (.tuple ys) => match toD a S with
    | some x => if SeqAt.shaped x = true ∧ SeqAt.shaped (.tuple ys) = true then some (.pd (.bool (ys.any fun z => PyData.eqv z x)), S) else none
    | none => none
  | _ => none
theorem so_inT {K : PySem.W.Frag} {cl : Nat → Addr} : SimO K cl (rInT K) uInT := fun wd S H x y dx dy Q d S' w rx ry h k => by
  unfold uInT at h
  split at h
  · rename_i ys
    split at h
    · rename_i z e
      split at h
      · rename_i hs
        cases h
        exact ⟨_, _, w.toD rx e, w.toD ry rfl, hs.1, hs.2, k wd _ H w .refl (.bl _)⟩
      · cases h
    · cases h
  · cases h
theorem uInT_D {S : Store} {a : Val} {x : PyData} {ys : List PyData} {n : Nat} (ha : toD a S = some x) (hx : plD n x = true) (hy : plA n ys = true) (hn : n < 60) {p : Bool} (hp : p = true ↔ x ∈ ys) : uInT a (.pd (.tuple ys)) S = some (.pd (.bool p), S) := by
  have s1 := pl_shaped hx (by omega)
  have s2 : SeqAt.shaped (.tuple ys) = true := pl_shaped (n := n + 1) hy (by omega)
  unfold uInT
  simp only [ha]
  have : (ys.any fun z => PyData.eqv z x) = p := by rw [Bool.eq_iff_iff, any_eqv hx hy, hp]
  rw [if_pos ⟨s1, s2⟩, this]
end
end DM
set_option Elab.async false
set_option linter.all false
set_option maxRecDepth 100000
set_option maxHeartbeats 4000000
namespace PG
open PySem L2 PyProof.Rows DM 
noncomputable section
def G_mark_of : DEnv → M Fl := (gSeq (gAsg (eVar 1) (nTup 2 (nsCons (nName 2) (nsCons (nName 3) nsNil))))
    (gRet (eO uMod (eO uAdd (eO uMul (eVar 0) (eVar 2)) (eVar 3)) (eC (.int 65536)))))
theorem F_mark_of_x : ∃ F, F = fnF 4 G_mark_of exitF := ⟨_, rfl⟩
def F_mark_of : List Val → M Val := Classical.choose F_mark_of_x
theorem F_mark_of_e : F_mark_of = fnF 4 G_mark_of exitF := Classical.choose_spec F_mark_of_x
def G_place_of : DEnv → M Fl := (gRet (eO uMod (eVar 0) (eVar 1)))
theorem F_place_of_x : ∃ F, F = fnF 2 G_place_of exitF := ⟨_, rfl⟩
def F_place_of : List Val → M Val := Classical.choose F_place_of_x
theorem F_place_of_e : F_place_of = fnF 2 G_place_of exitF := Classical.choose_spec F_place_of_x
def G_is_whole : DEnv → M Fl := (gRet (eAnd (eU (uIsi "int") (eVar 0)) (eNot (eU (uIsi "bool") (eVar 0)))))
theorem F_is_whole_x : ∃ F, F = fnF 1 G_is_whole exitF := ⟨_, rfl⟩
def F_is_whole : List Val → M Val := Classical.choose F_is_whole_x
theorem F_is_whole_e : F_is_whole = fnF 1 G_is_whole exitF := Classical.choose_spec F_is_whole_x
def G_shelf_size : DEnv → M Fl := (gRet (eA uLen (aCons (eFld 0 "rows" (eVar 0)) aNil)))
theorem F_shelf_size_x : ∃ F, F = fnF 1 G_shelf_size exitF := ⟨_, rfl⟩
def F_shelf_size : List Val → M Val := Classical.choose F_shelf_size_x
theorem F_shelf_size_e : F_shelf_size = fnF 1 G_shelf_size exitF := Classical.choose_spec F_shelf_size_x
def G_shelf_many : DEnv → M Fl := (gRet (eFld 0 "count" (eVar 0)))
theorem F_shelf_many_x : ∃ F, F = fnF 1 G_shelf_many exitF := ⟨_, rfl⟩
def F_shelf_many : List Val → M Val := Classical.choose F_shelf_many_x
theorem F_shelf_many_e : F_shelf_many = fnF 1 G_shelf_many exitF := Classical.choose_spec F_shelf_many_x
def G_shelf_init : DEnv → M Fl := (gSeq (gIf (tOr (tNot (tVal (eCall F_is_whole 1 (aCons (eVar 1) aNil)))) (tVal (eU (uInC true [4, 8, 16, 32, 64, 128, 256, 512, 1024, 2048, 4096]) (eVar 1)))) gNever gNext)
    (gSeq (gSetF 0 "mixed" (eVar 0) (eVar 2))
    (gSeq (gSetF 0 "rows" (eVar 0) (eLcV (iRng1 (eVar 1)) (nName 3) tYesD eDict0 [3]))
    (gSetF 0 "count" (eVar 0) (eC (.int 0))))))
theorem F_shelf_init_x : ∃ F, F = fnF 4 G_shelf_init exitA := ⟨_, rfl⟩
def F_shelf_init : List Val → M Val := Classical.choose F_shelf_init_x
theorem F_shelf_init_e : F_shelf_init = fnF 4 G_shelf_init exitA := Classical.choose_spec F_shelf_init_x
def G_shelf_row_for : DEnv → M Fl := (gRet (eO uIx (eFld 0 "rows" (eVar 0)) (eCall F_place_of 2 (aCons (eCall F_mark_of 2 (aCons (eVar 1) (aCons (eFld 0 "mixed" (eVar 0)) aNil))) (aCons (eA uLen (aCons (eFld 0 "rows" (eVar 0)) aNil)) aNil)))))
theorem F_shelf_row_for_x : ∃ F, F = fnF 2 G_shelf_row_for exitF := ⟨_, rfl⟩
def F_shelf_row_for : List Val → M Val := Classical.choose F_shelf_row_for_x
theorem F_shelf_row_for_e : F_shelf_row_for = fnF 2 G_shelf_row_for exitF := Classical.choose_spec F_shelf_row_for_x
def G_shelf_need_place : DEnv → M Fl := (gIf (tOr (tNot (tVal (eCall F_is_whole 1 (aCons (eVar 1) aNil)))) (tNot (tVal (eChain (uLt fun i j => decide (i ≤ j)) (uLt fun i j => decide (i < j)) (eC (.int 0)) (eVar 1) (eA uLen (aCons (eFld 0 "rows" (eVar 0)) aNil)))))) gNever gNext)
theorem F_shelf_need_place_x : ∃ F, F = fnF 2 G_shelf_need_place exitF := ⟨_, rfl⟩
def F_shelf_need_place : List Val → M Val := Classical.choose F_shelf_need_place_x
theorem F_shelf_need_place_e : F_shelf_need_place = fnF 2 G_shelf_need_place exitF := Classical.choose_spec F_shelf_need_place_x
def G_table_place_on : DEnv → M Fl := (gRet (eCall F_place_of 2 (aCons (eCall F_mark_of 2 (aCons (eVar 2) (aCons (eFld 1 "mixer" (eVar 0)) aNil))) (aCons (eMethB nz0 0 "size" F_shelf_size 1 (eVar 1) aNil) aNil))))
theorem F_table_place_on_x : ∃ F, F = fnF 3 G_table_place_on exitF := ⟨_, rfl⟩
def F_table_place_on : List Val → M Val := Classical.choose F_table_place_on_x
theorem F_table_place_on_e : F_table_place_on = fnF 3 G_table_place_on exitF := Classical.choose_spec F_table_place_on_x
def G_table_many : DEnv → M Fl := (gSeq (gIf (tVal (eO uIs (eFld 1 "elder" (eVar 0)) (eC .none))) (gRet (eMethB nz0 0 "many" F_shelf_many 1 (eFld 1 "newer" (eVar 0)) aNil)) gNext)
    (gRet (eO uAdd (eMethB nz0 0 "many" F_shelf_many 1 (eFld 1 "elder" (eVar 0)) aNil) (eMethB nz0 0 "many" F_shelf_many 1 (eFld 1 "newer" (eVar 0)) aNil))))
theorem F_table_many_x : ∃ F, F = fnF 1 G_table_many exitF := ⟨_, rfl⟩
def F_table_many : List Val → M Val := Classical.choose F_table_many_x
theorem F_table_many_e : F_table_many = fnF 1 G_table_many exitF := Classical.choose_spec F_table_many_x
def G_shelf_put : DEnv → M Fl := (gSeq (gAsg (eMethB nz0 0 "row_for" F_shelf_row_for 2 (eVar 0) (aCons (eVar 1) aNil)) (nName 3))
    (gSeq (gAsg (eGet1 (eVar 3) (eVar 1)) (nName 4))
    (gSeq (gAugF 0 "count" uAddI (eVar 0) (eA uInt (aCons (eO uDNotIn (eVar 1) (eVar 3)) aNil)))
    (gSeq (gDPut (eVar 2) (eVar 3) (eVar 1))
    (gRet (eVar 4))))))
theorem F_shelf_put_x : ∃ F, F = fnF 5 G_shelf_put exitF := ⟨_, rfl⟩
def F_shelf_put : List Val → M Val := Classical.choose F_shelf_put_x
theorem F_shelf_put_e : F_shelf_put = fnF 5 G_shelf_put exitF := Classical.choose_spec F_shelf_put_x
def G_shelf_cut : DEnv → M Fl := (gSeq (gAsg (eMethB nz0 0 "row_for" F_shelf_row_for 2 (eVar 0) (aCons (eVar 1) aNil)) (nName 2))
    (gSeq (gIf (tVal (eO uDNotIn (eVar 1) (eVar 2))) (gRet (eC .none)) gNext)
    (gSeq (gAugF 0 "count" uSub (eVar 0) (eC (.int 1)))
    (gRet (ePop1 (eVar 2) (eVar 1))))))
theorem F_shelf_cut_x : ∃ F, F = fnF 3 G_shelf_cut exitF := ⟨_, rfl⟩
def F_shelf_cut : List Val → M Val := Classical.choose F_shelf_cut_x
theorem F_shelf_cut_e : F_shelf_cut = fnF 3 G_shelf_cut exitF := Classical.choose_spec F_shelf_cut_x
def G_shelf_look : DEnv → M Fl := (gRet (eGet1 (eMethB nz0 0 "row_for" F_shelf_row_for 2 (eVar 0) (aCons (eVar 1) aNil)) (eVar 1)))
theorem F_shelf_look_x : ∃ F, F = fnF 2 G_shelf_look exitF := ⟨_, rfl⟩
def F_shelf_look : List Val → M Val := Classical.choose F_shelf_look_x
theorem F_shelf_look_e : F_shelf_look = fnF 2 G_shelf_look exitF := Classical.choose_spec F_shelf_look_x
def G_shelf_row : DEnv → M Fl := (gSeq (gExpr (eMethB nz0 0 "need_place" F_shelf_need_place 2 (eVar 0) (aCons (eVar 1) aNil)))
    (gRet (eU uItems (eO uIx (eFld 0 "rows" (eVar 0)) (eVar 1)))))
theorem F_shelf_row_x : ∃ F, F = fnF 2 G_shelf_row exitF := ⟨_, rfl⟩
def F_shelf_row : List Val → M Val := Classical.choose F_shelf_row_x
theorem F_shelf_row_e : F_shelf_row = fnF 2 G_shelf_row exitF := Classical.choose_spec F_shelf_row_x
def G_shelf_empty : DEnv → M Fl := (gSeq (gAsg (eMethB nz0 0 "row" F_shelf_row 2 (eVar 0) (aCons (eVar 1) aNil)) (nName 2))
    (gSeq (gAsg eDict0 (nSub uSet (eFld 0 "rows" (eVar 0)) (eVar 1)))
    (gSeq (gAugF 0 "count" uSub (eVar 0) (eA uLen (aCons (eVar 2) aNil)))
    (gRet (eVar 2)))))
theorem F_shelf_empty_x : ∃ F, F = fnF 3 G_shelf_empty exitA := ⟨_, rfl⟩
def F_shelf_empty : List Val → M Val := Classical.choose F_shelf_empty_x
theorem F_shelf_empty_e : F_shelf_empty = fnF 3 G_shelf_empty exitA := Classical.choose_spec F_shelf_empty_x
abbrev B1_shelf_of : DEnv → M Fl := (gExpr (eMethB nz0 0 "put" F_shelf_put 3 (eVar 2) (aCons (eVar 4) (aCons (eVar 5) aNil))))
abbrev B2_shelf_of : DEnv → M Fl := (gFor (iSeq (eVar 3)) (nTup 2 (nsCons (nName 4) (nsCons (nName 5) nsNil))) B1_shelf_of)
def G_shelf_of : DEnv → M Fl := (gSeq (gAsg (eMakeB nz0 0 F_shelf_init 3 (aCons (eA uLen (aCons (eVar 0) aNil)) (aCons (eVar 1) aNil))) (nName 2))
    (gSeq (gFor (iSeq (eVar 0)) (nName 3) B2_shelf_of)
    (gRet (eVar 2))))
theorem F_shelf_of_x : ∃ F, F = fnF 6 G_shelf_of exitA := ⟨_, rfl⟩
def F_shelf_of : List Val → M Val := Classical.choose F_shelf_of_x
theorem F_shelf_of_e : F_shelf_of = fnF 6 G_shelf_of exitA := Classical.choose_spec F_shelf_of_x
def G_table_home_of : DEnv → M Fl := (gSeq (gDPut (eC (.bool true)) (eFld 1 "spots" (eVar 0)) (eA uTup (aCons (eC (.str "newer")) (aCons (eMethB nz0 1 "place_on" F_table_place_on 3 (eVar 0) (aCons (eFld 1 "newer" (eVar 0)) (aCons (eVar 1) aNil))) aNil))))
    (gSeq (gIf (tVal (eO uIs (eFld 1 "elder" (eVar 0)) (eC .none))) (gRet (eFld 1 "newer" (eVar 0))) gNext)
    (gSeq (gAsg (eMethB nz0 1 "place_on" F_table_place_on 3 (eVar 0) (aCons (eFld 1 "elder" (eVar 0)) (aCons (eVar 1) aNil))) (nName 2))
    (gSeq (gIf (tVal (eO (uLt fun i j => decide (j ≤ i)) (eVar 2) (eFld 1 "moved" (eVar 0)))) (gDPut (eC (.bool true)) (eFld 1 "spots" (eVar 0)) (eA uTup (aCons (eC (.str "elder")) (aCons (eVar 2) aNil)))) gNext)
    (gSeq (gIf (tVal (eO uIsNot (eMethB nz0 0 "look" F_shelf_look 2 (eFld 1 "elder" (eVar 0)) (aCons (eVar 1) aNil)) (eC .none))) (gRet (eFld 1 "elder" (eVar 0))) gNext)
    (gRet (eFld 1 "newer" (eVar 0))))))))
theorem F_table_home_of_x : ∃ F, F = fnF 3 G_table_home_of exitA := ⟨_, rfl⟩
def F_table_home_of : List Val → M Val := Classical.choose F_table_home_of_x
theorem F_table_home_of_e : F_table_home_of = fnF 3 G_table_home_of exitA := Classical.choose_spec F_table_home_of_x
def G_table_begin : DEnv → M Fl := (gSeq (gAsg (eMethB nz0 0 "size" F_shelf_size 1 (eFld 1 "newer" (eVar 0)) aNil) (nName 1))
    (gSeq (gAsg (eC .none) (nName 2))
    (gSeq (gIf (tAnd (tVal (eO (uLt fun i j => decide (j < i)) (eMethB nz0 0 "many" F_shelf_many 1 (eFld 1 "newer" (eVar 0)) aNil) (eVar 1))) (tVal (eO (uLt fun i j => decide (i < j)) (eVar 1) (eC (.int 4096))))) (gAsg (eO uMul (eC (.int 2)) (eVar 1)) (nName 2)) (gIf (tAnd (tVal (eO (uLt fun i j => decide (i < j)) (eO uMul (eC (.int 8)) (eMethB nz0 0 "many" F_shelf_many 1 (eFld 1 "newer" (eVar 0)) aNil)) (eVar 1))) (tVal (eO (uLt fun i j => decide (j < i)) (eVar 1) (eC (.int 4))))) (gAsg (eO uDiv (eVar 1) (eC (.int 2))) (nName 2)) gNext))
    (gIf (tAnd (tVal (eO uIs (eFld 1 "elder" (eVar 0)) (eC .none))) (tVal (eO uIsNot (eVar 2) (eC .none)))) (gSeq (gSetF 1 "elder" (eVar 0) (eFld 1 "newer" (eVar 0)))
    (gSetF 1 "newer" (eVar 0) (eMakeB nz0 0 F_shelf_init 3 (aCons (eVar 2) (aCons (eFld 1 "mixer" (eVar 0)) aNil))))) gNext))))
theorem F_table_begin_x : ∃ F, F = fnF 3 G_table_begin exitA := ⟨_, rfl⟩
def F_table_begin : List Val → M Val := Classical.choose F_table_begin_x
theorem F_table_begin_e : F_table_begin = fnF 3 G_table_begin exitA := Classical.choose_spec F_table_begin_x
def G_table_init : DEnv → M Fl := (gSeq (gSetF 1 "mixer" (eVar 0) (eVar 1))
    (gSeq (gSetF 1 "pace" (eVar 0) (eVar 2))
    (gSeq (gSetF 1 "elder" (eVar 0) (eC .none))
    (gSeq (gSetF 1 "moved" (eVar 0) (eC (.int 0)))
    (gSeq (gSetF 1 "newer" (eVar 0) (eMakeB nz0 0 F_shelf_init 3 (aCons (eC (.int 4)) (aCons (eVar 1) aNil))))
    (gSeq (gSetF 1 "spots" (eVar 0) eDictT)
    (gIf (tVal (eO uIsNot (eVar 3) (eC .none))) (gSeq (gAsg (eVar 3) (nTup 3 (nsCons (nName 4) (nsCons (nFld 1 "moved" (eVar 0)) (nsCons (nName 5) nsNil)))))
    (gSeq (gSetF 1 "newer" (eVar 0) (eCall F_shelf_of 2 (aCons (eVar 5) (aCons (eVar 1) aNil))))
    (gIf (tVal (eO uIsNot (eVar 4) (eC .none))) (gSetF 1 "elder" (eVar 0) (eCall F_shelf_of 2 (aCons (eVar 4) (aCons (eVar 1) aNil)))) gNext))) gNext)))))))
theorem F_table_init_x : ∃ F, F = fnF 6 G_table_init exitA := ⟨_, rfl⟩
def F_table_init : List Val → M Val := Classical.choose F_table_init_x
theorem F_table_init_e : F_table_init = fnF 6 G_table_init exitA := Classical.choose_spec F_table_init_x
abbrev B1_table_move_one : DEnv → M Fl := (gSeq (gExpr (eMethB nz0 0 "put" F_shelf_put 3 (eFld 1 "newer" (eVar 0)) (aCons (eVar 1) (aCons (eVar 2) aNil))))
    (gDPut (eC (.bool true)) (eFld 1 "spots" (eVar 0)) (eA uTup (aCons (eC (.str "newer")) (aCons (eMethB nz0 1 "place_on" F_table_place_on 3 (eVar 0) (aCons (eFld 1 "newer" (eVar 0)) (aCons (eVar 1) aNil))) aNil)))))
def G_table_move_one : DEnv → M Fl := (gSeq (gDPut (eC (.bool true)) (eFld 1 "spots" (eVar 0)) (eA uTup (aCons (eC (.str "elder")) (aCons (eFld 1 "moved" (eVar 0)) aNil))))
    (gSeq (gFor (iSeq (eMethB nzS 0 "empty" F_shelf_empty 2 (eFld 1 "elder" (eVar 0)) (aCons (eFld 1 "moved" (eVar 0)) aNil))) (nTup 2 (nsCons (nName 1) (nsCons (nName 2) nsNil))) B1_table_move_one)
    (gAugF 1 "moved" uAddI (eVar 0) (eC (.int 1)))))
theorem F_table_move_one_x : ∃ F, F = fnF 3 G_table_move_one exitA := ⟨_, rfl⟩
def F_table_move_one : List Val → M Val := Classical.choose F_table_move_one_x
theorem F_table_move_one_e : F_table_move_one = fnF 3 G_table_move_one exitA := Classical.choose_spec F_table_move_one_x
abbrev B1_table_go_on : DEnv → M Fl := (gIf (tVal (eO uIsNot (eFld 1 "elder" (eVar 0)) (eC .none))) (gSeq (gExpr (eMethB nz0 1 "move_one" F_table_move_one 1 (eVar 0) aNil))
    (gIf (tVal (eO uEq (eFld 1 "moved" (eVar 0)) (eMethB nz0 0 "size" F_shelf_size 1 (eFld 1 "elder" (eVar 0)) aNil))) (gSeq (gSetF 1 "elder" (eVar 0) (eC .none))
    (gSetF 1 "moved" (eVar 0) (eC (.int 0)))) gNext)) gNext)
def G_table_go_on : DEnv → M Fl := (gFor (iRng1 (eFld 1 "pace" (eVar 0))) (nName 1) B1_table_go_on)
theorem F_table_go_on_x : ∃ F, F = fnF 2 G_table_go_on exitA := ⟨_, rfl⟩
def F_table_go_on : List Val → M Val := Classical.choose F_table_go_on_x
theorem F_table_go_on_e : F_table_go_on = fnF 2 G_table_go_on exitA := Classical.choose_spec F_table_go_on_x
def G_table_put : DEnv → M Fl := (gSeq (gSetF 1 "spots" (eVar 0) eDictT)
    (gSeq (gExpr (eMethB nz0 1 "go_on" F_table_go_on 1 (eVar 0) aNil))
    (gSeq (gAsg (eMethB nz0 0 "put" F_shelf_put 3 (eMethB nz0 1 "home_of" F_table_home_of 2 (eVar 0) (aCons (eVar 1) aNil)) (aCons (eVar 1) (aCons (eVar 2) aNil))) (nName 3))
    (gSeq (gExpr (eMethB nz0 1 "begin" F_table_begin 1 (eVar 0) aNil))
    (gRet (eVar 3))))))
theorem F_table_put_x : ∃ F, F = fnF 4 G_table_put exitA := ⟨_, rfl⟩
def F_table_put : List Val → M Val := Classical.choose F_table_put_x
theorem F_table_put_e : F_table_put = fnF 4 G_table_put exitA := Classical.choose_spec F_table_put_x
def G_table_cut : DEnv → M Fl := (gSeq (gSetF 1 "spots" (eVar 0) eDictT)
    (gSeq (gExpr (eMethB nz0 1 "go_on" F_table_go_on 1 (eVar 0) aNil))
    (gSeq (gAsg (eMethB nz0 0 "cut" F_shelf_cut 2 (eMethB nz0 1 "home_of" F_table_home_of 2 (eVar 0) (aCons (eVar 1) aNil)) (aCons (eVar 1) aNil)) (nName 2))
    (gSeq (gExpr (eMethB nz0 1 "begin" F_table_begin 1 (eVar 0) aNil))
    (gRet (eVar 2))))))
theorem F_table_cut_x : ∃ F, F = fnF 3 G_table_cut exitA := ⟨_, rfl⟩
def F_table_cut : List Val → M Val := Classical.choose F_table_cut_x
theorem F_table_cut_e : F_table_cut = fnF 3 G_table_cut exitA := Classical.choose_spec F_table_cut_x
def G_table_look : DEnv → M Fl := (gSeq (gSetF 1 "spots" (eVar 0) eDictT)
    (gSeq (gExpr (eMethB nz0 1 "go_on" F_table_go_on 1 (eVar 0) aNil))
    (gSeq (gAsg (eMethB nz0 0 "look" F_shelf_look 2 (eMethB nz0 1 "home_of" F_table_home_of 2 (eVar 0) (aCons (eVar 1) aNil)) (aCons (eVar 1) aNil)) (nName 2))
    (gSeq (gExpr (eMethB nz0 1 "begin" F_table_begin 1 (eVar 0) aNil))
    (gRet (eVar 2))))))
theorem F_table_look_x : ∃ F, F = fnF 3 G_table_look exitA := ⟨_, rfl⟩
def F_table_look : List Val → M Val := Classical.choose F_table_look_x
theorem F_table_look_e : F_table_look = fnF 3 G_table_look exitA := Classical.choose_spec F_table_look_x
def G_table_touched : DEnv → M Fl := (gRet (eA uLen (aCons (eFld 1 "spots" (eVar 0)) aNil)))
theorem F_table_touched_x : ∃ F, F = fnF 1 G_table_touched exitF := ⟨_, rfl⟩
def F_table_touched : List Val → M Val := Classical.choose F_table_touched_x
theorem F_table_touched_e : F_table_touched = fnF 1 G_table_touched exitF := Classical.choose_spec F_table_touched_x
def G_table_sizes : DEnv → M Fl := (gSeq (gIf (tVal (eO uIs (eFld 1 "elder" (eVar 0)) (eC .none))) (gRet (eA uTup (aCons (eC .none) (aCons (eMethB nz0 0 "size" F_shelf_size 1 (eFld 1 "newer" (eVar 0)) aNil) aNil)))) gNext)
    (gRet (eA uTup (aCons (eMethB nz0 0 "size" F_shelf_size 1 (eFld 1 "elder" (eVar 0)) aNil) (aCons (eMethB nz0 0 "size" F_shelf_size 1 (eFld 1 "newer" (eVar 0)) aNil) aNil)))))
theorem F_table_sizes_x : ∃ F, F = fnF 1 G_table_sizes exitF := ⟨_, rfl⟩
def F_table_sizes : List Val → M Val := Classical.choose F_table_sizes_x
theorem F_table_sizes_e : F_table_sizes = fnF 1 G_table_sizes exitF := Classical.choose_spec F_table_sizes_x
def G_rows_of : DEnv → M Fl := (gRet (eA uTuple (aCons (eLc (iRng1 (eMethB nz0 0 "size" F_shelf_size 1 (eVar 0) aNil)) (nName 1) tYesD (eA uTuple (aCons (eMethB nz0 0 "row" F_shelf_row 2 (eVar 0) (aCons (eVar 1) aNil)) aNil)) [1]) aNil)))
theorem F_rows_of_x : ∃ F, F = fnF 2 G_rows_of exitF := ⟨_, rfl⟩
def F_rows_of : List Val → M Val := Classical.choose F_rows_of_x
theorem F_rows_of_e : F_rows_of = fnF 2 G_rows_of exitF := Classical.choose_spec F_rows_of_x
def G_table_state : DEnv → M Fl := (gSeq (gAsg (eC .none) (nName 1))
    (gSeq (gIf (tVal (eO uIsNot (eFld 1 "elder" (eVar 0)) (eC .none))) (gAsg (eCall F_rows_of 1 (aCons (eFld 1 "elder" (eVar 0)) aNil)) (nName 1)) gNext)
    (gRet (eA uTup (aCons (eVar 1) (aCons (eFld 1 "moved" (eVar 0)) (aCons (eCall F_rows_of 1 (aCons (eFld 1 "newer" (eVar 0)) aNil)) aNil)))))))
theorem F_table_state_x : ∃ F, F = fnF 2 G_table_state exitF := ⟨_, rfl⟩
def F_table_state : List Val → M Val := Classical.choose F_table_state_x
theorem F_table_state_e : F_table_state = fnF 2 G_table_state exitF := Classical.choose_spec F_table_state_x
abbrev B1_point_of : DEnv → M Fl := (gSeq (gAsg (eO uAdd (eO uMul (eC (.int 2)) (eVar 1)) (eO uMod (eVar 0) (eC (.int 2)))) (nName 1))
    (gAsg (eO uDiv (eVar 0) (eC (.int 2))) (nName 0)))
def G_point_of : DEnv → M Fl := (gSeq (gAsg (eC (.int 0)) (nName 1))
    (gSeq (gFor (iRng1 (eC (.int 16))) (nName 2) B1_point_of)
    (gRet (eVar 1))))
theorem F_point_of_x : ∃ F, F = fnF 3 G_point_of exitF := ⟨_, rfl⟩
def F_point_of : List Val → M Val := Classical.choose F_point_of_x
theorem F_point_of_e : F_point_of = fnF 3 G_point_of exitF := Classical.choose_spec F_point_of_x
def G_stretch_of : DEnv → M Fl := (gSeq (gAsg (eCall F_point_of 1 (aCons (eVar 0) aNil)) (nName 2))
    (gRet (eA uTup (aCons (eVar 2) (aCons (eO uSub (eO uAdd (eVar 2) (eO uDiv (eC (.int 65536)) (eVar 1))) (eC (.int 1))) aNil)))))
theorem F_stretch_of_x : ∃ F, F = fnF 3 G_stretch_of exitF := ⟨_, rfl⟩
def F_stretch_of : List Val → M Val := Classical.choose F_stretch_of_x
theorem F_stretch_of_e : F_stretch_of = fnF 3 G_stretch_of exitF := Classical.choose_spec F_stretch_of_x
end
end PG
set_option Elab.async false
set_option linter.all false
set_option maxRecDepth 100000
set_option maxHeartbeats 4000000
namespace TM
open PySem L2 PyProof.Rows DM
noncomputable section
def pr (p : Int × Int) : PyData := .tuple [.int p.1, .int p.2]
/-! the shelf, on a store of its own -/
abbrev Rows : Type := List (List (Int × Int))
def kD (r : List (Int × Int)) : List (Key × PyData) := r.map fun p => (Sum.inl p.1, PyData.int p.2)
def rowK (r : List (Int × Int)) : Ob := .dK (kD r)
def shT (mx : Int × Int) (rows : Rows) (cnt : Int) : Store := .ins 0 [("mixed", .pd (pr mx)), ("rows", .obj 1), ("count", .pd (.int cnt))] :: .lsv ((List.range rows.length).map fun i => .obj (2 + i)) :: rows.map rowK
theorem kD_val (k : Int) : ∀ r : List (Int × Int), valD (kD r) (Sum.inl k) = (valD r k).map PyData.int
  | [] => rfl
  | p :: r => by
    have ih := kD_val k r
    by_cases h : p.1 = k
    · simp [valD, kD, h]
    · have e1 : valD (kD (p :: r)) (Sum.inl k) = valD (kD r) (Sum.inl k) := by simp [valD, kD, h]
      have e2 : valD (p :: r) k = valD r k := by simp [valD, h]
      rw [e1, e2, ih]
theorem kD_any (k : Int) (r : List (Int × Int)) : ((kD r).any fun kv => decide (kv.1 = Sum.inl k)) = r.any fun kv => decide (kv.1 = k) := by
  unfold kD
  rw [List.any_map]
  congr 1
  funext p
  simp
theorem kD_put (k w : Int) (r : List (Int × Int)) : putKD (kD r) (Sum.inl k) (.int w) = kD (putKD r k w) := by
  unfold putKD
  rw [kD_any]
  split
  · unfold kD
    rw [List.map_map, List.map_map]
    apply List.map_congr_left
    intro p _
    by_cases h : p.1 = k <;> simp [h]
  · simp [kD]
theorem kD_drop (k : Int) (r : List (Int × Int)) : dropKD (kD r) (Sum.inl k) = kD (dropKD r k) := by
  unfold dropKD kD
  rw [List.filter_map]
  congr 1
  apply List.filter_congr
  intro p _
  simp
theorem any_val (k : Int) : ∀ r : List (Int × Int), (r.any fun kv => decide (kv.1 = k)) = (valD r k).isSome
  | [] => rfl
  | p :: r => by
    have ih := any_val k r
    by_cases h : p.1 = k
    · simp [valD, h]
    · have e2 : valD (p :: r) k = valD r k := by simp [valD, h]
      rw [List.any_cons, ih, e2]
      simp [h]
theorem fld_m {a b c : Val} : List.lookup ("mixed" : Str) [(("mixed" : Str), a), (("rows" : Str), b), (("count" : Str), c)] = some a := by rfl
theorem fld_r {a b c : Val} : List.lookup ("rows" : Str) [(("mixed" : Str), a), (("rows" : Str), b), (("count" : Str), c)] = some b := by rfl
theorem fld_c {a b c : Val} : List.lookup ("count" : Str) [(("mixed" : Str), a), (("rows" : Str), b), (("count" : Str), c)] = some c := by rfl
theorem put_c {a b c d : Val} : putD ("count" : Str) d [(("mixed" : Str), a), (("rows" : Str), b), (("count" : Str), c)] = [(("mixed" : Str), a), (("rows" : Str), b), (("count" : Str), d)] := by rfl
theorem no_rf {a b c : Val} : List.lookup ("row_for" : Str) [(("mixed" : Str), a), (("rows" : Str), b), (("count" : Str), c)] = none := by rfl
theorem no_row {a b c : Val} : List.lookup ("row" : Str) [(("mixed" : Str), a), (("rows" : Str), b), (("count" : Str), c)] = none := by rfl
theorem no_np {a b c : Val} : List.lookup ("need_place" : Str) [(("mixed" : Str), a), (("rows" : Str), b), (("count" : Str), c)] = none := by rfl
def mxOk (mx : Int × Int) : Prop := 0 ≤ mx.1 ∧ mx.1 ≤ 65535
/-- the place of a key -/
def plc (mx : Int × Int) (n : Nat) (k : Int) : Nat := ((k * mx.1 + mx.2) % 65536 % n).toNat
theorem plc_lt {mx : Int × Int} {n : Nat} {k : Int} (h : 0 < n) : plc mx n k < n := by
  have h1 := Int.emod_nonneg ((k * mx.1 + mx.2) % 65536) (b := (n : Int)) (by omega)
  have h2 := Int.emod_lt_of_pos ((k * mx.1 + mx.2) % 65536) (b := (n : Int)) (by omega)
  unfold plc
  omega
theorem plc_cast {mx : Int × Int} {n : Nat} {k : Int} (h : 0 < n) : (k * mx.1 + mx.2) % 65536 % (n : Int) = (plc mx n k : Nat) := by
  have h1 := Int.emod_nonneg ((k * mx.1 + mx.2) % 65536) (b := (n : Int)) (by omega)
  unfold plc
  omega
theorem sh_0 {mx : Int × Int} {rows : Rows} {cnt : Int} : (shT mx rows cnt)[0]? = some (.ins 0 [("mixed", .pd (pr mx)), ("rows", .obj 1), ("count", .pd (.int cnt))]) := rfl
theorem sh_1 {mx : Int × Int} {rows : Rows} {cnt : Int} : (shT mx rows cnt)[1]? = some (.lsv ((List.range rows.length).map fun i => .obj (2 + i))) := rfl
theorem sh_r {mx : Int × Int} {rows : Rows} {cnt : Int} {p : Nat} {r : List (Int × Int)} (h : rows[p]? = some r) : (shT mx rows cnt)[2 + p]? = some (rowK r) := by
  show ((_ :: _ :: rows.map rowK : List Ob))[2 + p]? = _
  rw [Nat.add_comm, List.getElem?_cons_succ, List.getElem?_cons_succ, List.getElem?_map, h]
  rfl
theorem sh_set {mx : Int × Int} {rows : Rows} {cnt : Int} {p : Nat} {r : List (Int × Int)} : (shT mx rows cnt).set (2 + p) (rowK r) = shT mx (rows.set p r) cnt := by
  show ((_ :: _ :: rows.map rowK : List Ob)).set (2 + p) _ = _
  rw [Nat.add_comm, List.set_cons_succ, List.set_cons_succ]
  unfold shT
  rw [List.length_set, List.map_set]
theorem sh_cnt {mx : Int × Int} {rows : Rows} {cnt c2 : Int} : (shT mx rows cnt).set 0 (.ins 0 [("mixed", .pd (pr mx)), ("rows", .obj 1), ("count", .pd (.int c2))]) = shT mx rows c2 := rfl
theorem sh_mixed {mx : Int × Int} {rows : Rows} {cnt : Int} : uFld 0 "mixed" (.obj 0) (shT mx rows cnt) = some (.pd (pr mx), shT mx rows cnt) := uFld_get sh_0 fld_m
theorem sh_rows {mx : Int × Int} {rows : Rows} {cnt : Int} : uFld 0 "rows" (.obj 0) (shT mx rows cnt) = some (.obj 1, shT mx rows cnt) := uFld_get sh_0 fld_r
theorem sh_count {mx : Int × Int} {rows : Rows} {cnt : Int} : uFld 0 "count" (.obj 0) (shT mx rows cnt) = some (.pd (.int cnt), shT mx rows cnt) := uFld_get sh_0 fld_c
theorem sh_len {mx : Int × Int} {rows : Rows} {cnt : Int} : uLen [.obj 1] (shT mx rows cnt) = some (.pd (.int rows.length), shT mx rows cnt) := by
  simp [uLen, sh_1]
theorem sh_setc {mx : Int × Int} {rows : Rows} {cnt c2 : Int} : uSetF 0 "count" (.obj 0) (.pd (.int c2)) (shT mx rows cnt) = some ((), shT mx rows c2) := by
  rw [uSetF_get sh_0 (by simp), put_c]
  rfl
theorem sh_ix {mx : Int × Int} {rows : Rows} {cnt : Int} {p : Nat} (h : p < rows.length) : uIx (.obj 1) (.pd (.int p)) (shT mx rows cnt) = some (.obj (2 + p), shT mx rows cnt) := by
  simp [uIx, getV, sh_1, atI_in, h]
def rowAt (rows : Rows) (p : Nat) : List (Int × Int) := rows.getD p []
theorem rowAt_get {rows : Rows} {p : Nat} (h : p < rows.length) : rows[p]? = some (rowAt rows p) := by
  simp [rowAt, List.getD, h]
def optD (o : Option Int) : PyData := match o with
  | some i => .int i
  | none => .none
theorem optD_map (o : Option Int) : ((o.map PyData.int).map Val.pd).getD (.pd .none) = .pd (optD o) := by cases o <;> rfl
def shLook (mx : Int × Int) (rows : Rows) (k : Int) : Option Int := valD (rowAt rows (plc mx rows.length k)) k
/-- the rows behind a put, a cut -/
def shPut (mx : Int × Int) (rows : Rows) (k w : Int) : Rows := rows.set (plc mx rows.length k) (putKD (rowAt rows (plc mx rows.length k)) k w)
def shCut (mx : Int × Int) (rows : Rows) (k : Int) : Rows := rows.set (plc mx rows.length k) (dropKD (rowAt rows (plc mx rows.length k)) k)
def newC (mx : Int × Int) (rows : Rows) (k : Int) : Int := if (shLook mx rows k).isSome then 0 else 1
def pairs (r : List (Int × Int)) : List PyData := r.map pr
theorem kD_items (r : List (Int × Int)) : (kD r).map itemD = pairs r := by
  unfold kD pairs
  rw [List.map_map]
  rfl
theorem fld_rows0 {a : Val} : List.lookup ("rows" : Str) [(("mixed" : Str), a)] = none := by rfl
def lsR (n : Nat) : Ob := .lsv ((List.range n).map fun i => .obj (2 + i))
theorem dicts_loop {ρ : DEnv} {o : Ob} : ∀ (items : List Val) (j : Nat), j + items.length ≤ 5000 → loopM (nName 3) tYesD eDict0 ρ 1 items (o :: lsR j :: List.replicate j (rowK [])) = some ((), o :: lsR (j + items.length) :: List.replicate (j + items.length) (rowK []))
  | [], j, _ => rfl
  | d :: r, j, h => by
    simp only [List.length_cons] at h
    have ih := dicts_loop (ρ := ρ) (o := o) r (j + 1) (by omega)
    have e1 : uAppend (.obj 1) [.obj (2 + j)] (o :: lsR j :: List.replicate j (rowK []) ++ [.dK []]) = some (.pd .none, o :: lsR (j + 1) :: List.replicate (j + 1) (rowK [])) := by
      have g : (o :: lsR j :: List.replicate j (rowK []) ++ [Ob.dK []])[1]? = some (lsR j) := rfl
      have hl : ((List.range j).map fun i => Val.obj (2 + i)).length < 16777216 := by simp; omega
      have hs : lsR (j + 1) = .lsv (((List.range j).map fun i => Val.obj (2 + i)) ++ [.obj (2 + j)]) := by
        unfold lsR
        rw [List.range_succ, List.map_append]
        rfl
      have hr : List.replicate (j + 1) (rowK []) = List.replicate j (rowK []) ++ [rowK []] := List.replicate_succ'
      refine Eq.trans (if_pos hl) ?_
      rw [hs, hr]
      rfl
    have e2 : (o :: lsR j :: List.replicate j (rowK [])).length = 2 + j := by simp; omega
    have e3 : j + (d :: r).length = j + 1 + r.length := by simp; omega
    rw [e3, ← ih]
    show bindR (nName 3 d ρ _) _ = _
    simp only [nName_e, bindR_some, tYesD_e, if_true, eDict0_e, e2, e1]
theorem ins_s1 {v : Val} : uSetF 0 "mixed" (.obj 0) v [.ins 0 []] = some ((), [.ins 0 [("mixed", v)]]) := by rfl
theorem ins_s2 {v w : Val} {S : Store} : uSetF 0 "rows" (.obj 0) w (.ins 0 [("mixed", v)] :: S) = some ((), .ins 0 [("mixed", v), ("rows", w)] :: S) := by rfl
theorem ins_s3 {v w z : Val} {S : Store} : uSetF 0 "count" (.obj 0) z (.ins 0 [("mixed", v), ("rows", w)] :: S) = some ((), .ins 0 [("mixed", v), ("rows", w), ("count", z)] :: S) := by rfl
theorem rng_ei {a b : Option Val} {S : Store} {n : Nat} (hn4 : n ≤ 4096) : iRng1 (eVar 1) [a, some (.pd (.int n)), b, none] S = some (⟨rgI 0 n, none⟩, S) := by
  have e4 : (n : Int) < 2 ^ 62 := by omega
  have e5 : -(2 ^ 62) ≤ (n : Int) := by omega
  rw [iRng1_e, eVar_s, eVar_z, bindR_some, rng1_int, if_pos ⟨e5, e4⟩, Int.toNat_natCast]
theorem dicts_at {ρ : DEnv} {o : Ob} {n : Nat} (hn4 : n ≤ 4096) : loopM (nName 3) tYesD eDict0 ρ 1 (rgI 0 n) [o, .lsv []] = some ((), o :: lsR n :: List.replicate n (rowK [])) := by
  have hl : (rgI 0 n).length = n := by simp [rgI]
  have hd := dicts_loop (ρ := ρ) (o := o) (rgI 0 n) 0 (by rw [hl]; omega)
  rw [hl, Nat.zero_add] at hd
  exact hd
theorem dicts_eq {a b : Option Val} {o : Ob} {n : Nat} (hn4 : n ≤ 4096) : eLcV (iRng1 (eVar 1)) (nName 3) tYesD eDict0 [3] [a, some (.pd (.int n)), b, none] [o] = some (.obj 1, o :: lsR n :: List.replicate n (rowK [])) := by
  unfold eLcV
  rw [rng_ei hn4]
  have hd := dicts_at (ρ := [a, some (.pd (.int n)), b, none]) (o := o) hn4
  rw [bindR_some]
  exact (congrArg (fun z => bindR z fun _ S2 => some (Val.obj 1, Iter.un ⟨rgI 0 n, none⟩ S2)) hd).trans rfl
theorem mapM_of {α β : Type} {f : α → Option β} : ∀ {xs : List α} {ys : List β}, xs.length = ys.length → (∀ (i : Nat) (x : α) (y : β), xs[i]? = some x → ys[i]? = some y → f x = some y) → xs.mapM f = some ys
  | [], [], _, _ => rfl
  | [], _ :: _, h, _ => by cases h
  | _ :: _, [], h, _ => by cases h
  | x :: xs, y :: ys, h, g => by
    rw [List.mapM_cons, g 0 x y rfl rfl, mapM_of (Nat.succ.inj h) fun i x y hx hy => g (i + 1) x y hx hy]
    rfl
theorem find_at {σ : List Nat} (hn : σ.Nodup) {j : Nat} {a : Nat} (h : σ[j]? = some a) : σ.findIdx? (· == a) = some j := by
  obtain ⟨hj, e⟩ := List.getElem?_eq_some_iff.mp h
  rw [List.findIdx?_eq_some_iff_getElem]
  refine ⟨hj, by simp [e], fun i hi z => ?_⟩
  have e2 : σ[i] = σ[j] := by simpa [e] using z
  have := (List.getElem_inj hn).mp e2
  omega
theorem sel_sh {mx : Int × Int} {cnt : Int} {T : Store} {hs : List Nat} {rows : Rows} (h0 : T[0]? = some (.ins 0 [("mixed", .pd (pr mx)), ("rows", .obj 1), ("count", .pd (.int cnt))])) (h1 : T[1]? = some (.lsv (hs.map .obj))) (hl : hs.length = rows.length) (hn : (0 :: 1 :: hs).Nodup)
    (hr : ∀ i a, hs[i]? = some a → T[a]? = some (rowK (rowAt rows i))) : selB (0 :: 1 :: hs) T = some (shT mx rows cnt) := by
  unfold selB shT
  refine mapM_of (by simp [hl]) fun i x y hx hy => ?_
  match i with
  | 0 =>
    cases hx
    cases hy
    rw [h0]
    rfl
  | 1 =>
    cases hx
    cases hy
    rw [h1]
    show ((hs.map Val.obj).mapM (renV (0 :: 1 :: hs))).map Ob.lsv = _
    rw [mapM_of (ys := (List.range rows.length).map fun i => Val.obj (2 + i)) (by simp [hl]) fun j a b ha hb => ?_]
    · rfl
    · rw [List.getElem?_map] at ha hb
      cases ea : hs[j]? with
      | none => rw [ea] at ha; cases ha
      | some c =>
        rw [ea] at ha
        cases ha
        have hj : j < rows.length := by rw [← hl]; exact (List.getElem?_eq_some_iff.mp ea).1
        rw [List.getElem?_range hj] at hb
        cases hb
        show ((0 :: 1 :: hs).findIdx? (· == c)).map Val.obj = _
        rw [find_at hn (j := 2 + j) (by rw [Nat.add_comm]; exact ea)]
        rfl
  | i + 2 =>
    rw [List.getElem?_cons_succ, List.getElem?_cons_succ] at hx hy
    rw [List.getElem?_map] at hy
    have hi : i < rows.length := by rw [← hl]; exact (List.getElem?_eq_some_iff.mp hx).1
    rw [rowAt_get hi] at hy
    cases hy
    rw [hr i x hx]
    rfl
theorem hdls_obj : ∀ hs : List Nat, hdls (hs.map .obj) = some hs := fun hs => mapM_of (by simp) fun i x y hx hy => by
  rw [List.getElem?_map, hy] at hx
  cases hx
  rfl
theorem nrm_empty {mx : Int × Int} {rows : Rows} {cnt : Int} {p : Nat} (hp : p < rows.length) :
    nrm nzS 0 ((.ins 0 [("mixed", .pd (pr mx)), ("rows", .obj 1), ("count", .pd (.int cnt))] :: .lsv (((List.range rows.length).map fun i => Val.obj (2 + i)).set p (.obj (2 + rows.length))) :: rows.map rowK) ++ [.dK []]) = some (shT mx (rows.set p []) cnt) := by
  have eh : ((List.range rows.length).map fun i => Val.obj (2 + i)).set p (.obj (2 + rows.length)) = (((List.range rows.length).map fun i => 2 + i).set p (2 + rows.length)).map Val.obj := by
    rw [List.map_set, List.map_map]
    rfl
  rw [eh]
  generalize hH : ((List.range rows.length).map fun i => 2 + i).set p (2 + rows.length) = hs
  have hg : ∀ (i : Nat) a, hs[i]? = some a → i < rows.length ∧ a = if i = p then 2 + rows.length else 2 + i := fun i a e => by
    rw [← hH] at e
    have hi := (List.getElem?_eq_some_iff.mp e).1
    simp at hi
    refine ⟨hi, ?_⟩
    by_cases ip : i = p
    · subst ip
      rw [List.getElem?_set_self (by simpa using hi)] at e
      cases e
      simp
    · rw [List.getElem?_set_ne (Ne.symm ip), List.getElem?_map, List.getElem?_range hi] at e
      cases e
      simp [ip]
  have hl : hs.length = rows.length := by rw [← hH]; simp
  have hn : (0 :: 1 :: hs).Nodup := by
    have nd : hs.Nodup := by
      refine List.pairwise_iff_getElem.mpr fun i j hi hj hij e => ?_
      have h1 := (hg i _ (List.getElem?_eq_getElem hi)).2
      have h2 := (hg j _ (List.getElem?_eq_getElem hj)).2
      have h3 := (hg i _ (List.getElem?_eq_getElem hi)).1
      have h4 := (hg j _ (List.getElem?_eq_getElem hj)).1
      rw [e] at h1
      split at h1 <;> split at h2 <;> omega
    have ge : ∀ a ∈ hs, 2 ≤ a := fun a ha => by
      obtain ⟨i, hi⟩ := List.getElem?_of_mem ha
      have := (hg i a hi).2
      split at this <;> omega
    refine List.nodup_cons.mpr ⟨fun z => ?_, List.nodup_cons.mpr ⟨fun z => ?_, nd⟩⟩
    · rcases List.mem_cons.mp z with z | z
      · cases z
      · have := ge 0 z; omega
    · have := ge 1 z; omega
  have ez : nzS 0 ((.ins 0 [("mixed", .pd (pr mx)), ("rows", .obj 1), ("count", .pd (.int cnt))] :: .lsv (hs.map Val.obj) :: rows.map rowK) ++ [.dK []]) = some (0 :: 1 :: hs) := by
    show (hdls (hs.map Val.obj)).map _ = _
    rw [hdls_obj]
    rfl
  unfold nrm
  rw [ez]
  show (if (0 :: 1 :: hs).Nodup ∧ (0 :: 1 :: hs)[0]? = some 0 then selB (0 :: 1 :: hs) _ else none) = _
  rw [if_pos ⟨hn, rfl⟩]
  refine sel_sh (rows := rows.set p []) rfl rfl (by rw [hl, List.length_set]) hn fun i a e => ?_
  obtain ⟨hi, ha⟩ := hg i a e
  by_cases ip : i = p
  · subst ip
    rw [if_pos rfl] at ha
    subst ha
    have e1 : rowAt (rows.set i []) i = [] := by simp [rowAt, hi]
    rw [e1, List.getElem?_append_right (by simp; omega)]
    have : 2 + rows.length - (Ob.ins 0 [("mixed", .pd (pr mx)), ("rows", .obj 1), ("count", .pd (.int cnt))] :: .lsv (hs.map Val.obj) :: rows.map rowK).length = 0 := by simp; omega
    rw [this]
    rfl
  · rw [if_neg ip] at ha
    subst ha
    have e1 : rowAt (rows.set p []) i = rowAt rows i := by simp [rowAt, List.getElem?_set_ne (Ne.symm ip)]
    rw [e1, List.getElem?_append_left (by simp; omega)]
    rw [Nat.add_comm, List.getElem?_cons_succ, List.getElem?_cons_succ, List.getElem?_map, rowAt_get hi]
    rfl
/-! the table -/
structure TSt where
  mx : Int × Int
  pace : Nat
  elder : Option (Rows × Int)
  moved : Nat
  newer : Rows × Int
  spots : List (List Key × PyData)
def fsT (mx : Int × Int) (pace : Nat) (e : Val) (moved : Nat) (n s : Nat) : List (Str × Val) := [("mixer", .pd (pr mx)), ("pace", .pd (.int pace)), ("elder", e), ("moved", .pd (.int moved)), ("newer", .obj n), ("spots", .obj s)]
def eV (e : Option Nat) : Val := match e with
  | some h => .obj h
  | none => .pd .none
def boxS (mx : Int × Int) (r : Rows × Int) : Ob := mkBox (shT mx r.1 r.2)
def tabT (t : TSt) : Store := match t.elder with
  | none => [.ins 1 (fsT t.mx t.pace (.pd .none) t.moved 1 2), boxS t.mx t.newer, .dT t.spots]
  | some el => [.ins 1 (fsT t.mx t.pace (.obj 2) t.moved 1 3), boxS t.mx t.newer, boxS t.mx el, .dT t.spots]
/-- a store in which object 0 is this table, its shelves at e and n, its spots at s -/
structure TS (S : Store) (e : Option Nat) (n s : Nat) (t : TSt) : Prop where
  h0 : S[0]? = some (.ins 1 (fsT t.mx t.pace (eV e) t.moved n s))
  hn : S[n]? = some (boxS t.mx t.newer)
  hs : S[s]? = some (.dT t.spots)
  he : (e = none ∧ t.elder = none) ∨ ∃ h el, e = some h ∧ t.elder = some el ∧ S[h]? = some (boxS t.mx el) ∧ h ≠ n
theorem TS.ne0 {S : Store} {e : Option Nat} {n s : Nat} {t : TSt} (T : TS S e n s t) : n ≠ 0 ∧ s ≠ 0 ∧ n ≠ s := by
  refine ⟨fun z => ?_, fun z => ?_, fun z => ?_⟩
  · have := T.hn
    rw [z, T.h0] at this
    cases this
  · have := T.hs
    rw [z, T.h0] at this
    cases this
  · have := T.hs
    rw [← z, T.hn] at this
    cases this
theorem tl {mx : Int × Int} {pace moved n s : Nat} {e : Val} : (fsT mx pace e moved n s).lookup ("mixer" : Str) = some (.pd (pr mx)) ∧ (fsT mx pace e moved n s).lookup ("pace" : Str) = some (.pd (.int pace)) ∧ (fsT mx pace e moved n s).lookup ("elder" : Str) = some e ∧ (fsT mx pace e moved n s).lookup ("moved" : Str) = some (.pd (.int moved)) ∧
    (fsT mx pace e moved n s).lookup ("newer" : Str) = some (.obj n) ∧ (fsT mx pace e moved n s).lookup ("spots" : Str) = some (.obj s) := ⟨rfl, rfl, rfl, rfl, rfl, rfl⟩
theorem tp_e {mx : Int × Int} {pace moved n s : Nat} {e e2 : Val} : putD ("elder" : Str) e2 (fsT mx pace e moved n s) = fsT mx pace e2 moved n s := by rfl
theorem tp_m {mx : Int × Int} {pace moved n s m2 : Nat} {e : Val} : putD ("moved" : Str) (.pd (.int m2)) (fsT mx pace e moved n s) = fsT mx pace e m2 n s := by rfl
theorem tp_n {mx : Int × Int} {pace moved n s n2 : Nat} {e : Val} : putD ("newer" : Str) (.obj n2) (fsT mx pace e moved n s) = fsT mx pace e moved n2 s := by rfl
theorem tp_s {mx : Int × Int} {pace moved n s s2 : Nat} {e : Val} : putD ("spots" : Str) (.obj s2) (fsT mx pace e moved n s) = fsT mx pace e moved n s2 := by rfl
theorem renO_box {σ : List Nat} {T : Store} : renO σ (mkBox T) = some (mkBox T) := rfl
theorem nrm_tab {S : Store} {e : Option Nat} {n s : Nat} {t : TSt} (T : TS S e n s t) : nrm nzT 0 S = some (tabT t) := by
  obtain ⟨n0, s0, ns⟩ := T.ne0
  have h0 := T.h0
  have hn := T.hn
  have hs := T.hs
  rcases T.he with ⟨rfl, he⟩ | ⟨h, el, rfl, he, hh, hne⟩
  · have ez : nzT 0 S = some [0, n, s] := by
      unfold nzT
      rw [h0]
      rfl
    unfold nrm
    rw [ez]
    show (if [0, n, s].Nodup ∧ [0, n, s][0]? = some 0 then selB [0, n, s] S else none) = _
    rw [if_pos ⟨by simp; omega, rfl⟩]
    unfold selB tabT
    rw [he]
    have b1 : (0 == n) = false := by simp; omega
    have b2 : (0 == s) = false := by simp; omega
    have b3 : (n == s) = false := by simp [ns]
    simp [h0, hn, hs, renO, renKV, renV, fsT, eV, boxS, mkBox, List.findIdx?_cons, b1, b2, b3]
  · have h1 : h ≠ 0 := fun z => by
      rw [z, h0] at hh
      cases hh
    have h2 : h ≠ s := fun z => by
      rw [z, hs] at hh
      cases hh
    have ez : nzT 0 S = some [0, n, h, s] := by
      unfold nzT
      rw [h0]
      rfl
    unfold nrm
    rw [ez]
    show (if [0, n, h, s].Nodup ∧ [0, n, h, s][0]? = some 0 then selB [0, n, h, s] S else none) = _
    rw [if_pos ⟨by simp; omega, rfl⟩]
    unfold selB tabT
    rw [he]
    have b1 : (0 == n) = false := by simp; omega
    have b2 : (0 == s) = false := by simp; omega
    have b3 : (n == s) = false := by simp [ns]
    have b4 : (0 == h) = false := by simp; omega
    have b5 : (n == h) = false := by simp; omega
    have b6 : (h == s) = false := by simp [h2]
    simp [h0, hn, hs, hh, renO, renKV, renV, fsT, eV, boxS, mkBox, List.findIdx?_cons, b1, b2, b3, b4, b5, b6]
theorem set_same {S : Store} {h : Nat} {o : Ob} (e : S[h]? = some o) : S.set h o = S := by
  apply List.ext_getElem?
  intro i
  by_cases q : h = i
  · subst q
    rw [List.getElem?_set_self (lt_of_get e), e]
  · rw [List.getElem?_set_ne q]
theorem head_sh {mx : Int × Int} {rows : Rows} {cnt : Int} {m : Str} (h : List.lookup m [(("mixed" : Str), Val.pd (pr mx)), (("rows" : Str), Val.obj 1), (("count" : Str), Val.pd (.int cnt))] = none) : headIs 0 m (shT mx rows cnt) = true := by
  show ((0 : Nat) == 0 && (List.lookup m _).isNone) = true
  rw [h]
  rfl
theorem no_size {a b c : Val} : List.lookup ("size" : Str) [(("mixed" : Str), a), (("rows" : Str), b), (("count" : Str), c)] = none := by rfl
theorem no_many {a b c : Val} : List.lookup ("many" : Str) [(("mixed" : Str), a), (("rows" : Str), b), (("count" : Str), c)] = none := by rfl
theorem no_put {a b c : Val} : List.lookup ("put" : Str) [(("mixed" : Str), a), (("rows" : Str), b), (("count" : Str), c)] = none := by rfl
theorem no_cut {a b c : Val} : List.lookup ("cut" : Str) [(("mixed" : Str), a), (("rows" : Str), b), (("count" : Str), c)] = none := by rfl
theorem no_look {a b c : Val} : List.lookup ("look" : Str) [(("mixed" : Str), a), (("rows" : Str), b), (("count" : Str), c)] = none := by rfl
theorem no_empty {a b c : Val} : List.lookup ("empty" : Str) [(("mixed" : Str), a), (("rows" : Str), b), (("count" : Str), c)] = none := by rfl
/-- a shelf's method that leaves it as it is, by what it computes -/
theorem meth_sh {mx : Int × Int} {r : Rows × Int} {m : Str} {F : List Val → M Val} {n h : Nat} {fo : DEnv → M Val} {fa : DEnv → M (List Val)} {ρ : DEnv} {S S1 : Store} {ys : List PyData} {d : PyData} {r2 : Rows × Int} {nz : Nz} {T' : Store} (eo : fo ρ S = some (.obj h, S1)) (e : S1[h]? = some (boxS mx r)) (hm : List.lookup m [(("mixed" : Str), Val.pd (pr mx)), (("rows" : Str), Val.obj 1), (("count" : Str), Val.pd (.int r.2))] = none) (ea : fa ρ S1 = some (ys.map Val.pd, S1)) (hn : ys.length + 1 = n)
    (hF : F (.obj 0 :: ys.map Val.pd) (shT mx r.1 r.2) = some (.pd d, T')) (hz : nrm nz 0 T' = some (shT mx r2.1 r2.2)) : eMethB nz 0 m F n fo fa ρ S = some (.pd d, S1.set h (boxS mx r2)) := meth_box eo e (head_sh hm) ea e hn hF hz
def sN (p : Nat) : List Key := [Sum.inr "newer", Sum.inl p]
def sE (p : Nat) : List Key := [Sum.inr "elder", Sum.inl p]
def TSt.spot (t : TSt) (k : List Key) : TSt := { t with spots := putKD t.spots k (.bool true) }
theorem uDPut_T {S : Store} {s : Nat} {kvs : List (List Key × PyData)} {z : Str} {p : Nat} {y : PyData} (e : S[s]? = some (.dT kvs)) (hl : kvs.length < 16777216) : uDPut (.pd y) (.obj s) (.pd (.tuple [.str z, .int p])) S = some ((), S.set s (.dT (putKD kvs [Sum.inr z, Sum.inl p] y))) := by
  have ed : dOf (.obj s) S = some (s, .dT kvs) := by simp [dOf, e]
  have ek : toKeys (.tuple [.str z, .int p]) = some [Sum.inr z, Sum.inl (p : Int)] := rfl
  unfold uDPut
  rw [ed]
  simp [dPut, hl, ek]
theorem TS.spot {S : Store} {e : Option Nat} {n s : Nat} {t : TSt} (T : TS S e n s t) (k : List Key) : TS (S.set s (.dT (putKD t.spots k (.bool true)))) e n s (t.spot k) := by
  obtain ⟨n0, s0, ns⟩ := T.ne0
  refine ⟨?_, ?_, ?_, ?_⟩
  · rw [List.getElem?_set_ne s0]
    exact T.h0
  · rw [List.getElem?_set_ne (Ne.symm ns)]
    exact T.hn
  · rw [List.getElem?_set_self (lt_of_get T.hs)]
    rfl
  · rcases T.he with h | ⟨h, el, h1, h2, h3, h4⟩
    · exact .inl h
    · refine .inr ⟨h, el, h1, h2, ?_, h4⟩
      have : s ≠ h := fun z => by
        rw [← z, T.hs] at h3
        cases h3
      rw [List.getElem?_set_ne this]
      exact h3
theorem no_po {mx : Int × Int} {pace moved n s : Nat} {e : Val} : (fsT mx pace e moved n s).lookup ("place_on" : Str) = none ∧ (fsT mx pace e moved n s).lookup ("move_one" : Str) = none ∧ (fsT mx pace e moved n s).lookup ("go_on" : Str) = none ∧ (fsT mx pace e moved n s).lookup ("home_of" : Str) = none ∧ (fsT mx pace e moved n s).lookup ("begin" : Str) = none := ⟨rfl, rfl, rfl, rfl, rfl⟩
/-- the spots behind home_of; whether the key is on the elder shelf -/
def TSt.home (t : TSt) (k : Int) : TSt := match t.elder with
  | none => t.spot (sN (plc t.mx t.newer.1.length k))
  | some el => if t.moved ≤ plc t.mx el.1.length k then (t.spot (sN (plc t.mx t.newer.1.length k))).spot (sE (plc t.mx el.1.length k)) else t.spot (sN (plc t.mx t.newer.1.length k))
def TSt.atE (t : TSt) (k : Int) : Bool := match t.elder with
  | none => false
  | some el => (shLook t.mx el.1 k).isSome
structure TOk (t : TSt) : Prop where
  mx : mxOk t.mx
  nw : 0 < t.newer.1.length
  el : ∀ el, t.elder = some el → 0 < el.1.length
  sp : t.spots.length < 16000000
theorem putKD_len {κ α : Type} [DecidableEq κ] (kvs : List (κ × α)) (k : κ) (v : α) : (putKD kvs k v).length ≤ kvs.length + 1 := by
  unfold putKD
  split <;> simp
theorem TS.setN {S : Store} {e : Option Nat} {n s : Nat} {t : TSt} (T : TS S e n s t) (r : Rows × Int) : TS (S.set n (boxS t.mx r)) e n s { t with newer := r } := by
  obtain ⟨n0, s0, ns⟩ := T.ne0
  refine ⟨?_, ?_, ?_, ?_⟩
  · rw [List.getElem?_set_ne n0]
    exact T.h0
  · exact List.getElem?_set_self (lt_of_get T.hn)
  · rw [List.getElem?_set_ne ns]
    exact T.hs
  · rcases T.he with h | ⟨h, el, h1, h2, h3, h4⟩
    · exact .inl h
    · exact .inr ⟨h, el, h1, h2, by rw [List.getElem?_set_ne (Ne.symm h4)]; exact h3, h4⟩
theorem TS.setE {S : Store} {h n s : Nat} {t : TSt} {el : Rows × Int} (T : TS S (some h) n s t) (he : t.elder = some el) (r : Rows × Int) : S[h]? = some (boxS t.mx el) ∧ h ≠ n ∧ TS (S.set h (boxS t.mx r)) (some h) n s { t with elder := some r } := by
  rcases T.he with ⟨z, _⟩ | ⟨h', el', z1, z2, z3, z4⟩
  · cases z
  · cases z1
    rw [he] at z2
    cases z2
    have h0 : h ≠ 0 := fun z => by
      rw [z, T.h0] at z3
      cases z3
    have hs : h ≠ s := fun z => by
      rw [z, T.hs] at z3
      cases z3
    refine ⟨z3, z4, ⟨?_, ?_, ?_, .inr ⟨h, r, rfl, rfl, List.getElem?_set_self (lt_of_get z3), z4⟩⟩⟩
    · rw [List.getElem?_set_ne h0]
      exact T.h0
    · rw [List.getElem?_set_ne z4]
      exact T.hn
    · rw [List.getElem?_set_ne hs]
      exact T.hs
theorem TS.setM {S : Store} {e : Option Nat} {n s : Nat} {t : TSt} (T : TS S e n s t) (m : Nat) : uSetF 1 "moved" (.obj 0) (.pd (.int m)) S = some ((), S.set 0 (.ins 1 (fsT t.mx t.pace (eV e) m n s))) ∧ TS (S.set 0 (.ins 1 (fsT t.mx t.pace (eV e) m n s))) e n s { t with moved := m } := by
  obtain ⟨n0, s0, ns⟩ := T.ne0
  refine ⟨by rw [uSetF_get T.h0 (by simp [fsT]), tp_m], List.getElem?_set_self (lt_of_get T.h0), ?_, ?_, ?_⟩
  · rw [List.getElem?_set_ne (Ne.symm n0)]
    exact T.hn
  · rw [List.getElem?_set_ne (Ne.symm s0)]
    exact T.hs
  · rcases T.he with h | ⟨h, el, h1, h2, h3, h4⟩
    · exact .inl h
    · have : (0 : Nat) ≠ h := fun z => by
        rw [← z, T.h0] at h3
        cases h3
      exact .inr ⟨h, el, h1, h2, by rw [List.getElem?_set_ne this]; exact h3, h4⟩
def TSt.mvPair (t : TSt) (p : Int × Int) : TSt := ({ t with newer := (shPut t.mx t.newer.1 p.1 p.2, t.newer.2 + newC t.mx t.newer.1 p.1) } : TSt).spot (sN (plc t.mx t.newer.1.length p.1))
def roomy (rows : Rows) (b : Nat) : Prop := ∀ p, (rowAt rows p).length + b ≤ 16000000
theorem shPut_len {mx : Int × Int} {rows : Rows} {k v : Int} : (shPut mx rows k v).length = rows.length := by simp [shPut]
theorem rowAt_set {rows : Rows} {p q : Nat} {r : List (Int × Int)} : rowAt (rows.set p r) q = if p = q ∧ p < rows.length then r else rowAt rows q := by
  unfold rowAt
  rw [List.getD_eq_getElem?_getD, List.getD_eq_getElem?_getD, List.getElem?_set]
  by_cases h : p = q
  · subst h
    by_cases h2 : p < rows.length
    · simp [h2]
    · simp [h2]
  · simp [h]
theorem roomy_put {mx : Int × Int} {rows : Rows} {k v : Int} {b : Nat} (h : roomy rows (b + 1)) : roomy (shPut mx rows k v) b := fun p => by
  unfold shPut
  rw [rowAt_set]
  split
  · have := h (plc mx rows.length k)
    have := putKD_len (rowAt rows (plc mx rows.length k)) k v
    omega
  · have := h p
    omega
def elE (el : Rows × Int) (m : Nat) : Rows × Int := (el.1.set m [], el.2 - (rowAt el.1 m).length)
def TSt.mvS (t : TSt) (el : Rows × Int) : TSt := ⟨t.mx, t.pace, some (elE el t.moved), t.moved, t.newer, putKD t.spots (sE t.moved) (.bool true)⟩
def TSt.mvF (t : TSt) (el : Rows × Int) : TSt := (rowAt el.1 t.moved).foldl TSt.mvPair (t.mvS el)
def TSt.toM (t : TSt) (m : Nat) : TSt := ⟨t.mx, t.pace, t.elder, m, t.newer, t.spots⟩
def TSt.mv1 (t : TSt) (el : Rows × Int) : TSt := (t.mvF el).toM (t.moved + 1)
theorem fold_mx : ∀ (ps : List (Int × Int)) (t : TSt), (ps.foldl TSt.mvPair t).mx = t.mx ∧ (ps.foldl TSt.mvPair t).pace = t.pace ∧ (ps.foldl TSt.mvPair t).elder = t.elder ∧ (ps.foldl TSt.mvPair t).moved = t.moved ∧ (ps.foldl TSt.mvPair t).newer.1.length = t.newer.1.length
  | [], t => ⟨rfl, rfl, rfl, rfl, rfl⟩
  | p :: ps, t => by
    obtain ⟨a, b, c, d, e⟩ := fold_mx ps (t.mvPair p)
    exact ⟨a, b, c, d, e.trans shPut_len⟩
/-- one turn of go_on -/
def TSt.turn (t : TSt) : TSt := match t.elder with
  | none => t
  | some el => if t.moved + 1 = el.1.length then ⟨t.mx, t.pace, none, 0, (t.mv1 el).newer, (t.mv1 el).spots⟩ else t.mv1 el
theorem TS.drop {S : Store} {h n s : Nat} {t : TSt} (T : TS S (some h) n s t) : uSetF 1 "elder" (.obj 0) (.pd .none) S = some ((), S.set 0 (.ins 1 (fsT t.mx t.pace (.pd .none) t.moved n s))) ∧ uSetF 1 "moved" (.obj 0) (.pd (.int 0)) (S.set 0 (.ins 1 (fsT t.mx t.pace (.pd .none) t.moved n s))) = some ((), S.set 0 (.ins 1 (fsT t.mx t.pace (.pd .none) 0 n s))) ∧
    TS (S.set 0 (.ins 1 (fsT t.mx t.pace (.pd .none) 0 n s))) none n s ⟨t.mx, t.pace, none, 0, t.newer, t.spots⟩ := by
  obtain ⟨n0, s0, ns⟩ := T.ne0
  refine ⟨by rw [uSetF_get T.h0 (by simp [fsT]), tp_e], ?_, ⟨List.getElem?_set_self (lt_of_get T.h0), ?_, ?_, .inl ⟨rfl, rfl⟩⟩⟩
  · have := uSetF_get (f := "moved") (d := .pd (.int ((0 : Nat) : Int))) (c := 1) (S := S.set 0 (.ins 1 (fsT t.mx t.pace (.pd .none) t.moved n s))) (h := 0) (List.getElem?_set_self (lt_of_get T.h0)) (by simp [fsT])
    rw [tp_m, List.set_set] at this
    exact this
  · rw [List.getElem?_set_ne (Ne.symm n0)]
    exact T.hn
  · rw [List.getElem?_set_ne (Ne.symm s0)]
    exact T.hs
def SZ : List Int := [4, 8, 16, 32, 64, 128, 256, 512, 1024, 2048, 4096]
def TSt.further (t : TSt) : Option Nat := if (t.newer.1.length : Int) < t.newer.2 ∧ t.newer.1.length < 4096 then some (2 * t.newer.1.length) else if 8 * t.newer.2 < t.newer.1.length ∧ 4 < t.newer.1.length then some (t.newer.1.length / 2) else none
def TSt.bgn (t : TSt) : TSt := match t.elder, t.further with
  | none, some f => ⟨t.mx, t.pace, some t.newer, t.moved, (List.replicate f [], 0), t.spots⟩
  | _, _ => t
theorem sz_mem {n : Nat} (h : (n : Int) ∈ SZ) : n = 4 ∨ n = 8 ∨ n = 16 ∨ n = 32 ∨ n = 64 ∨ n = 128 ∨ n = 256 ∨ n = 512 ∨ n = 1024 ∨ n = 2048 ∨ n = 4096 := by
  simp [SZ] at h
  omega
theorem sz_of {n : Nat} (h : n = 4 ∨ n = 8 ∨ n = 16 ∨ n = 32 ∨ n = 64 ∨ n = 128 ∨ n = 256 ∨ n = 512 ∨ n = 1024 ∨ n = 2048 ∨ n = 4096) : (n : Int) ∈ SZ := by
  simp [SZ]
  omega
theorem further_sz {t : TSt} (hz : (t.newer.1.length : Int) ∈ SZ) {f : Nat} (h : t.further = some f) : (f : Int) ∈ SZ := by
  have := sz_mem hz
  unfold TSt.further at h
  split at h
  · rename_i c
    cases h
    exact sz_of (by omega)
  · split at h
    · cases h
      exact sz_of (by omega)
    · cases h
def TSt.goN : Nat → TSt → TSt
  | 0, t => t
  | k + 1, t => TSt.goN k t.turn
/-- what one turn asks -/
def TSt.fit (t : TSt) : Prop := mxOk t.mx ∧ 0 < t.newer.1.length ∧ ∀ el, t.elder = some el → t.moved < el.1.length ∧ t.spots.length + (rowAt el.1 t.moved).length < 15999999 ∧ roomy t.newer.1 (rowAt el.1 t.moved).length
def TSt.fresh (t : TSt) : TSt := ⟨t.mx, t.pace, t.elder, t.moved, t.newer, []⟩
/-- ahead of a deed: the shelves moved, the place's spots -/
def TSt.ahead (t : TSt) (k : Int) : TSt := (TSt.goN t.pace t.fresh).home k
theorem TS.fresh {S : Store} {e : Option Nat} {n s : Nat} {t : TSt} (T : TS S e n s t) : uSetF 1 "spots" (.obj 0) (.obj S.length) (S ++ [Ob.dT []]) = some ((), (S ++ [Ob.dT []]).set 0 (.ins 1 (fsT t.mx t.pace (eV e) t.moved n S.length))) ∧ TS ((S ++ [Ob.dT []]).set 0 (.ins 1 (fsT t.mx t.pace (eV e) t.moved n S.length))) e n S.length t.fresh := by
  obtain ⟨n0, s0, ns⟩ := T.ne0
  have l0 := lt_of_get T.h0
  have g0 : (S ++ [Ob.dT []])[0]? = some (.ins 1 (fsT t.mx t.pace (eV e) t.moved n s)) := by rw [List.getElem?_append_left l0]; exact T.h0
  refine ⟨by rw [uSetF_get g0 (by simp [fsT]), tp_s], List.getElem?_set_self (lt_of_get g0), ?_, ?_, ?_⟩
  · rw [List.getElem?_set_ne (Ne.symm n0), List.getElem?_append_left (lt_of_get T.hn)]
    exact T.hn
  · rw [List.getElem?_set_ne (by omega)]
    exact get_app rfl
  · rcases T.he with h | ⟨h, el, h1, h2, h3, h4⟩
    · exact .inl h
    · have : (0 : Nat) ≠ h := fun z => by
        rw [← z, T.h0] at h3
        cases h3
      exact .inr ⟨h, el, h1, h2, by rw [List.getElem?_set_ne this, List.getElem?_append_left (lt_of_get h3)]; exact h3, h4⟩
/-- the shelf at which a deed is done -/
def TSt.shelf (t : TSt) (k : Int) : Rows × Int := if t.atE k then t.elder.getD t.newer else t.newer
def TSt.put1 (t : TSt) (k : Int) (r : Rows × Int) : TSt := if t.atE k then ⟨t.mx, t.pace, some r, t.moved, t.newer, t.spots⟩ else ⟨t.mx, t.pace, t.elder, t.moved, r, t.spots⟩
theorem TS.at_ {S : Store} {e : Option Nat} {n s : Nat} {t : TSt} (T : TS S e n s t) (k : Int) (b : Bool) (hb : b = t.atE k) (r : Rows × Int) : S[if b then e.getD 0 else n]? = some (boxS t.mx (t.shelf k)) ∧ TS (S.set (if b then e.getD 0 else n) (boxS t.mx r)) e n s (t.put1 k r) := by
  subst hb
  unfold TSt.shelf TSt.put1
  cases ha : t.atE k with
  | false => exact ⟨T.hn, T.setN r⟩
  | true =>
    cases he : t.elder with
    | none =>
      unfold TSt.atE at ha
      rw [he] at ha
      cases ha
    | some el =>
      rcases T.he with ⟨_, z⟩ | ⟨h, el', h1, h2, h3, h4⟩
      · rw [he] at z; cases z
      · subst h1
        obtain ⟨a, b, c⟩ := T.setE he r
        exact ⟨a, c⟩
structure Rdy (P : Nat → TSt → Prop) (t : TSt) (k : Int) : Prop where
  step : ∀ i t, P (i + 1) t → t.fit ∧ P i t.turn
  p0 : P t.pace t.fresh
  pc : t.pace ≤ 1000
  ok : TOk (TSt.goN t.pace t.fresh)
  sh : 0 < ((t.ahead k).shelf k).1.length
  rm : roomy ((t.ahead k).shelf k).1 1
  sz : ((t.ahead k).newer.1.length : Int) ∈ SZ
theorem home_mx (t : TSt) (k : Int) : (t.home k).mx = t.mx := by
  unfold TSt.home
  split
  · rfl
  · split <;> rfl
theorem home_at (t : TSt) (k : Int) : (t.home k).atE k = t.atE k := by
  unfold TSt.home
  split
  · rename_i h
    unfold TSt.spot TSt.atE
    rfl
  · split <;> rfl
def TSt.told (t : TSt) (k : Int) : Option Int := shLook (t.ahead k).mx ((t.ahead k).shelf k).1 k
def TSt.putD (t : TSt) (k v : Int) : TSt := ((t.ahead k).put1 k (shPut (t.ahead k).mx ((t.ahead k).shelf k).1 k v, ((t.ahead k).shelf k).2 + newC (t.ahead k).mx ((t.ahead k).shelf k).1 k)).bgn
theorem put1_sz {t : TSt} {k : Int} {r : Rows × Int} (hz : (t.newer.1.length : Int) ∈ SZ) (hl : r.1.length = (t.shelf k).1.length) : ((t.put1 k r).newer.1.length : Int) ∈ SZ := by
  unfold TSt.put1
  unfold TSt.shelf at hl
  cases ha : t.atE k with
  | true => simpa [ha] using hz
  | false =>
    rw [ha] at hl
    have : r.1.length = t.newer.1.length := hl
    simp only [Bool.false_eq_true, if_false]
    rw [this]
    exact hz
def cutR (mx : Int × Int) (r : Rows × Int) (k : Int) : Rows × Int := if (shLook mx r.1 k).isSome then (shCut mx r.1 k, r.2 - 1) else r
theorem cutR_len {mx : Int × Int} {r : Rows × Int} {k : Int} : (cutR mx r k).1.length = r.1.length := by
  unfold cutR
  split <;> simp [shCut]
def TSt.cutD (t : TSt) (k : Int) : TSt := ((t.ahead k).put1 k (cutR (t.ahead k).mx ((t.ahead k).shelf k) k)).bgn
def TSt.lookD (t : TSt) (k : Int) : TSt := ((t.ahead k).put1 k ((t.ahead k).shelf k)).bgn
def boxT (t : TSt) : Ob := mkBox (tabT t)
theorem ts_tab (t : TSt) : ∃ e n s, TS (tabT t) e n s t := by
  cases he : t.elder with
  | none =>
    refine ⟨none, 1, 2, ⟨?_, ?_, ?_, .inl ⟨rfl, he⟩⟩⟩ <;> (unfold tabT; rw [he]; rfl)
  | some el =>
    refine ⟨some 2, 1, 3, ⟨?_, ?_, ?_, .inr ⟨2, el, rfl, he, ?_, by decide⟩⟩⟩ <;> (unfold tabT; rw [he]; rfl)
theorem head_tab {t : TSt} {m : Str} (h : ∀ e n s, (fsT t.mx t.pace e t.moved n s).lookup m = none) : headIs 1 m (tabT t) = true := by
  unfold tabT
  cases t.elder with
  | none =>
    show ((1 : Nat) == 1 && (List.lookup m _).isNone) = true
    rw [h]
    rfl
  | some el =>
    show ((1 : Nat) == 1 && (List.lookup m _).isNone) = true
    rw [h]
    rfl
/-- a table's deed, at the law's level -/
theorem meth_tab {t t' : TSt} {m : Str} {F : List Val → M Val} {n h : Nat} {fo : DEnv → M Val} {fa : DEnv → M (List Val)} {ρ : DEnv} {S S1 : Store} {ys : List PyData} {d : PyData} (eo : fo ρ S = some (.obj h, S1)) (e : S1[h]? = some (boxT t)) (hm : ∀ e n s, (fsT t.mx t.pace e t.moved n s).lookup m = none) (ea : fa ρ S1 = some (ys.map Val.pd, S1)) (hn : ys.length + 1 = n)
    (hF : ∃ T' e' n' s', F (.obj 0 :: ys.map Val.pd) (tabT t) = some (.pd d, T') ∧ TS T' e' n' s' t') : eMethB nzT 1 m F n fo fa ρ S = some (.pd d, S1.set h (boxT t')) := by
  obtain ⟨T', e', n', s', hf, ht⟩ := hF
  exact meth_box eo e (head_tab hm) ea e hn hf (nrm_tab ht)
def TSt.count (t : TSt) : Int := match t.elder with
  | none => t.newer.2
  | some el => el.2 + t.newer.2
def newT (mx : Int × Int) (pace : Nat) : TSt := ⟨mx, pace, none, 0, (List.replicate 4 [], 0), []⟩
/-! plain mathematics of rows -/
theorem valD_put (r : List (Int × Int)) (k w k' : Int) : valD (putKD r k w) k' = if k' = k then some w else valD r k' := by
  unfold putKD
  split
  · rename_i h
    induction r with
    | nil => cases h
    | cons p r ih =>
      rw [List.map_cons]
      by_cases hp : p.1 = k
      · by_cases hk : k' = k
        · subst hk
          simp [valD, hp]
        · have hk2 : ¬ k = k' := fun z => hk z.symm
          have e : valD (r.map fun kv => if kv.1 = k then (kv.1, w) else kv) k' = valD r k' := by
            clear ih h
            induction r with
            | nil => rfl
            | cons q r ih =>
              rw [List.map_cons]
              by_cases hq : q.1 = k
              · have : ¬ q.1 = k' := fun z => hk (z.symm.trans hq)
                simp only [valD, List.find?_cons] at ih ⊢
                simp [hq, hk2, this] at ih ⊢
                exact ih
              · by_cases hq2 : q.1 = k'
                · simp [valD, hq, hq2, hk]
                · simp only [valD, List.find?_cons] at ih ⊢
                  simp [hq, hq2] at ih ⊢
                  exact ih
          have : ¬ p.1 = k' := fun z => hk (z.symm.trans hp)
          simp only [valD, List.find?_cons] at e ⊢
          simp [hp, hk, hk2, this] at e ⊢
          exact e
      · have h' : (r.any fun kv => decide (kv.1 = k)) = true := by
          rw [List.any_cons] at h
          simpa [hp] using h
        have ih := ih h'
        by_cases hk : p.1 = k'
        · have : ¬ k' = k := fun z => hp (hk.trans z)
          simp [valD, hp, hk, this]
        · simp only [valD, List.find?_cons] at ih ⊢
          simp [hp, hk] at ih ⊢
          exact ih
  · rename_i h
    have hn : ∀ q ∈ r, ¬ q.1 = k := fun q hq z => h (List.any_eq_true.mpr ⟨q, hq, by simp [z]⟩)
    clear h
    induction r with
    | nil =>
      by_cases hk : k' = k
      · simp [valD, hk]
      · have hk2 : ¬ k = k' := fun z => hk z.symm
        simp [valD, hk, hk2]
    | cons p r ih =>
      have hp := hn p (List.mem_cons_self ..)
      have ih := ih fun q hq => hn q (List.mem_cons_of_mem _ hq)
      by_cases hk : p.1 = k'
      · have : ¬ k' = k := fun z => hp (hk.trans z)
        simp [valD, hk, this]
      · simp only [valD, List.cons_append, List.find?_cons] at ih ⊢
        simp [hk] at ih ⊢
        exact ih
theorem valD_drop (r : List (Int × Int)) (k k' : Int) : valD (dropKD r k) k' = if k' = k then none else valD r k' := by
  induction r with
  | nil => simp [valD, dropKD]
  | cons p r ih =>
    unfold dropKD at ih ⊢
    by_cases hp : p.1 = k
    · rw [List.filter_cons_of_neg (by simp [hp]), ih]
      by_cases hk : k' = k
      · simp [hk]
      · have : ¬ p.1 = k' := fun z => hk (z.symm.trans hp)
        have h2 : ¬ k = k' := fun z => hk z.symm
        simp [hk, valD, this, hp, h2]
    · rw [List.filter_cons_of_pos (by simp [hp])]
      by_cases hk : p.1 = k'
      · have : ¬ k' = k := fun z => hp (hk.trans z)
        simp [valD, hk, this]
      · simp only [valD, List.find?_cons] at ih ⊢
        simp [hk] at ih ⊢
        exact ih
theorem look_put {mx : Int × Int} {rows : Rows} {k v k' : Int} (hr : 0 < rows.length) : shLook mx (shPut mx rows k v) k' = if k' = k then some v else shLook mx rows k' := by
  unfold shLook
  rw [shPut_len]
  unfold shPut
  rw [rowAt_set]
  by_cases h : plc mx rows.length k = plc mx rows.length k'
  · rw [if_pos ⟨h, plc_lt hr⟩, valD_put, h]
  · rw [if_neg fun z => h z.1]
    have : ¬ k' = k := fun z => h (by rw [z])
    rw [if_neg this]
theorem look_cut {mx : Int × Int} {rows : Rows} {k k' : Int} (hr : 0 < rows.length) : shLook mx (shCut mx rows k) k' = if k' = k then none else shLook mx rows k' := by
  unfold shLook shCut
  rw [List.length_set, rowAt_set]
  by_cases h : plc mx rows.length k = plc mx rows.length k'
  · rw [if_pos ⟨h, plc_lt hr⟩, valD_drop, h]
  · rw [if_neg fun z => h z.1]
    have : ¬ k' = k := fun z => h (by rw [z])
    rw [if_neg this]
theorem putKD_len_eq (r : List (Int × Int)) (k w : Int) : (putKD r k w).length = r.length + (if (valD r k).isSome then 0 else 1) := by
  have h := any_val k r
  unfold putKD
  rw [h]
  cases (valD r k).isSome <;> simp
def keysOf (r : List (Int × Int)) : List Int := r.map (·.1)
theorem val_keys (r : List (Int × Int)) (k : Int) : (valD r k).isSome = true ↔ k ∈ keysOf r := by
  rw [← any_val, List.any_eq_true]
  unfold keysOf
  constructor
  · rintro ⟨p, hp, e⟩
    exact List.mem_map.mpr ⟨p, hp, by simpa using e⟩
  · intro h
    obtain ⟨p, hp, e⟩ := List.mem_map.mp h
    exact ⟨p, hp, by simpa using e⟩
theorem keys_put (r : List (Int × Int)) (k w : Int) : keysOf (putKD r k w) = if (valD r k).isSome then keysOf r else keysOf r ++ [k] := by
  have h := any_val k r
  unfold putKD keysOf
  rw [h]
  cases (valD r k).isSome
  · simp
  · simp only [if_true, List.map_map]
    apply List.map_congr_left
    intro p _
    by_cases hp : p.1 = k <;> simp [hp]
theorem nd_put {r : List (Int × Int)} {k w : Int} (h : (keysOf r).Nodup) : (keysOf (putKD r k w)).Nodup := by
  rw [keys_put]
  split
  · exact h
  · rename_i hv
    rw [val_keys] at hv
    exact List.nodup_append.mpr ⟨h, by simp, fun a ha b hb => by
      simp at hb
      subst hb
      exact fun z => hv (z ▸ ha)⟩
theorem keys_drop (r : List (Int × Int)) (k : Int) : keysOf (dropKD r k) = (keysOf r).filter fun z => decide (z ≠ k) := by
  unfold keysOf dropKD
  rw [List.filter_map]
  rfl
theorem nd_drop {r : List (Int × Int)} {k : Int} (h : (keysOf r).Nodup) : (keysOf (dropKD r k)).Nodup := by
  rw [keys_drop]
  exact h.filter _
theorem drop_len : ∀ {r : List (Int × Int)} {k : Int}, (keysOf r).Nodup → (valD r k).isSome = true → (dropKD r k).length + 1 = r.length
  | [], k, _, h => by simp [valD] at h
  | p :: r, k, hn, h => by
    have hn' := List.nodup_cons.mp hn
    by_cases hp : p.1 = k
    · have e : dropKD r k = r := by
        unfold dropKD
        rw [List.filter_eq_self]
        intro q hq
        have : q.1 ≠ k := fun z => hn'.1 (List.mem_map.mpr ⟨q, hq, z.trans hp.symm⟩)
        simp [this]
      unfold dropKD at e ⊢
      rw [List.filter_cons_of_neg (by simp [hp]), e]
      rfl
    · have hv : (valD r k).isSome = true := by
        have : valD (p :: r) k = valD r k := by simp [valD, hp]
        rw [← this]
        exact h
      have ih := drop_len hn'.2 hv
      unfold dropKD at ih ⊢
      rw [List.filter_cons_of_pos (by simp [hp]), List.length_cons, List.length_cons]
      omega
/-- all pairs -/
def tot (rows : Rows) : Nat := (rows.map List.length).sum
theorem tot_set : ∀ {rows : Rows} {p : Nat} {r : List (Int × Int)}, p < rows.length → tot (rows.set p r) + (rowAt rows p).length = tot rows + r.length
  | x :: rows, 0, r, _ => by
    simp [tot, rowAt]
    omega
  | x :: rows, p + 1, r, h => by
    have ih := tot_set (rows := rows) (p := p) (r := r) (by simpa using h)
    simp [tot, rowAt] at ih ⊢
    omega
  | [], _, _, h => by cases h
/-- a sound shelf -/
structure ShI (mx : Int × Int) (r : Rows × Int) : Prop where
  sz : (r.1.length : Int) ∈ SZ
  pl : ∀ p k, k ∈ keysOf (rowAt r.1 p) → plc mx r.1.length k = p
  nd : ∀ p, (keysOf (rowAt r.1 p)).Nodup
  ct : r.2 = tot r.1
theorem ShI.pos {mx : Int × Int} {r : Rows × Int} (h : ShI mx r) : 0 < r.1.length := by
  have := sz_mem h.sz
  omega
theorem ShI.put {mx : Int × Int} {r : Rows × Int} (h : ShI mx r) (k v : Int) : ShI mx (shPut mx r.1 k v, r.2 + newC mx r.1 k) := by
  have hr := h.pos
  have hp := plc_lt (mx := mx) (k := k) hr
  refine ⟨by rw [shPut_len]; exact h.sz, fun p z hz => ?_, fun p => ?_, ?_⟩
  · rw [shPut_len]
    unfold shPut at hz
    simp only at hz
    rw [rowAt_set] at hz
    split at hz
    · rename_i c
      rw [keys_put] at hz
      split at hz
      · rw [← c.1]; exact h.pl _ z hz
      · rcases List.mem_append.mp hz with q | q
        · rw [← c.1]; exact h.pl _ z q
        · simp at q
          rw [q]
          exact c.1
    · exact h.pl p z hz
  · unfold shPut
    simp only
    rw [rowAt_set]
    split
    · exact nd_put (h.nd _)
    · exact h.nd p
  · have e := tot_set (r := putKD (rowAt r.1 (plc mx r.1.length k)) k v) hp
    rw [putKD_len_eq] at e
    show r.2 + newC mx r.1 k = ((tot (shPut mx r.1 k v) : Nat) : Int)
    unfold newC shLook shPut
    rw [h.ct]
    split at e <;> rename_i c <;> simp [c] <;> omega
theorem ShI.empty {mx : Int × Int} {r : Rows × Int} (h : ShI mx r) {p : Nat} (hp : p < r.1.length) : ShI mx (elE r p) := by
  refine ⟨by unfold elE; simpa using h.sz, fun q z hz => ?_, fun q => ?_, ?_⟩
  · unfold elE at hz ⊢
    simp only [List.length_set] at hz ⊢
    rw [rowAt_set] at hz
    split at hz
    · cases hz
    · exact h.pl q z hz
  · unfold elE
    simp only
    rw [rowAt_set]
    split
    · exact List.nodup_nil
    · exact h.nd q
  · have e := tot_set (r := []) hp
    unfold elE
    simp only
    rw [h.ct]
    simp at e
    omega
theorem ShI.cut {mx : Int × Int} {r : Rows × Int} (h : ShI mx r) (k : Int) : ShI mx (cutR mx r k) := by
  have hr := h.pos
  have hp := plc_lt (mx := mx) (k := k) hr
  unfold cutR
  split
  · rename_i c
    refine ⟨by unfold shCut; simpa using h.sz, fun p z hz => ?_, fun p => ?_, ?_⟩
    · unfold shCut at hz ⊢
      simp only [List.length_set] at hz ⊢
      rw [rowAt_set] at hz
      split at hz
      · rename_i d
        rw [keys_drop] at hz
        rw [← d.1]
        exact h.pl _ z (List.mem_filter.mp hz).1
      · exact h.pl p z hz
    · unfold shCut
      simp only
      rw [rowAt_set]
      split
      · exact nd_drop (h.nd _)
      · exact h.nd p
    · have e := tot_set (r := dropKD (rowAt r.1 (plc mx r.1.length k)) k) hp
      have e2 := drop_len (h.nd (plc mx r.1.length k)) c
      show r.2 - 1 = ((tot (shCut mx r.1 k) : Nat) : Int)
      unfold shCut
      rw [h.ct]
      omega
  · exact h
theorem rowAt_rep {f p : Nat} : rowAt (List.replicate f []) p = [] := by
  unfold rowAt
  rw [List.getD_eq_getElem?_getD, List.getElem?_replicate]
  split <;> rfl
theorem ShI.new {mx : Int × Int} {f : Nat} (hf : (f : Int) ∈ SZ) : ShI mx (List.replicate f [], 0) := by
  refine ⟨by simpa using hf, fun p z hz => ?_, fun p => ?_, ?_⟩
  · rw [rowAt_rep] at hz
    cases hz
  · rw [rowAt_rep]
    exact List.nodup_nil
  · simp [tot]
/-- a sound table -/
structure TI (t : TSt) : Prop where
  mx : mxOk t.mx
  nw : ShI t.mx t.newer
  el : ∀ el, t.elder = some el → ShI t.mx el ∧ t.moved < el.1.length ∧ (∀ p, p < t.moved → rowAt el.1 p = []) ∧ ∀ k, (shLook t.mx el.1 k).isSome = true → shLook t.mx t.newer.1 k = none
  em : t.elder = none → t.moved = 0
def TSt.get (t : TSt) (k : Int) : Option Int := match t.elder with
  | none => shLook t.mx t.newer.1 k
  | some el => if (shLook t.mx el.1 k).isSome then shLook t.mx el.1 k else shLook t.mx t.newer.1 k
theorem TI.new {mx : Int × Int} {pace : Nat} (hm : mxOk mx) : TI (newT mx pace) := ⟨hm, ShI.new (by decide), fun el h => (by cases h), fun _ => rfl⟩
theorem TI.spot {t : TSt} (h : TI t) (k : List Key) : TI (t.spot k) := ⟨h.mx, h.nw, h.el, h.em⟩
theorem TI.home {t : TSt} (h : TI t) (k : Int) : TI (t.home k) := by
  unfold TSt.home
  split
  · exact h.spot _
  · split
    · exact (h.spot _).spot _
    · exact h.spot _
theorem home_get (t : TSt) (k k' : Int) : (t.home k).get k' = t.get k' := by
  unfold TSt.home
  split
  · rfl
  · split <;> rfl
theorem TI.fresh {t : TSt} (h : TI t) : TI t.fresh := ⟨h.mx, h.nw, h.el, h.em⟩
theorem TI.bgn {t : TSt} (h : TI t) : TI t.bgn := by
  unfold TSt.bgn
  split
  · rename_i f he hf
    have hm := h.em he
    refine ⟨h.mx, ShI.new (further_sz h.nw.sz hf), fun el e => ?_, fun e => by cases e⟩
    cases e
    refine ⟨h.nw, ?_, ?_, ?_⟩
    · show t.moved < _
      rw [hm]
      exact h.nw.pos
    · intro p hp
      have hp : p < t.moved := hp
      omega
    · intro k _
      show shLook t.mx (List.replicate f []) k = none
      unfold shLook
      rw [rowAt_rep]
      rfl
  · exact h
theorem bgn_get {t : TSt} (k : Int) : t.bgn.get k = t.get k := by
  unfold TSt.bgn
  split
  · rename_i f he hf
    unfold TSt.get
    rw [he]
    simp only
    split
    · rfl
    · rename_i c
      have e : shLook t.mx (List.replicate f []) k = none := by
        unfold shLook
        rw [rowAt_rep]
        rfl
      rw [e]
      cases hv : shLook t.mx t.newer.1 k with
      | none => rfl
      | some y => rw [hv] at c; exact absurd rfl c
  · rfl
/-- what a deed at the home shelf does to the lookups -/
theorem put1_get {t : TSt} {k : Int} {r : Rows × Int} {o : Option Int} (h : TI t) (hl : r.1.length = (t.shelf k).1.length) (hr : ∀ k', shLook t.mx r.1 k' = if k' = k then o else shLook t.mx (t.shelf k).1 k') (ho : t.atE k = true → o.isSome = true ∨ shLook t.mx t.newer.1 k = o) (k' : Int) : (t.put1 k r).get k' = if k' = k then o else t.get k' := by
  unfold TSt.put1 TSt.get
  unfold TSt.shelf at hr
  cases ha : t.atE k with
  | false =>
    rw [ha] at hr
    simp only [Bool.false_eq_true, if_false] at hr ⊢
    cases he : t.elder with
    | none =>
      simp only
      exact hr k'
    | some el =>
      simp only
      rw [hr k']
      by_cases hk : k' = k
      · subst hk
        have : (shLook t.mx el.1 k').isSome = false := by
          unfold TSt.atE at ha
          rw [he] at ha
          exact ha
        simp [this]
      · simp [hk]
  | true =>
    rw [ha] at hr
    cases he : t.elder with
    | none =>
      unfold TSt.atE at ha
      rw [he] at ha
      cases ha
    | some el =>
      rw [he] at hr
      simp only [if_true, Option.getD_some] at hr ⊢
      rw [hr k']
      by_cases hk : k' = k
      · subst hk
        simp only [if_true]
        cases hs : o.isSome with
        | true => simp
        | false =>
          rcases ho ha with z | z
          · rw [hs] at z; cases z
          · rw [z]; simp
      · simp [hk]
theorem fold_newer : ∀ (ps : List (Int × Int)) (t : TSt), mxOk t.mx → ShI t.mx t.newer → (keysOf ps).Nodup → ShI t.mx (ps.foldl TSt.mvPair t).newer ∧ ∀ k, shLook t.mx (ps.foldl TSt.mvPair t).newer.1 k = if (valD ps k).isSome then valD ps k else shLook t.mx t.newer.1 k
  | [], t, _, h, _ => ⟨h, fun k => by simp [valD]⟩
  | p :: ps, t, hm, h, hn => by
    have hn' := List.nodup_cons.mp hn
    have h1 := h.put p.1 p.2
    obtain ⟨a, b⟩ := fold_newer ps (t.mvPair p) hm h1 hn'.2
    refine ⟨a, fun k => ?_⟩
    have b := b k
    have e : shLook t.mx (t.mvPair p).newer.1 k = if k = p.1 then some p.2 else shLook t.mx t.newer.1 k := look_put h.pos
    have b' : shLook t.mx ((p :: ps).foldl TSt.mvPair t).newer.1 k = if (valD ps k).isSome then valD ps k else shLook t.mx (t.mvPair p).newer.1 k := b
    rw [b', e]
    by_cases hk : p.1 = k
    · subst hk
      have hv : (valD ps p.1).isSome = false := by
        cases q : (valD ps p.1).isSome with
        | false => rfl
        | true => exact absurd ((val_keys ps p.1).mp q) hn'.1
      have e2 : valD (p :: ps) p.1 = some p.2 := by simp [valD]
      rw [e2, hv]
      simp
    · have hk2 : ¬ k = p.1 := fun z => hk z.symm
      have e2 : valD (p :: ps) k = valD ps k := by simp [valD, hk]
      rw [e2, if_neg hk2]
theorem look_elE {mx : Int × Int} {el : Rows × Int} {m : Nat} {k : Int} (hp : m < el.1.length) : shLook mx (elE el m).1 k = if plc mx el.1.length k = m then none else shLook mx el.1 k := by
  unfold shLook elE
  simp only [List.length_set]
  rw [rowAt_set]
  by_cases h : m = plc mx el.1.length k
  · rw [if_pos ⟨h, hp⟩, if_pos h.symm]
    rfl
  · rw [if_neg fun z => h z.1, if_neg fun z => h z.symm]
theorem mv1_facts {t : TSt} {el : Rows × Int} (h : TI t) (he : t.elder = some el) : ShI t.mx (t.mv1 el).newer ∧ (∀ k, shLook t.mx (t.mv1 el).newer.1 k = if plc t.mx el.1.length k = t.moved ∧ (shLook t.mx el.1 k).isSome = true then shLook t.mx el.1 k else shLook t.mx t.newer.1 k) := by
  obtain ⟨h1, h2, h3, h4⟩ := h.el el he
  obtain ⟨a, b⟩ := fold_newer (rowAt el.1 t.moved) (t.mvS el) h.mx h.nw (h1.nd _)
  refine ⟨a, fun k => ?_⟩
  have b := b k
  have b' : shLook t.mx (t.mv1 el).newer.1 k = if (valD (rowAt el.1 t.moved) k).isSome then valD (rowAt el.1 t.moved) k else shLook t.mx t.newer.1 k := b
  rw [b']
  by_cases hc : plc t.mx el.1.length k = t.moved
  · have e : shLook t.mx el.1 k = valD (rowAt el.1 t.moved) k := by
      unfold shLook
      rw [hc]
    rw [e]
    simp [hc]
  · have hv : ¬ (valD (rowAt el.1 t.moved) k).isSome = true := fun z => hc (h1.pl _ _ ((val_keys _ _).mp z))
    rw [if_neg hv, if_neg fun z => hc z.1]
theorem TI.turn {t : TSt} (h : TI t) : TI t.turn ∧ ∀ k, t.turn.get k = t.get k := by
  unfold TSt.turn
  cases he : t.elder with
  | none => exact ⟨h, fun _ => rfl⟩
  | some el =>
    obtain ⟨h1, h2, h3, h4⟩ := h.el el he
    obtain ⟨f1, f2⟩ := mv1_facts h he
    have hmx : (t.mv1 el).mx = t.mx := (fold_mx (rowAt el.1 t.moved) (t.mvS el)).1
    have hel : (t.mv1 el).elder = some (elE el t.moved) := (fold_mx (rowAt el.1 t.moved) (t.mvS el)).2.2.1
    have hmv : (t.mv1 el).moved = t.moved + 1 := rfl
    have hlen : (elE el t.moved).1.length = el.1.length := by simp [elE]
    have emp : ∀ p, p < t.moved + 1 → rowAt (elE el t.moved).1 p = [] := fun p hp => by
      unfold elE
      simp only
      rw [rowAt_set]
      split
      · rfl
      · rename_i c
        exact h3 p (by
          have : t.moved ≠ p := fun z => c ⟨z, h2⟩
          omega)
    by_cases hc : t.moved + 1 = el.1.length
    · simp only [hc, if_true]
      refine ⟨⟨h.mx, f1, fun el e => (by cases e), fun _ => rfl⟩, fun k => ?_⟩
      show shLook t.mx (t.mv1 el).newer.1 k = t.get k
      rw [f2 k]
      unfold TSt.get
      rw [he]
      simp only
      by_cases hp : plc t.mx el.1.length k = t.moved
      · simp only [hp, true_and]
      · have : shLook t.mx el.1 k = none := by
          unfold shLook
          rw [h3 _ (by
            have := plc_lt (mx := t.mx) (k := k) h1.pos
            omega)]
          rfl
        rw [this]
        simp
    · simp only [hc, if_false]
      refine ⟨⟨by rw [hmx]; exact h.mx, by rw [hmx]; exact f1, fun el' e => ?_, fun e => by rw [hel] at e; cases e⟩, fun k => ?_⟩
      · rw [hel] at e
        cases e
        rw [hmx]
        refine ⟨h1.empty h2, by rw [hmv, hlen]; omega, by rw [hmv]; exact emp, fun k hk => ?_⟩
        rw [look_elE h2] at hk
        rw [f2 k]
        by_cases hp : plc t.mx el.1.length k = t.moved
        · rw [if_pos hp] at hk
          cases hk
        · rw [if_neg hp] at hk
          rw [if_neg fun z => hp z.1]
          exact h4 k hk
      · unfold TSt.get
        rw [hel, he, hmx]
        simp only
        rw [look_elE h2, f2 k]
        by_cases hp : plc t.mx el.1.length k = t.moved
        · simp only [hp, if_true, true_and]
          simp
        · simp only [hp, if_false, false_and]
/-- a deed's new shelf: sound, alike but at the key -/
structure ShDeed (mx : Int × Int) (r r' : Rows × Int) (k : Int) : Prop where
  s : ShI mx r'
  l : r'.1.length = r.1.length
  at_ : ∀ p, p ≠ plc mx r.1.length k → rowAt r'.1 p = rowAt r.1 p
  lk : ∀ k', k' ≠ k → shLook mx r'.1 k' = shLook mx r.1 k'
theorem deed_put {mx : Int × Int} {r : Rows × Int} (h : ShI mx r) (k v : Int) : ShDeed mx r (shPut mx r.1 k v, r.2 + newC mx r.1 k) k :=
  ⟨h.put k v, shPut_len, fun p hp => by
    unfold shPut
    simp only
    rw [rowAt_set, if_neg fun z => hp z.1.symm], fun k' hk => by
    simp only
    rw [look_put h.pos, if_neg hk]⟩
theorem deed_cut {mx : Int × Int} {r : Rows × Int} (h : ShI mx r) (k : Int) : ShDeed mx r (cutR mx r k) k :=
  ⟨h.cut k, cutR_len, fun p hp => by
    unfold cutR
    split
    · unfold shCut
      simp only
      rw [rowAt_set, if_neg fun z => hp z.1.symm]
    · rfl, fun k' hk => by
    unfold cutR
    split
    · simp only
      rw [look_cut h.pos, if_neg hk]
    · rfl⟩
theorem deed_same {mx : Int × Int} {r : Rows × Int} (h : ShI mx r) (k : Int) : ShDeed mx r r k := ⟨h, rfl, fun _ _ => rfl, fun _ _ => rfl⟩
theorem shelf_ok {t : TSt} (h : TI t) (k : Int) : ShI t.mx (t.shelf k) := by
  unfold TSt.shelf
  split
  · cases he : t.elder with
    | none => exact h.nw
    | some el => exact (h.el el he).1
  · exact h.nw
theorem TI.put1 {t : TSt} (h : TI t) {k : Int} {r : Rows × Int} (d : ShDeed t.mx (t.shelf k) r k) : TI (t.put1 k r) := by
  unfold TSt.put1
  unfold TSt.shelf at d
  cases ha : t.atE k with
  | false =>
    rw [ha] at d
    simp only [Bool.false_eq_true, if_false] at d ⊢
    refine ⟨h.mx, d.s, fun el he => ?_, h.em⟩
    obtain ⟨h1, h2, h3, h4⟩ := h.el el he
    refine ⟨h1, h2, h3, fun k' hk => ?_⟩
    have : k' ≠ k := fun z => by
      subst z
      unfold TSt.atE at ha
      rw [show t.elder = some el from he] at ha
      have ha : (shLook t.mx el.1 k').isSome = false := ha
      rw [ha] at hk
      cases hk
    exact (d.lk k' this).trans (h4 k' hk)
  | true =>
    cases he : t.elder with
    | none =>
      unfold TSt.atE at ha
      rw [he] at ha
      cases ha
    | some el =>
      rw [ha, he] at d
      simp only [if_true, Option.getD_some] at d ⊢
      obtain ⟨h1, h2, h3, h4⟩ := h.el el he
      have hk0 : (shLook t.mx el.1 k).isSome = true := by
        unfold TSt.atE at ha
        rw [he] at ha
        exact ha
      have hp0 : t.moved ≤ plc t.mx el.1.length k := by
        refine Nat.le_of_not_lt fun z => ?_
        unfold shLook at hk0
        rw [h3 _ z] at hk0
        cases hk0
      refine ⟨h.mx, h.nw, fun el' e => ?_, fun e => by cases e⟩
      cases e
      refine ⟨d.s, by rw [d.l]; exact h2, fun p hp => ?_, fun k' hk => ?_⟩
      · have hp : p < t.moved := hp
        rw [d.at_ p (by omega)]
        exact h3 p hp
      · by_cases hkk : k' = k
        · subst hkk
          exact h4 k' hk0
        · rw [d.lk k' hkk] at hk
          exact h4 k' hk
end
end TM
set_option Elab.async false
set_option linter.all false
set_option maxRecDepth 100000
set_option maxHeartbeats 4000000
namespace TM
open PySem L2 PyProof.Rows DM
noncomputable section
/-! all pairs of a shelf, of a table -/
theorem tot_flat (rows : Rows) : tot rows = rows.flatten.length := by
  unfold tot
  rw [List.length_flatten]
theorem keysOf_app (a b : List (Int × Int)) : keysOf (a ++ b) = keysOf a ++ keysOf b := by simp [keysOf]
theorem rowAt_mem {rows : Rows} {r : List (Int × Int)} (h : r ∈ rows) : ∃ p, p < rows.length ∧ rowAt rows p = r := by
  obtain ⟨p, hp, e⟩ := List.getElem_of_mem h
  exact ⟨p, hp, by simp [rowAt, List.getD_eq_getElem?_getD, hp, e]⟩
theorem valD_mem {r : List (Int × Int)} {k v : Int} (hn : (keysOf r).Nodup) : valD r k = some v ↔ (k, v) ∈ r := by
  induction r with
  | nil => simp [valD]
  | cons p r ih =>
    have hn' := List.nodup_cons.mp hn
    have ih := ih hn'.2
    by_cases hp : p.1 = k
    · have e : valD (p :: r) k = some p.2 := by simp [valD, hp]
      rw [e]
      constructor
      · intro q
        cases q
        rw [← hp]
        exact List.mem_cons_self ..
      · intro q
        rcases List.mem_cons.mp q with q | q
        · rw [← q]
        · exact absurd (List.mem_map.mpr ⟨(k, v), q, hp.symm⟩) hn'.1
    · have e : valD (p :: r) k = valD r k := by simp [valD, hp]
      rw [e, ih]
      constructor
      · exact fun q => List.mem_cons_of_mem _ q
      · intro q
        rcases List.mem_cons.mp q with q | q
        · exact absurd (by rw [← q]) hp
        · exact q
theorem ShI.mem {mx : Int × Int} {r : Rows × Int} (h : ShI mx r) {k v : Int} : (k, v) ∈ r.1.flatten ↔ shLook mx r.1 k = some v := by
  unfold shLook
  rw [valD_mem (h.nd _), List.mem_flatten]
  constructor
  · rintro ⟨l, hl, hk⟩
    obtain ⟨p, hp, rfl⟩ := rowAt_mem hl
    have : plc mx r.1.length k = p := h.pl p k (List.mem_map.mpr ⟨_, hk, rfl⟩)
    rw [this]
    exact hk
  · intro hk
    refine ⟨_, ?_, hk⟩
    have := rowAt_get (rows := r.1) (plc_lt (mx := mx) (k := k) h.pos)
    exact List.mem_of_getElem? this
theorem flat_nd_aux {mx : Int × Int} {n : Nat} : ∀ (rows : Rows) (b : Nat), (∀ p k, k ∈ keysOf (rowAt rows p) → plc mx n k = b + p) → (∀ p, (keysOf (rowAt rows p)).Nodup) → (keysOf rows.flatten).Nodup ∧ ∀ k ∈ keysOf rows.flatten, b ≤ plc mx n k
  | [], _, _, _ => ⟨List.nodup_nil, fun k hk => by cases hk⟩
  | x :: rows, b, hp, hd => by
    obtain ⟨a, c⟩ := flat_nd_aux (mx := mx) (n := n) rows (b + 1) (fun p k hk => by
      have := hp (p + 1) k hk
      omega) (fun p => hd (p + 1))
    have x0 : ∀ k ∈ keysOf x, plc mx n k = b := fun k hk => hp 0 k hk
    rw [List.flatten_cons, keysOf_app]
    refine ⟨List.nodup_append.mpr ⟨hd 0, a, fun k hk k' hk' z => ?_⟩, fun k hk => ?_⟩
    · subst z
      have := x0 k hk
      have := c k hk'
      omega
    · rcases List.mem_append.mp hk with q | q
      · rw [x0 k q]
        exact Nat.le_refl _
      · have := c k q
        omega
theorem ShI.flat_nd {mx : Int × Int} {r : Rows × Int} (h : ShI mx r) : (keysOf r.1.flatten).Nodup :=
  (flat_nd_aux (mx := mx) (n := r.1.length) r.1 0 (fun p k hk => by rw [h.pl p k hk]; omega) h.nd).1
theorem nd_pairs {r : List (Int × Int)} (h : (keysOf r).Nodup) : r.Nodup := by
  unfold keysOf at h
  exact List.Pairwise.of_map _ (fun a b hab z => hab (by rw [z])) h
def TSt.pairs (t : TSt) : List (Int × Int) := match t.elder with
  | none => t.newer.1.flatten
  | some el => el.1.flatten ++ t.newer.1.flatten
theorem TI.pairs_nd {t : TSt} (h : TI t) : (keysOf t.pairs).Nodup := by
  unfold TSt.pairs
  cases he : t.elder with
  | none => exact h.nw.flat_nd
  | some el =>
    obtain ⟨h1, h2, h3, h4⟩ := h.el el he
    simp only
    rw [keysOf_app]
    refine List.nodup_append.mpr ⟨h1.flat_nd, h.nw.flat_nd, fun k hk k' hk' z => ?_⟩
    subst z
    obtain ⟨p, hp, e⟩ := List.mem_map.mp hk
    obtain ⟨q, hq, e'⟩ := List.mem_map.mp hk'
    have a : shLook t.mx el.1 k = some p.2 := h1.mem.mp (by rw [← e]; exact hp)
    have b : shLook t.mx t.newer.1 k = some q.2 := h.nw.mem.mp (by rw [← e']; exact hq)
    rw [h4 k (by rw [a]; rfl)] at b
    cases b
theorem TI.pairs_mem {t : TSt} (h : TI t) {k v : Int} : (k, v) ∈ t.pairs ↔ t.get k = some v := by
  unfold TSt.pairs TSt.get
  cases he : t.elder with
  | none => exact h.nw.mem
  | some el =>
    obtain ⟨h1, h2, h3, h4⟩ := h.el el he
    simp only
    rw [List.mem_append, h1.mem, h.nw.mem]
    cases hk : shLook t.mx el.1 k with
    | none => simp
    | some w =>
      have := h4 k (by rw [hk]; rfl)
      simp [this]
theorem TI.count {t : TSt} (h : TI t) : t.count = t.pairs.length := by
  unfold TSt.count TSt.pairs
  cases he : t.elder with
  | none => 
    simp only
    rw [h.nw.ct, tot_flat]
  | some el =>
    obtain ⟨h1, _⟩ := h.el el he
    simp only
    rw [h.nw.ct, h1.ct, tot_flat, tot_flat, List.length_append]
    omega
theorem perm_of_val {a b : List (Int × Int)} (ha : (keysOf a).Nodup) (hb : (keysOf b).Nodup) (h : ∀ k v, (k, v) ∈ a ↔ (k, v) ∈ b) : a.Perm b :=
  (List.perm_ext_iff_of_nodup (nd_pairs ha) (nd_pairs hb)).mpr fun p => h p.1 p.2
theorem TI.perm {t t' : TSt} (h : TI t) (h' : TI t') (e : ∀ k, t'.get k = t.get k) : t'.pairs.Perm t.pairs :=
  perm_of_val h'.pairs_nd h.pairs_nd fun k v => by rw [h.pairs_mem, h'.pairs_mem, e]
/-- a plain dict that has what the table has -/
theorem TI.perm_known {t : TSt} (h : TI t) {kn : List (Int × Int)} (hk : (keysOf kn).Nodup) (e : ∀ k, t.get k = valD kn k) : t.pairs.Perm kn :=
  perm_of_val h.pairs_nd hk fun k v => by rw [h.pairs_mem, e, valD_mem hk]
/-! rows are no longer than all pairs -/
theorem rowAt_tot : ∀ (rows : Rows) (p : Nat), (rowAt rows p).length ≤ rows.flatten.length
  | [], _ => by simp [rowAt]
  | x :: rows, 0 => by simp [rowAt]
  | x :: rows, p + 1 => by
    have := rowAt_tot rows p
    have e : rowAt (x :: rows) (p + 1) = rowAt rows p := rfl
    rw [e, List.flatten_cons, List.length_append]
    omega
theorem newer_le (t : TSt) : t.newer.1.flatten.length ≤ t.pairs.length := by
  unfold TSt.pairs
  split <;> simp
theorem elder_le {t : TSt} {el : Rows × Int} (he : t.elder = some el) : el.1.flatten.length ≤ t.pairs.length := by
  unfold TSt.pairs
  rw [he]
  simp
theorem spot_sp (t : TSt) (k : List Key) : (t.spot k).spots.length ≤ t.spots.length + 1 := putKD_len _ _ _
theorem fold_sp : ∀ (ps : List (Int × Int)) (t : TSt), (ps.foldl TSt.mvPair t).spots.length ≤ t.spots.length + ps.length
  | [], _ => Nat.le_refl _
  | p :: ps, t => by
    have a := fold_sp ps (t.mvPair p)
    have b : (t.mvPair p).spots.length ≤ t.spots.length + 1 := spot_sp _ _
    rw [List.foldl_cons, List.length_cons]
    omega
theorem mv1_sp (t : TSt) (el : Rows × Int) : (t.mv1 el).spots.length ≤ t.spots.length + 1 + (rowAt el.1 t.moved).length := by
  have a := fold_sp (rowAt el.1 t.moved) (t.mvS el)
  have b : (t.mvS el).spots.length ≤ t.spots.length + 1 := putKD_len _ _ _
  have c : (t.mv1 el).spots = ((rowAt el.1 t.moved).foldl TSt.mvPair (t.mvS el)).spots := rfl
  rw [c]
  omega
theorem turn_sp (t : TSt) : t.turn.spots.length ≤ t.spots.length + 1 + t.pairs.length := by
  unfold TSt.turn
  cases he : t.elder with
  | none => simp only; omega
  | some el =>
    have a := mv1_sp t el
    have b := rowAt_tot el.1 t.moved
    have c := elder_le he
    simp only
    split
    · simp only; omega
    · omega
theorem turn_pace (t : TSt) : t.turn.pace = t.pace ∧ t.turn.mx = t.mx := by
  unfold TSt.turn
  cases he : t.elder with
  | none => exact ⟨rfl, rfl⟩
  | some el =>
    have a := fold_mx (rowAt el.1 t.moved) (t.mvS el)
    simp only
    split
    · exact ⟨rfl, rfl⟩
    · exact ⟨a.2.1, a.1⟩
theorem TI.goN : ∀ (n : Nat) {t : TSt}, TI t → TI (TSt.goN n t) ∧ (∀ k, (TSt.goN n t).get k = t.get k) ∧ (TSt.goN n t).pace = t.pace ∧ (TSt.goN n t).mx = t.mx
  | 0, t, h => ⟨h, fun _ => rfl, rfl, rfl⟩
  | n + 1, t, h => by
    obtain ⟨a, b⟩ := h.turn
    obtain ⟨c, d, e, f⟩ := TI.goN n a
    obtain ⟨p, q⟩ := turn_pace t
    exact ⟨c, fun k => (d k).trans (b k), e.trans p, f.trans q⟩
theorem goN_sp : ∀ (n : Nat) {t : TSt}, TI t → (TSt.goN n t).spots.length ≤ t.spots.length + n * (1 + t.pairs.length)
  | 0, t, h => by simp [TSt.goN]
  | n + 1, t, h => by
    obtain ⟨a, b⟩ := h.turn
    have i := goN_sp n a
    have e := (h.perm a b).length_eq
    have s := turn_sp t
    rw [e] at i
    rw [TSt.goN, Nat.succ_mul]
    omega
/-- the table is within what the model's dicts take -/
structure Fit (t : TSt) : Prop where
  ti : TI t
  pc : t.pace ≤ 8
  ln : t.pairs.length ≤ 100000
def PP (i : Nat) (t : TSt) : Prop := TI t ∧ t.pairs.length ≤ 100000 ∧ i ≤ 8 ∧ t.spots.length + i * 100001 ≤ 900000
theorem pp_step (i : Nat) (t : TSt) (h : PP (i + 1) t) : t.fit ∧ PP i t.turn := by
  obtain ⟨h1, h2, h3, h4⟩ := h
  obtain ⟨a, b⟩ := h1.turn
  have e := (h1.perm a b).length_eq
  have s := turn_sp t
  refine ⟨⟨h1.mx, h1.nw.pos, fun el he => ⟨(h1.el el he).2.1, ?_, fun p => ?_⟩⟩, a, by omega, by omega, by rw [Nat.succ_mul] at h4; omega⟩
  · have := rowAt_tot el.1 t.moved
    have := elder_le he
    omega
  · have := rowAt_tot t.newer.1 p
    have := newer_le t
    have := rowAt_tot el.1 t.moved
    have := elder_le he
    omega
theorem TSt.fresh_pairs (t : TSt) : t.fresh.pairs = t.pairs := rfl
theorem home_pace (t : TSt) (k : Int) : (t.home k).pace = t.pace := by
  unfold TSt.home
  split
  · rfl
  · split <;> rfl
theorem ahead_ti {t : TSt} (h : TI t) (k : Int) : TI (t.ahead k) ∧ (∀ k', (t.ahead k).get k' = t.get k') ∧ (t.ahead k).pace = t.pace ∧ (t.ahead k).mx = t.mx := by
  obtain ⟨a, b, c, d⟩ := TI.goN t.pace h.fresh
  exact ⟨a.home k, fun k' => (home_get _ k k').trans (b k'), (home_pace _ k).trans c, (home_mx _ k).trans d⟩
theorem shelf_le (t : TSt) (k : Int) : (t.shelf k).1.flatten.length ≤ t.pairs.length := by
  unfold TSt.shelf
  split
  · cases he : t.elder with
    | none => exact newer_le t
    | some el => exact elder_le he
  · exact newer_le t
theorem Fit.rdy {t : TSt} (h : Fit t) (k : Int) : Rdy PP t k := by
  have hpc := h.pc
  have hln := h.ln
  obtain ⟨a, b, c, d⟩ := TI.goN t.pace h.ti.fresh
  obtain ⟨a2, b2, c2, d2⟩ := ahead_ti h.ti k
  have e2 := (h.ti.perm a2 b2).length_eq
  refine ⟨pp_step, ⟨h.ti.fresh, hln, h.pc, ?_⟩, by omega, ⟨a.mx, a.nw.pos, fun el he => (a.el el he).1.pos, ?_⟩, (shelf_ok a2 k).pos, fun p => ?_, a2.nw.sz⟩
  · have : t.fresh.spots.length = 0 := rfl
    omega
  · have s := goN_sp t.pace h.ti.fresh
    have z : t.fresh.spots.length = 0 := rfl
    have m : t.pace * (1 + t.fresh.pairs.length) ≤ 8 * 100001 := Nat.mul_le_mul hpc (by rw [TSt.fresh_pairs]; omega)
    omega
  · have := rowAt_tot ((t.ahead k).shelf k).1 p
    have := shelf_le (t.ahead k) k
    omega
/-- what a deed tells -/
theorem told_get {t : TSt} (h : TI t) (k : Int) : t.told k = t.get k := by
  obtain ⟨a, b, c, d⟩ := ahead_ti h k
  rw [← b k]
  unfold TSt.told TSt.shelf TSt.get
  cases he : (t.ahead k).elder with
  | none =>
    have : (t.ahead k).atE k = false := by unfold TSt.atE; rw [he]
    rw [this]
    rfl
  | some el =>
    have : (t.ahead k).atE k = (shLook (t.ahead k).mx el.1 k).isSome := by unfold TSt.atE; rw [he]
    rw [this]
    simp only
    split
    · rfl
    · rfl
theorem put1_pace (t : TSt) (k : Int) (r : Rows × Int) : (t.put1 k r).pace = t.pace ∧ (t.put1 k r).mx = t.mx := by
  unfold TSt.put1
  split <;> exact ⟨rfl, rfl⟩
theorem bgn_pace (t : TSt) : t.bgn.pace = t.pace ∧ t.bgn.mx = t.mx := by
  unfold TSt.bgn
  split <;> exact ⟨rfl, rfl⟩
theorem at_elder {t : TSt} (h : TI t) {k : Int} (ha : t.atE k = true) : shLook t.mx t.newer.1 k = none := by
  unfold TSt.atE at ha
  cases he : t.elder with
  | none => rw [he] at ha; cases ha
  | some el =>
    rw [he] at ha
    exact (h.el el he).2.2.2 k ha
theorem putD_ti {t : TSt} (h : TI t) (k v : Int) : TI (t.putD k v) ∧ (∀ k', (t.putD k v).get k' = if k' = k then some v else t.get k') ∧ (t.putD k v).pace = t.pace ∧ (t.putD k v).mx = t.mx := by
  obtain ⟨a, b, c, d⟩ := ahead_ti h k
  have D := deed_put (shelf_ok a k) k v
  have P := a.put1 D
  refine ⟨P.bgn, fun k' => ?_, (bgn_pace _).1.trans ((put1_pace _ _ _).1.trans c), (bgn_pace _).2.trans ((put1_pace _ _ _).2.trans d)⟩
  unfold TSt.putD
  rw [bgn_get, put1_get (o := some v) a D.l (fun k' => look_put (shelf_ok a k).pos) (fun _ => .inl rfl) k', b k']
theorem look_cutR {mx : Int × Int} {r : Rows × Int} {k k' : Int} (h : ShI mx r) : shLook mx (cutR mx r k).1 k' = if k' = k then none else shLook mx r.1 k' := by
  unfold cutR
  split
  · exact look_cut h.pos
  · rename_i c
    by_cases hk : k' = k
    · subst hk
      simp at c
      simp [c]
    · simp [hk]
theorem cutD_ti {t : TSt} (h : TI t) (k : Int) : TI (t.cutD k) ∧ (∀ k', (t.cutD k).get k' = if k' = k then none else t.get k') ∧ (t.cutD k).pace = t.pace ∧ (t.cutD k).mx = t.mx := by
  obtain ⟨a, b, c, d⟩ := ahead_ti h k
  have D := deed_cut (shelf_ok a k) k
  have P := a.put1 D
  refine ⟨P.bgn, fun k' => ?_, (bgn_pace _).1.trans ((put1_pace _ _ _).1.trans c), (bgn_pace _).2.trans ((put1_pace _ _ _).2.trans d)⟩
  unfold TSt.cutD
  rw [bgn_get, put1_get (o := none) a D.l (fun k' => look_cutR (shelf_ok a k)) (fun ha => .inr (at_elder a ha)) k', b k']
theorem put1_same (t : TSt) (k : Int) : t.put1 k (t.shelf k) = t := by
  unfold TSt.put1 TSt.shelf
  cases ha : t.atE k with
  | false => rfl
  | true =>
    cases he : t.elder with
    | none =>
      unfold TSt.atE at ha
      rw [he] at ha
      cases ha
    | some el =>
      simp only [if_true, Option.getD_some]
      rw [← he]
theorem lookD_ti {t : TSt} (h : TI t) (k : Int) : TI (t.lookD k) ∧ (∀ k', (t.lookD k).get k' = t.get k') ∧ (t.lookD k).pace = t.pace ∧ (t.lookD k).mx = t.mx := by
  obtain ⟨a, b, c, d⟩ := ahead_ti h k
  unfold TSt.lookD
  rw [put1_same]
  exact ⟨a.bgn, fun k' => (bgn_get k').trans (b k'), (bgn_pace _).1.trans c, (bgn_pace _).2.trans d⟩
/-! deeds -/
inductive Deed where
  | put (k v : Int) | look (k : Int) | cut (k : Int)
def dD : Deed → PyData
  | .put k v => .tuple [.str "put", .int k, .int v]
  | .look k => .tuple [.str "look", .int k]
  | .cut k => .tuple [.str "cut", .int k]
def Deed.key : Deed → Int
  | .put k _ => k
  | .look k => k
  | .cut k => k
def dOk (ks : List Int) : Deed → Prop
  | .put k v => k ∈ ks ∧ -1000000000 ≤ v ∧ v ≤ 1000000000
  | .look k => k ∈ ks
  | .cut k => k ∈ ks
def TSt.deed (t : TSt) : Deed → TSt
  | .put k v => t.putD k v
  | .look k => t.lookD k
  | .cut k => t.cutD k
/-- a plain dict's deed -/
def kStep (kn : List (Int × Int)) : Deed → List (Int × Int)
  | .put k v => putKD kn k v
  | .look _ => kn
  | .cut k => if (valD kn k).isSome then dropKD kn k else kn
/-- what a deed leaves at a key -/
def Deed.val (o : Option Int) (k' : Int) : Deed → Option Int
  | .put k v => if k' = k then some v else o
  | .look _ => o
  | .cut k => if k' = k then none else o
theorem deed_ti {t : TSt} (h : TI t) (d : Deed) : TI (t.deed d) ∧ (∀ k', (t.deed d).get k' = d.val (t.get k') k') ∧ (t.deed d).pace = t.pace ∧ (t.deed d).mx = t.mx := by
  cases d with
  | put k v => exact putD_ti h k v
  | look k => exact lookD_ti h k
  | cut k => exact cutD_ti h k
theorem kStep_val (kn : List (Int × Int)) (d : Deed) (k' : Int) : valD (kStep kn d) k' = d.val (valD kn k') k' := by
  cases d with
  | put k v => exact valD_put kn k v k'
  | look k => rfl
  | cut k =>
    unfold kStep Deed.val
    simp only
    split
    · exact valD_drop kn k k'
    · rename_i c
      by_cases hk : k' = k
      · subst hk
        simp at c
        simp [c]
      · simp [hk]
theorem kStep_nd {kn : List (Int × Int)} (h : (keysOf kn).Nodup) (d : Deed) : (keysOf (kStep kn d)).Nodup := by
  cases d with
  | put k v => exact nd_put h
  | look k => exact h
  | cut k =>
    unfold kStep
    simp only
    split
    · exact nd_drop h
    · exact h
theorem kStep_len {kn : List (Int × Int)} (h : (keysOf kn).Nodup) (d : Deed) : (kStep kn d).length ≤ kn.length + 1 := by
  cases d with
  | put k v => exact putKD_len ..
  | look k => exact Nat.le_succ _
  | cut k =>
    unfold kStep
    simp only
    split
    · rename_i c
      have := drop_len h c
      omega
    · omega
/-- a table and a plain dict with the same keys and worths -/
structure Twin (t : TSt) (kn : List (Int × Int)) : Prop where
  ti : TI t
  pc : t.pace ≤ 8
  nd : (keysOf kn).Nodup
  eq : ∀ k, t.get k = valD kn k
theorem Twin.len {t : TSt} {kn : List (Int × Int)} (h : Twin t kn) : t.pairs.length = kn.length := (h.ti.perm_known h.nd h.eq).length_eq
theorem Twin.count {t : TSt} {kn : List (Int × Int)} (h : Twin t kn) : t.count = kn.length := by
  rw [h.ti.count, h.len]
theorem Twin.fit {t : TSt} {kn : List (Int × Int)} (h : Twin t kn) (hl : kn.length ≤ 100000) : Fit t := ⟨h.ti, h.pc, by rw [h.len]; exact hl⟩
theorem Twin.deed {t : TSt} {kn : List (Int × Int)} (h : Twin t kn) (d : Deed) : Twin (t.deed d) (kStep kn d) := by
  obtain ⟨a, b, c, e⟩ := deed_ti h.ti d
  exact ⟨a, by rw [c]; exact h.pc, kStep_nd h.nd d, fun k => by rw [b, kStep_val, h.eq]⟩
theorem twin_new {mx : Int × Int} {pace : Nat} (hm : mxOk mx) (hp : pace ≤ 8) : Twin (newT mx pace) [] := ⟨TI.new hm, hp, List.nodup_nil, fun k => by
  show shLook mx (List.replicate 4 []) k = none
  unfold shLook
  rw [rowAt_rep]
  rfl⟩
/-! a table as data -/
def rowsD (rows : Rows) : PyData := .tuple (rows.map fun r => PyData.tuple (pairs r))
theorem range_rows {rows : Rows} : ((List.range rows.length).map fun i : Nat => PyData.tuple (pairs (rowAt rows i))) = rows.map fun r => PyData.tuple (pairs r) := by
  apply List.ext_getElem
  · simp
  · intro i h1 h2
    simp at h1 h2
    simp [rowAt, List.getD_eq_getElem?_getD, h2]
def stateD (t : TSt) : PyData := .tuple [match t.elder with
  | none => .none
  | some el => rowsD el.1, .int t.moved, rowsD t.newer.1]
def sizesD (t : TSt) : PyData := .tuple [match t.elder with
  | none => .none
  | some el => .int el.1.length, .int t.newer.1.length]
end
end TM
set_option Elab.async false
set_option linter.all false
set_option maxRecDepth 100000
set_option maxHeartbeats 4000000
namespace PS
open PySem L2 PyProof.Rows DM TM PG
noncomputable section
theorem point_loop {S : Store} : ∀ (items : List Val) (m p : Int) (x : Option Val), ∃ y z, loopG (nName 2) (gSeq (gAsg (eO uAdd (eO uMul (eC (.int 2)) (eVar 1)) (eO uMod (eVar 0) (eC (.int 2)))) (nName 1)) (gAsg (eO uDiv (eVar 0) (eC (.int 2))) (nName 0))) items [some (.pd (.int m)), some (.pd (.int p)), x] S =
    some (.nx [some (.pd (.int z)), some (.pd (.int (revA items.length m p))), y], S)
  | [], m, p, x => ⟨x, m, rfl⟩
  | d :: r, m, p, x => by
    obtain ⟨y, z, h⟩ := point_loop r (m / 2) (2 * p + m % 2) (some d)
    have c1 : CMul 2 p := .inl (by decide)
    refine ⟨y, z, ?_⟩
    rw [loopG_cons]
    simp [turnG, c1]
    exact h
theorem point_eq {S : Store} {m : Nat} : F_point_of [.pd (.int (m : Int))] S = some (.pd (.int (rev 16 m : Nat)), S) := by
  obtain ⟨y, z, h⟩ := point_loop (S := S) (rgI 0 16) m 0 none
  rw [F_point_of_e, fnF_e]
  unfold G_point_of
  have hl : (rgI 0 16).length = 16 := by simp [rgI]
  have e := revA_eq 16 m 0
  simp at e
  rw [hl, e] at h
  simp [startD, h, exitF_same]
theorem stretch_eq {S : Store} {m : Nat} {z : Int} (hz : 0 < z ∧ z < 1073741824) : F_stretch_of [.pd (.int m), .pd (.int z)] S = some (.pd (pr ((rev 16 m : Nat), (rev 16 m : Nat) + 65536 / z - 1)), S) := by
  have d : (z < 1073741824 ∨ z.natAbs.log2 < 9000) := .inl hz.2
  rw [F_stretch_of_e, fnF_e]
  unfold G_stretch_of
  simp [startD, point_eq, hz.1, d, uTup, exitF_same, pr]
end
end PS
set_option Elab.async false
set_option linter.all false
set_option maxRecDepth 100000
set_option maxHeartbeats 4000000
namespace GS
open PySem L2 PyProof.Rows DM PG
noncomputable section
def G_law_stream : DEnv → M Fl := (gSeq (gAsg (eO uMod (eVar 0) (eC (.int 536870909))) (nName 1))
    (gSeq (gAsg (eO uMod (eO uAdd (eO uMul (eO uMod (eO uMul (eVar 1) (eVar 1)) (eC (.int 536870909))) (eO uAdd (eVar 1) (eC (.int 7)))) (eC (.int 13))) (eC (.int 536870909))) (nName 1))
    (gRet (eA uLstM (aCons (eVar 0) (aCons (eVar 1) (aCons (eA uInt (aCons (eO (uLt fun i j => decide (j ≤ i)) (eVar 0) (eO uPow (eC (.int 10)) (eC (.int 18)))) aNil)) aNil)))))))
theorem F_law_stream_x : ∃ F, F = fnF 2 G_law_stream exitN := ⟨_, rfl⟩
def F_law_stream : List Val → M Val := Classical.choose F_law_stream_x
theorem F_law_stream_e : F_law_stream = fnF 2 G_law_stream exitN := Classical.choose_spec F_law_stream_x
def G_law_take : DEnv → M Fl := (gSeq (gIf (tVal (eO uEq (eO uIx (eVar 0) (eC (.int 2))) (eC (.int 1)))) (gSeq (gAsg (eO uMod (eO uIx (eVar 0) (eC (.int 0))) (eVar 1)) (nName 2))
    (gSeq (gAsg (eO uDiv (eO uIx (eVar 0) (eC (.int 0))) (eVar 1)) (nSub uSet (eVar 0) (eC (.int 0))))
    (gRet (eVar 2)))) gNext)
    (gSeq (gAsg (eO uMod (eO uMul (eO uAdd (eO uIx (eVar 0) (eC (.int 1))) (eC (.int 7919))) (eO uAdd (eO uIx (eVar 0) (eC (.int 1))) (eC (.int 104729)))) (eC (.int 536870909))) (nSub uSet (eVar 0) (eC (.int 1))))
    (gRet (eO uMod (eO uDiv (eO uAdd (eO uMul (eO uIx (eVar 0) (eC (.int 1))) (eC (.int 48271))) (eC (.int 11))) (eC (.int 64))) (eVar 1)))))
theorem F_law_take_x : ∃ F, F = fnF 3 G_law_take exitF := ⟨_, rfl⟩
def F_law_take : List Val → M Val := Classical.choose F_law_take_x
theorem F_law_take_e : F_law_take = fnF 3 G_law_take exitF := Classical.choose_spec F_law_take_x
def G_law_mixer : DEnv → M Fl := (gSeq (gAsg (eA uLstM (aCons (eA uTup (aCons (eC (.int 1)) (aCons (eC (.int 0)) aNil))) (aCons (eA uTup (aCons (eC (.int 0)) (aCons (eC (.int 0)) aNil))) (aCons (eA uTup (aCons (eC (.int 0)) (aCons (eC (.int 65535)) aNil))) (aCons (eA uTup (aCons (eC (.int 40503)) (aCons (eC (.int 7)) aNil))) (aCons (eA uTup (aCons (eC (.int 65535)) (aCons (eC (.int 1)) aNil))) (aCons (eA uTup (aCons (eC (.int 2)) (aCons (eC (.int 0)) aNil))) (aCons (eA uTup (aCons (eC (.int 4096)) (aCons (eC (.int 3)) aNil))) (aCons (eA uTup (aCons (eC (.int 32768)) (aCons (eC (.int 65535)) aNil))) aNil))))))))) (nName 1))
    (gSeq (gExpr (eBM "list" uAppend (eVar 1) (aCons (eA uTup (aCons (eCall F_law_take 2 (aCons (eVar 0) (aCons (eC (.int 65536)) aNil))) (aCons (eCall F_law_take 2 (aCons (eVar 0) (aCons (eC (.int 65536)) aNil))) aNil))) aNil)))
    (gRet (eO uIx (eVar 1) (eCall F_law_take 2 (aCons (eVar 0) (aCons (eC (.int 9)) aNil)))))))
theorem F_law_mixer_x : ∃ F, F = fnF 2 G_law_mixer exitF := ⟨_, rfl⟩
def F_law_mixer : List Val → M Val := Classical.choose F_law_mixer_x
theorem F_law_mixer_e : F_law_mixer = fnF 2 G_law_mixer exitF := Classical.choose_spec F_law_mixer_x
def G_law_key : DEnv → M Fl := (gSeq (gAsg (eA uLst (aCons (eCall F_law_take 2 (aCons (eVar 0) (aCons (eC (.int 6)) aNil))) (aCons (eCall F_law_take 2 (aCons (eVar 0) (aCons (eC (.int 40)) aNil))) (aCons (eO uMul (eC (.int 65536)) (eCall F_law_take 2 (aCons (eVar 0) (aCons (eC (.int 9)) aNil)))) (aCons (eCall F_law_take 2 (aCons (eVar 0) (aCons (eO uAdd (eO uPow (eC (.int 10)) (eC (.int 9))) (eC (.int 1))) aNil))) (aCons (eO uPow (eC (.int 10)) (eC (.int 9))) aNil)))))) (nName 1))
    (gRet (eO uIx (eVar 1) (eCall F_law_take 2 (aCons (eVar 0) (aCons (eC (.int 5)) aNil))))))
theorem F_law_key_x : ∃ F, F = fnF 2 G_law_key exitF := ⟨_, rfl⟩
def F_law_key : List Val → M Val := Classical.choose F_law_key_x
theorem F_law_key_e : F_law_key = fnF 2 G_law_key exitF := Classical.choose_spec F_law_key_x
def G_law_worth : DEnv → M Fl := (gRet (eO uIx (eA uLst (aCons (eC (.int 0)) (aCons (eU uNeg (eC (.int 1))) (aCons (eO uSub (eCall F_law_take 2 (aCons (eVar 0) (aCons (eO uAdd (eO uMul (eC (.int 2)) (eO uPow (eC (.int 10)) (eC (.int 9)))) (eC (.int 1))) aNil))) (eO uPow (eC (.int 10)) (eC (.int 9)))) (aCons (eO uPow (eC (.int 10)) (eC (.int 9))) (aCons (eCall F_law_take 2 (aCons (eVar 0) (aCons (eC (.int 5)) aNil))) aNil)))))) (eCall F_law_take 2 (aCons (eVar 0) (aCons (eC (.int 5)) aNil)))))
theorem F_law_worth_x : ∃ F, F = fnF 1 G_law_worth exitF := ⟨_, rfl⟩
def F_law_worth : List Val → M Val := Classical.choose F_law_worth_x
theorem F_law_worth_e : F_law_worth = fnF 1 G_law_worth exitF := Classical.choose_spec F_law_worth_x
def G_law_near_key : DEnv → M Fl := (gSeq (gIf (tAnd (tVal (eO uNe (eVar 1) (eA uLst aNil))) (tVal (eO uEq (eCall F_law_take 2 (aCons (eVar 0) (aCons (eC (.int 2)) aNil))) (eC (.int 0))))) (gRet (eO uIx (eVar 1) (eCall F_law_take 2 (aCons (eVar 0) (aCons (eA uLen (aCons (eVar 1) aNil)) aNil))))) gNext)
    (gRet (eCall F_law_key 1 (aCons (eVar 0) aNil))))
theorem F_law_near_key_x : ∃ F, F = fnF 2 G_law_near_key exitF := ⟨_, rfl⟩
def F_law_near_key : List Val → M Val := Classical.choose F_law_near_key_x
theorem F_law_near_key_e : F_law_near_key = fnF 2 G_law_near_key exitF := Classical.choose_spec F_law_near_key_x
end
end GS
set_option Elab.async false
set_option linter.all false
set_option maxRecDepth 100000
set_option maxHeartbeats 4000000
namespace PS
open PySem L2 PyProof.Rows DM TM PG
noncomputable section
theorem place_eq {S : Store} {m s : Int} (hs : 0 < s) : F_place_of [.pd (.int m), .pd (.int s)] S = some (.pd (.int (m % s)), S) := by
  rw [F_place_of_e, fnF_e]
  unfold G_place_of
  simp [startD, hs, exitF_same]
theorem mark_eq {S : Store} {k f m : Int} (hf : 0 ≤ f ∧ f ≤ 65535) : F_mark_of [.pd (.int k), .pd (pr (f, m))] S = some (.pd (.int ((k * f + m) % 65536)), S) := by
  have c1 : CMul k f := .inr (by omega)
  rw [F_mark_of_e, fnF_e]
  unfold G_mark_of pr
  simp [startD, c1, exitF_same]
theorem row_for_eq {mx : Int × Int} {rows : Rows} {cnt k : Int} (hm : mxOk mx) (hr : 0 < rows.length) : F_shelf_row_for [.obj 0, .pd (.int k)] (shT mx rows cnt) = some (.obj (2 + plc mx rows.length k), shT mx rows cnt) := by
  have e1 := fun S : Store => mark_eq (S := S) (k := k) (f := mx.1) (m := mx.2) hm
  have e2 := fun S : Store => place_eq (S := S) (m := (k * mx.1 + mx.2) % 65536) (s := rows.length) (by omega)
  have e3 := plc_cast (mx := mx) (k := k) hr
  rw [F_shelf_row_for_e, fnF_e]
  unfold G_shelf_row_for
  simp -implicitDefEqProofs [startD, sh_rows, sh_mixed, sh_len, e1, e2, e3, sh_ix (plc_lt hr), exitF_same]
theorem look_eq {mx : Int × Int} {rows : Rows} {cnt k : Int} (hm : mxOk mx) (hr : 0 < rows.length) : F_shelf_look [.obj 0, .pd (.int k)] (shT mx rows cnt) = some (.pd (optD (shLook mx rows k)), shT mx rows cnt) := by
  have er := sh_r (mx := mx) (cnt := cnt) (rowAt_get (plc_lt (mx := mx) (k := k) hr))
  have em := meth_ins (nz := nz0) (c := 0) (m := "row_for") (F := F_shelf_row_for) (n := 2) (ρ := [some (.obj 0), some (.pd (.int k))]) (fo := eVar 0) (fa := aCons (eVar 1) aNil) (S := shT mx rows cnt) (S1 := shT mx rows cnt) (h := 0) rfl sh_0 no_rf
  have eg := uGet1_K (k := k) er er
  rw [F_shelf_look_e, fnF_e]
  unfold G_shelf_look
  simp -implicitDefEqProofs [startD, em, row_for_eq hm hr, eg, kD_val, exitF_same]
  rw [← Option.map_map, optD_map]
  rfl
theorem put_eq {mx : Int × Int} {rows : Rows} {cnt k v : Int} (hm : mxOk mx) (hr : 0 < rows.length) (hs : (rowAt rows (plc mx rows.length k)).length < 16777216) :
    F_shelf_put [.obj 0, .pd (.int k), .pd (.int v)] (shT mx rows cnt) = some (.pd (optD (shLook mx rows k)), shT mx (shPut mx rows k v) (cnt + newC mx rows k)) := by
  have er := fun c => sh_r (mx := mx) (cnt := c) (rowAt_get (plc_lt (mx := mx) (k := k) hr))
  have em := meth_ins (nz := nz0) (c := 0) (m := "row_for") (F := F_shelf_row_for) (n := 2) (ρ := [some (.obj 0), some (.pd (.int k)), some (.pd (.int v)), none, none]) (fo := eVar 0) (fa := aCons (eVar 1) aNil) (S := shT mx rows cnt) (S1 := shT mx rows cnt) (h := 0) rfl sh_0 no_rf
  have eg := uGet1_K (k := k) (er cnt) (er cnt)
  have en := uDNotIn_K (k := k) (er cnt)
  have ep := fun c => uDPut_K (k := k) (y := .int v) (er c) (by simpa [kD] using hs)
  have e1 : (if (!((valD (kD (rowAt rows (plc mx rows.length k))) (Sum.inl k)).isSome)) = true then (1 : Int) else 0) = newC mx rows k := by
    rw [kD_val, Option.isSome_map]
    unfold newC shLook
    cases valD (rowAt rows (plc mx rows.length k)) k <;> rfl
  rw [F_shelf_put_e, fnF_e]
  unfold G_shelf_put
  simp -implicitDefEqProofs only [startD, em, row_for_eq hm hr, eg, en, ep, sh_count, sh_setc, gSeq_e, gAsg_e, eGet1_e, gAugF_e, gDPut_e, gRet_e, eVar_z, eVar_s, bindR_some, eO_e, eA_e, aCons_e, aNil_e, eU_e, uInt_bool, uAddI_e, nName_e, seqR_nx, seqR_rt, endR_rt, List.map_cons, List.map_nil, List.length_cons, List.length_nil, List.replicate, List.cons_append, List.nil_append, List.set_cons_succ, List.set_cons_zero, if_true, Nat.reduceAdd, Nat.reduceSub, e1]
  rw [kD_put, show ∀ r, (.dK (kD r) : Ob) = rowK r from fun _ => rfl, sh_set, kD_val, optD_map]
  exact exitF_same (by simp [shT, shPut])
theorem cut_eq {mx : Int × Int} {rows : Rows} {cnt k : Int} (hm : mxOk mx) (hr : 0 < rows.length) :
    F_shelf_cut [.obj 0, .pd (.int k)] (shT mx rows cnt) = some (.pd (optD (shLook mx rows k)), if (shLook mx rows k).isSome then shT mx (shCut mx rows k) (cnt - 1) else shT mx rows cnt) := by
  have er := fun c => sh_r (mx := mx) (cnt := c) (rowAt_get (plc_lt (mx := mx) (k := k) hr))
  have em := meth_ins (nz := nz0) (c := 0) (m := "row_for") (F := F_shelf_row_for) (n := 2) (ρ := [some (.obj 0), some (.pd (.int k)), none]) (fo := eVar 0) (fa := aCons (eVar 1) aNil) (S := shT mx rows cnt) (S1 := shT mx rows cnt) (h := 0) rfl sh_0 no_rf
  have en := uDNotIn_K (k := k) (er cnt)
  rw [kD_val, Option.isSome_map] at en
  rw [F_shelf_cut_e, fnF_e]
  unfold G_shelf_cut
  cases hv : shLook mx rows k with
  | none =>
    have hv' : valD (rowAt rows (plc mx rows.length k)) k = none := hv
    rw [hv'] at en
    simp -implicitDefEqProofs [startD, em, row_for_eq hm hr, en, optD, exitF_same]
  | some y =>
    have hv' : valD (rowAt rows (plc mx rows.length k)) k = some y := hv
    have ep := fun c => uPop1_K (k := k) (y := .int y) (er c) (er c) (by rw [kD_val, hv']; rfl)
    rw [hv'] at en
    simp -implicitDefEqProofs [startD, em, row_for_eq hm hr, en, ep, sh_count, sh_setc, optD]
    rw [kD_drop, show ∀ r, (.dK (kD r) : Ob) = rowK r from fun _ => rfl, sh_set]
    exact exitF_same (by simp [shT, shCut])
theorem whole_int {S : Store} {i : Int} : F_is_whole [.pd (.int i)] S = some (.pd (.bool true), S) := by
  rw [F_is_whole_e, fnF_e]
  unfold G_is_whole
  simp [startD, exitF_same]
theorem need_eq {mx : Int × Int} {rows : Rows} {cnt : Int} {p : Nat} (h : p < rows.length) : F_shelf_need_place [.obj 0, .pd (.int p)] (shT mx rows cnt) = some (.pd .none, shT mx rows cnt) := by
  rw [F_shelf_need_place_e, fnF_e]
  unfold G_shelf_need_place
  simp -implicitDefEqProofs [startD, whole_int, sh_rows, sh_len, h, exitF_same]
theorem row_eq {mx : Int × Int} {rows : Rows} {cnt : Int} {p : Nat} (h : p < rows.length) : F_shelf_row [.obj 0, .pd (.int p)] (shT mx rows cnt) = some (.pd (.list (pairs (rowAt rows p))), shT mx rows cnt) := by
  have er := sh_r (mx := mx) (cnt := cnt) (rowAt_get h)
  have em := meth_ins (nz := nz0) (c := 0) (m := "need_place") (F := F_shelf_need_place) (n := 2) (ρ := [some (.obj 0), some (.pd (.int p))]) (fo := eVar 0) (fa := aCons (eVar 1) aNil) (S := shT mx rows cnt) (S1 := shT mx rows cnt) (h := 0) rfl sh_0 no_np
  rw [F_shelf_row_e, fnF_e]
  unfold G_shelf_row
  simp -implicitDefEqProofs [startD, em, need_eq h, sh_rows, sh_ix h, uItems_K er, kD_items, exitF_same]
theorem init_eq {mx : Int × Int} {n : Nat} (hn : (n : Int) ∈ [(4 : Int), 8, 16, 32, 64, 128, 256, 512, 1024, 2048, 4096]) :
    F_shelf_init [.obj 0, .pd (.int n), .pd (pr mx)] [.ins 0 []] = some (.pd .none, shT mx (List.replicate n []) 0) := by
  have hn4 : n ≤ 4096 := by
    simp at hn
    omega
  have e1 : (decide ((n : Int) ∈ [(4 : Int), 8, 16, 32, 64, 128, 256, 512, 1024, 2048, 4096])) = true := decide_eq_true hn
  have fin : (Ob.ins 0 [("mixed", .pd (pr mx)), ("rows", .obj 1), ("count", .pd (.int 0))] :: lsR n :: List.replicate n (rowK []) : Store) = shT mx (List.replicate n []) 0 := by
    unfold shT lsR
    rw [List.length_replicate, List.map_replicate]
  rw [F_shelf_init_e, fnF_e]
  unfold G_shelf_init
  generalize hL : [(4 : Int), 8, 16, 32, 64, 128, 256, 512, 1024, 2048, 4096] = L at *
  simp -implicitDefEqProofs only [startD, whole_int, gSeq_e, gIf_e, tOr_e, tNot_e, tVal_e, eCall_e, aCons_e, aNil_e, eVar_z, eVar_s, bindR_some, toB_e, eU_e, uInC_e, e1, gSetF_e, ins_s1, dicts_eq hn4, ins_s2, ins_s3, seqR_nx, endR_nx, gNext_e, eC_e, List.map_cons, List.map_nil, List.length_cons, List.length_nil, List.replicate, List.cons_append, List.nil_append, if_true, Nat.reduceAdd, Nat.reduceSub, Bool.not_true, Bool.false_eq_true, if_false, exitA, fin]
theorem empty_eq {mx : Int × Int} {rows : Rows} {cnt : Int} {p : Nat} (hp : p < rows.length) :
    ∃ T', F_shelf_empty [.obj 0, .pd (.int p)] (shT mx rows cnt) = some (.pd (.list (pairs (rowAt rows p))), T') ∧ nrm nzS 0 T' = some (shT mx (rows.set p []) (cnt - (rowAt rows p).length)) := by
  refine ⟨_, ?_, nrm_empty hp⟩
  have em := meth_ins (nz := nz0) (c := 0) (m := "row") (F := F_shelf_row) (n := 2) (ρ := [some (.obj 0), some (.pd (.int p)), none]) (fo := eVar 0) (fa := aCons (eVar 1) aNil) (S := shT mx rows cnt) (S1 := shT mx rows cnt) (h := 0) rfl sh_0 no_row
  have hlen : (shT mx rows cnt).length = 2 + rows.length := by simp [shT]; omega
  have l1 : uFld 0 "rows" (.obj 0) (shT mx rows cnt ++ [.dK []]) = some (.obj 1, shT mx rows cnt ++ [.dK []]) := uFld_get (by rfl) fld_r
  have l2 : uSet (.obj 1) (.pd (.int p)) (.obj (2 + rows.length)) (shT mx rows cnt ++ [.dK []]) = some ((), (.ins 0 [("mixed", .pd (pr mx)), ("rows", .obj 1), ("count", .pd (.int cnt))] :: .lsv (((List.range rows.length).map fun i => Val.obj (2 + i)).set p (.obj (2 + rows.length))) :: rows.map rowK) ++ [.dK []]) := by
    have g : (shT mx rows cnt ++ [Ob.dK []])[1]? = some (.lsv ((List.range rows.length).map fun i => .obj (2 + i))) := rfl
    unfold uSet
    simp only [g, List.length_map, List.length_range]
    rw [ixN_pos (by omega) (by omega)]
    rfl
  have l3 : ∀ R : Store, uFld 0 "count" (.obj 0) (.ins 0 [("mixed", .pd (pr mx)), ("rows", .obj 1), ("count", .pd (.int cnt))] :: R) = some (.pd (.int cnt), .ins 0 [("mixed", .pd (pr mx)), ("rows", .obj 1), ("count", .pd (.int cnt))] :: R) := fun R => uFld_get (by rfl) fld_c
  have l4 : ∀ (R : Store) c2, uSetF 0 "count" (.obj 0) (.pd (.int c2)) (.ins 0 [("mixed", .pd (pr mx)), ("rows", .obj 1), ("count", .pd (.int cnt))] :: R) = some ((), .ins 0 [("mixed", .pd (pr mx)), ("rows", .obj 1), ("count", .pd (.int c2))] :: R) := fun R c2 => by
    rw [uSetF_get (by rfl) (by simp), put_c]
    rfl
  rw [F_shelf_empty_e, fnF_e]
  unfold G_shelf_empty
  have ln : (pairs (rowAt rows p)).length = (rowAt rows p).length := by simp [pairs]
  simp -implicitDefEqProofs only [startD, em, row_eq hp, hlen, l1, l2, l3, l4, ln, gSeq_e, gAsg_e, gAugF_e, gRet_e, nSub_e, eVar_z, eVar_s, bindR_some, eO_e, eA_e, aCons_e, aNil_e, eU_e, eDict0_e, uLen_list, uSub_int, nName_e, seqR_nx, seqR_rt, endR_rt, List.map_cons, List.map_nil, List.length_cons, List.length_nil, List.replicate, List.cons_append, List.nil_append, List.set_cons_succ, List.set_cons_zero, if_true, Nat.reduceAdd, Nat.reduceSub, exitA]
theorem size_eq {mx : Int × Int} {rows : Rows} {cnt : Int} : F_shelf_size [.obj 0] (shT mx rows cnt) = some (.pd (.int rows.length), shT mx rows cnt) := by
  rw [F_shelf_size_e, fnF_e]
  unfold G_shelf_size
  simp -implicitDefEqProofs [startD, sh_rows, sh_len, exitF_same]
theorem many_eq {mx : Int × Int} {rows : Rows} {cnt : Int} : F_shelf_many [.obj 0] (shT mx rows cnt) = some (.pd (.int cnt), shT mx rows cnt) := by
  rw [F_shelf_many_e, fnF_e]
  unfold G_shelf_many
  simp -implicitDefEqProofs [startD, sh_count, exitF_same]
theorem place_on_eq {S : Store} {mx : Int × Int} {pace moved n s h : Nat} {e : Val} {r : Rows × Int} {k : Int} (h0 : S[0]? = some (.ins 1 (fsT mx pace e moved n s))) (hh : S[h]? = some (boxS mx r)) (hm : mxOk mx) (hr : 0 < r.1.length) :
    F_table_place_on [.obj 0, .obj h, .pd (.int k)] S = some (.pd (.int (plc mx r.1.length k)), S) := by
  have e1 := fun S : Store => mark_eq (S := S) (k := k) (f := mx.1) (m := mx.2) hm
  have e2 := fun S : Store => place_eq (S := S) (m := (k * mx.1 + mx.2) % 65536) (s := r.1.length) (by omega)
  have e3 := plc_cast (mx := mx) (k := k) hr
  have f1 : uFld 1 "mixer" (.obj 0) S = some (.pd (pr mx), S) := uFld_get h0 tl.1
  have m1 := meth_sh (nz := nz0) (F := F_shelf_size) (n := 1) (m := "size") (ρ := [some (.obj 0), some (.obj h), some (.pd (.int k))]) (fo := eVar 1) (fa := aNil) (S := S) (S1 := S) (ys := []) (r2 := r) rfl hh no_size rfl rfl size_eq nrm_nz0
  rw [set_same hh] at m1
  rw [F_table_place_on_e, fnF_e]
  unfold G_table_place_on
  simp -implicitDefEqProofs [startD, f1, m1, e1, e2, e3, exitF_same]
theorem home_eq {S : Store} {e : Option Nat} {n s : Nat} {t : TSt} {k : Int} (T : TS S e n s t) (ok : TOk t) :
    ∃ S', F_table_home_of [.obj 0, .pd (.int k)] S = some (.obj (if t.atE k then e.getD 0 else n), S') ∧ TS S' e n s (t.home k) := by
  obtain ⟨n0, s0, ns⟩ := T.ne0
  have T1 := T.spot (sN (plc t.mx t.newer.1.length k))
  have fn : uFld 1 "newer" (.obj 0) S = some (.obj n, S) := uFld_get T.h0 tl.2.2.2.2.1
  have fs : uFld 1 "spots" (.obj 0) S = some (.obj s, S) := uFld_get T.h0 tl.2.2.2.2.2
  have p1 := place_on_eq (k := k) T.h0 T.hn ok.mx ok.nw
  have m1 := meth_ins (nz := nz0) (c := 1) (m := "place_on") (F := F_table_place_on) (n := 3) (ρ := [some (.obj 0), some (.pd (.int k)), none]) (fo := eVar 0) (fa := aCons (eFld 1 "newer" (eVar 0)) (aCons (eVar 1) aNil)) (S := S) (S1 := S) (h := 0) rfl T.h0 no_po.1
  have d1 := uDPut_T (z := "newer") (p := plc t.mx t.newer.1.length k) (y := .bool true) T.hs (by have := ok.sp; omega)
  generalize hS1 : S.set s (.dT (putKD t.spots [Sum.inr "newer", Sum.inl (plc t.mx t.newer.1.length k : Int)] (.bool true))) = S1 at d1
  have T1 : TS S1 e n s (t.spot (sN (plc t.mx t.newer.1.length k))) := by rw [← hS1]; exact T1
  have fe : uFld 1 "elder" (.obj 0) S1 = some (eV e, S1) := uFld_get T1.h0 tl.2.2.1
  have fn1 : uFld 1 "newer" (.obj 0) S1 = some (.obj n, S1) := uFld_get T1.h0 tl.2.2.2.2.1
  rw [F_table_home_of_e, fnF_e]
  unfold G_table_home_of
  rcases T.he with ⟨rfl, he⟩ | ⟨h, el, rfl, he, hh, hne⟩
  · refine ⟨S1, ?_, by unfold TSt.home; rw [he]; exact T1⟩
    have a1 : t.atE k = false := by unfold TSt.atE; rw [he]
    have fe' : uFld 1 "elder" (.obj 0) S1 = some (.pd .none, S1) := fe
    simp -implicitDefEqProofs [startD, fs, m1, fn, p1, uTup, d1, fe', fn1, a1, exitA]
  · have fe' : uFld 1 "elder" (.obj 0) S1 = some (.obj h, S1) := fe
    have hh1 : S1[h]? = some (boxS t.mx el) := by
      rcases T1.he with ⟨z, _⟩ | ⟨h', el', z1, z2, z3, _⟩
      · cases z
      · cases z1
        have z2' : t.elder = some el' := z2
        rw [he] at z2'
        cases z2'
        exact z3
    have oe := ok.el el he
    have p2 : F_table_place_on [.obj 0, .obj h, .pd (.int k)] S1 = some (.pd (.int (plc t.mx el.1.length k)), S1) := place_on_eq (k := k) T1.h0 hh1 ok.mx oe
    have m2 := meth_ins (nz := nz0) (c := 1) (m := "place_on") (F := F_table_place_on) (n := 3) (ρ := [some (.obj 0), some (.pd (.int k)), none]) (fo := eVar 0) (fa := aCons (eFld 1 "elder" (eVar 0)) (aCons (eVar 1) aNil)) (S := S1) (S1 := S1) (h := 0) rfl T1.h0 no_po.1
    have fm : uFld 1 "moved" (.obj 0) S1 = some (.pd (.int t.moved), S1) := uFld_get T1.h0 tl.2.2.2.1
    have fs1 : uFld 1 "spots" (.obj 0) S1 = some (.obj s, S1) := uFld_get T1.h0 tl.2.2.2.2.2
    have lk : ∀ S2 : Store, S2[h]? = some (boxS t.mx el) → uFld 1 "elder" (.obj 0) S2 = some (.obj h, S2) → eMethB nz0 0 "look" F_shelf_look 2 (eFld 1 "elder" (eVar 0)) (aCons (eVar 1) aNil) [some (.obj 0), some (.pd (.int k)), some (.pd (.int (plc t.mx el.1.length k)))] S2 = some (.pd (optD (shLook t.mx el.1 k)), S2) := fun S2 g2 f2 => by
      have := meth_sh (nz := nz0) (F := F_shelf_look) (n := 2) (m := "look") (ρ := [some (.obj 0), some (.pd (.int k)), some (.pd (.int (plc t.mx el.1.length k)))]) (fo := eFld 1 "elder" (eVar 0)) (fa := aCons (eVar 1) aNil) (S := S2) (S1 := S2) (ys := [.int k]) (r2 := el) (by simp [f2]) g2 no_look rfl rfl (look_eq ok.mx oe) nrm_nz0
      rw [set_same g2] at this
      exact this
    have aE : t.atE k = (shLook t.mx el.1 k).isSome := by unfold TSt.atE; rw [he]
    have nO : ∀ o : Option Int, isNon (.pd (optD o)) = !o.isSome := fun o => by cases o <;> rfl
    by_cases hc : t.moved ≤ plc t.mx el.1.length k
    · have hc' : (t.moved : Int) ≤ (plc t.mx el.1.length k : Nat) := by omega
      have d2 := uDPut_T (z := "elder") (p := plc t.mx el.1.length k) (y := .bool true) T1.hs (by
        have := ok.sp
        have h2 := putKD_len t.spots (sN (plc t.mx t.newer.1.length k)) (.bool true : PyData)
        show (putKD t.spots (sN (plc t.mx t.newer.1.length k)) (.bool true)).length < _
        omega)
      have T2 := T1.spot (sE (plc t.mx el.1.length k))
      generalize hS2 : S1.set s (.dT (putKD (t.spot (sN (plc t.mx t.newer.1.length k))).spots [Sum.inr "elder", Sum.inl (plc t.mx el.1.length k : Int)] (.bool true))) = S2 at d2
      have T2 : TS S2 (some h) n s ((t.spot (sN (plc t.mx t.newer.1.length k))).spot (sE (plc t.mx el.1.length k))) := by rw [← hS2]; exact T2
      have fe2 : uFld 1 "elder" (.obj 0) S2 = some (.obj h, S2) := uFld_get T2.h0 tl.2.2.1
      have fn2 : uFld 1 "newer" (.obj 0) S2 = some (.obj n, S2) := uFld_get T2.h0 tl.2.2.2.2.1
      have hh2 : S2[h]? = some (boxS t.mx el) := by
        rcases T2.he with ⟨z, _⟩ | ⟨h', el', z1, z2, z3, _⟩
        · cases z
        · cases z1
          have z2' : t.elder = some el' := z2
          rw [he] at z2'
          cases z2'
          exact z3
      refine ⟨S2, ?_, by unfold TSt.home; rw [he]; simp only [hc, if_true]; exact T2⟩
      cases hb : (shLook t.mx el.1 k).isSome <;> simp -implicitDefEqProofs [startD, fs, m1, fn, p1, uTup, d1, fe', m2, p2, fm, hc', fs1, d2, lk S2 hh2 fe2, nO, fe2, fn2, aE, hb, exitA]
    · have hc' : ¬ (t.moved : Int) ≤ (plc t.mx el.1.length k : Nat) := by omega
      refine ⟨S1, ?_, by unfold TSt.home; rw [he]; simp only [hc, if_false]; exact T1⟩
      cases hb : (shLook t.mx el.1 k).isSome <;> simp -implicitDefEqProofs [startD, fs, m1, fn, p1, uTup, d1, fe', m2, p2, fm, hc', fs1, lk S1 hh1 fe', nO, fn1, aE, hb, exitA]
theorem mv_loop {h n s : Nat} : ∀ (ps : List (Int × Int)) (S : Store) (t : TSt) (x y : Option Val), TS S (some h) n s t → mxOk t.mx → 0 < t.newer.1.length → t.spots.length + ps.length < 16000000 → roomy t.newer.1 ps.length →
    ∃ x' y' S', loopG (nTup 2 (nsCons (nName 1) (nsCons (nName 2) nsNil))) B1_table_move_one ((pairs ps).map Val.pd) [some (.obj 0), x, y] S = some (.nx [some (.obj 0), x', y'], S') ∧ TS S' (some h) n s (ps.foldl TSt.mvPair t)
  | [], S, t, x, y, T, _, _, _, _ => ⟨x, y, S, rfl, T⟩
  | p :: ps, S, t, x, y, T, hm, hr, hl, rm => by
    simp only [List.length_cons] at hl rm
    have T1 := T.setN (shPut t.mx t.newer.1 p.1 p.2, t.newer.2 + newC t.mx t.newer.1 p.1)
    have T2 := T1.spot (sN (plc t.mx t.newer.1.length p.1))
    have rp := rm (plc t.mx t.newer.1.length p.1)
    have hl2 : (t.mvPair p).spots.length + ps.length < 16000000 := by
      have h2 := putKD_len t.spots (sN (plc t.mx t.newer.1.length p.1)) (.bool true : PyData)
      show (putKD t.spots (sN (plc t.mx t.newer.1.length p.1)) (.bool true)).length + ps.length < _
      omega
    obtain ⟨x', y', S', e, T'⟩ := mv_loop ps _ (t.mvPair p) (some (.pd (.int p.1))) (some (.pd (.int p.2))) T2 hm (by show 0 < (shPut t.mx t.newer.1 p.1 p.2).length; rw [shPut_len]; exact hr) hl2 (roomy_put rm)
    refine ⟨x', y', S', ?_, T'⟩
    have fn : uFld 1 "newer" (.obj 0) S = some (.obj n, S) := uFld_get T.h0 tl.2.2.2.2.1
    have mp := meth_sh (nz := nz0) (F := F_shelf_put) (n := 3) (m := "put") (ρ := [some (.obj 0), some (.pd (.int p.1)), some (.pd (.int p.2))]) (fo := eFld 1 "newer" (eVar 0)) (fa := aCons (eVar 1) (aCons (eVar 2) aNil)) (S := S) (S1 := S) (ys := [.int p.1, .int p.2]) (r2 := (shPut t.mx t.newer.1 p.1 p.2, t.newer.2 + newC t.mx t.newer.1 p.1)) (by simp [fn]) T.hn no_put rfl rfl (put_eq hm hr (by omega)) nrm_nz0
    generalize hS1 : S.set n (boxS t.mx (shPut t.mx t.newer.1 p.1 p.2, t.newer.2 + newC t.mx t.newer.1 p.1)) = S1 at *
    have fn1 : uFld 1 "newer" (.obj 0) S1 = some (.obj n, S1) := uFld_get T1.h0 tl.2.2.2.2.1
    have fs1 : uFld 1 "spots" (.obj 0) S1 = some (.obj s, S1) := uFld_get T1.h0 tl.2.2.2.2.2
    have p1 : F_table_place_on [.obj 0, .obj n, .pd (.int p.1)] S1 = some (.pd (.int (plc t.mx t.newer.1.length p.1)), S1) := by
      have := place_on_eq (k := p.1) T1.h0 T1.hn hm (by show 0 < (shPut t.mx t.newer.1 p.1 p.2).length; rw [shPut_len]; exact hr)
      rw [show (({ t with newer := (shPut t.mx t.newer.1 p.1 p.2, t.newer.2 + newC t.mx t.newer.1 p.1) } : TSt).newer.1).length = t.newer.1.length from shPut_len] at this
      exact this
    have m1 := meth_ins (nz := nz0) (c := 1) (m := "place_on") (F := F_table_place_on) (n := 3) (ρ := [some (.obj 0), some (.pd (.int p.1)), some (.pd (.int p.2))]) (fo := eVar 0) (fa := aCons (eFld 1 "newer" (eVar 0)) (aCons (eVar 1) aNil)) (S := S1) (S1 := S1) (h := 0) rfl T1.h0 no_po.1
    have d1 := uDPut_T (z := "newer") (p := plc t.mx t.newer.1.length p.1) (y := .bool true) T1.hs (by show t.spots.length < _; omega)
    have e' : loopG (nTup 2 (nsCons (nName 1) (nsCons (nName 2) nsNil))) B1_table_move_one ((pairs ps).map Val.pd) [some (.obj 0), some (.pd (.int p.1)), some (.pd (.int p.2))] (S1.set s (.dT (putKD t.spots [Sum.inr "newer", Sum.inl (plc t.mx t.newer.1.length p.1 : Int)] (.bool true)))) = some (.nx [some (.obj 0), x', y'], S') := e
    have et : turnG (nTup 2 (nsCons (nName 1) (nsCons (nName 2) nsNil))) B1_table_move_one (.pd (pr p)) [some (.obj 0), x, y] S = some (.nx [some (.obj 0), some (.pd (.int p.1)), some (.pd (.int p.2))], S1.set s (.dT (putKD t.spots [Sum.inr "newer", Sum.inl (plc t.mx t.newer.1.length p.1 : Int)] (.bool true)))) := by
      unfold turnG B1_table_move_one pr
      simp -implicitDefEqProofs [mp, fn1, fs1, m1, p1, uTup, d1]
    show loopG _ _ (.pd (pr p) :: (pairs ps).map Val.pd) _ _ = _
    rw [loopG_cons, et]
    exact e'
theorem move_one_eq {S : Store} {h n s : Nat} {t : TSt} {el : Rows × Int} (T : TS S (some h) n s t) (he : t.elder = some el) (hm : mxOk t.mx) (hr : 0 < t.newer.1.length) (hp : t.moved < el.1.length) (hl : t.spots.length + (rowAt el.1 t.moved).length < 15999999) (rm : roomy t.newer.1 (rowAt el.1 t.moved).length) :
    ∃ S', F_table_move_one [.obj 0] S = some (.pd .none, S') ∧ TS S' (some h) n s (t.mv1 el) := by
  have fs : uFld 1 "spots" (.obj 0) S = some (.obj s, S) := uFld_get T.h0 tl.2.2.2.2.2
  have fm : uFld 1 "moved" (.obj 0) S = some (.pd (.int t.moved), S) := uFld_get T.h0 tl.2.2.2.1
  have d1 := uDPut_T (z := "elder") (p := t.moved) (y := .bool true) T.hs (by omega)
  have T1 := T.spot (sE t.moved)
  generalize hS1 : S.set s (.dT (putKD t.spots [Sum.inr "elder", Sum.inl (t.moved : Int)] (.bool true))) = S1 at d1
  have T1 : TS S1 (some h) n s (t.spot (sE t.moved)) := by rw [← hS1]; exact T1
  have fe1 : uFld 1 "elder" (.obj 0) S1 = some (.obj h, S1) := uFld_get T1.h0 tl.2.2.1
  have fm1 : uFld 1 "moved" (.obj 0) S1 = some (.pd (.int t.moved), S1) := uFld_get T1.h0 tl.2.2.2.1
  obtain ⟨g1, g2, T2⟩ := T1.setE (el := el) he (elE el t.moved)
  have T2 : TS (S1.set h (boxS t.mx (elE el t.moved))) (some h) n s (t.mvS el) := T2
  have g1 : S1[h]? = some (boxS t.mx el) := g1
  obtain ⟨T', ee, ez⟩ := empty_eq (mx := t.mx) (rows := el.1) (cnt := el.2) hp
  have me := meth_sh (nz := nzS) (F := F_shelf_empty) (n := 2) (m := "empty") (ρ := [some (.obj 0), none, none]) (fo := eFld 1 "elder" (eVar 0)) (fa := aCons (eFld 1 "moved" (eVar 0)) aNil) (S := S1) (S1 := S1) (ys := [.int t.moved]) (r2 := elE el t.moved) (by simp [fe1]) g1 no_empty (by simp [fm1]) rfl ee ez
  have hl2 : (t.mvS el).spots.length + (rowAt el.1 t.moved).length < 16000000 := by
    have h2 := putKD_len t.spots (sE t.moved) (.bool true : PyData)
    show (putKD t.spots (sE t.moved) (.bool true)).length + _ < _
    omega
  obtain ⟨x', y', S3, e3, T3⟩ := mv_loop (rowAt el.1 t.moved) _ _ none none T2 hm hr hl2 rm
  have T3 : TS S3 (some h) n s (t.mvF el) := T3
  have q4 : (t.mvF el).moved = t.moved := (fold_mx (rowAt el.1 t.moved) (t.mvS el)).2.2.2.1
  unfold TSt.mv1
  generalize t.mvF el = tf at *
  obtain ⟨sm, T4⟩ := T3.setM (t.moved + 1)
  have fm3 : uFld 1 "moved" (.obj 0) S3 = some (.pd (.int t.moved), S3) := by
    have := uFld_get T3.h0 tl.2.2.2.1
    rw [q4] at this
    exact this
  refine ⟨_, ?_, T4⟩
  have ei : ((t.moved + 1 : Nat) : Int) = t.moved + 1 := by omega
  rw [ei] at sm
  rw [F_table_move_one_e, fnF_e]
  unfold G_table_move_one
  have e3' : loopG (nTup 2 (nsCons (nName 1) (nsCons (nName 2) nsNil))) B1_table_move_one ((pairs (rowAt el.1 t.moved)).map Val.pd) [some (.obj 0), none, none] (S1.set h (boxS t.mx (elE el t.moved))) = some (.nx [some (.obj 0), x', y'], S3) := e3
  simp -implicitDefEqProofs [startD, fs, fm, uTup, d1, me, e3', fm3, sm, exitA]
theorem turn_eq {S : Store} {e : Option Nat} {n s : Nat} {t : TSt} {d : Val} {x : Option Val} (T : TS S e n s t) (hm : mxOk t.mx) (hr : 0 < t.newer.1.length) (hp : ∀ el, t.elder = some el → t.moved < el.1.length ∧ t.spots.length + (rowAt el.1 t.moved).length < 15999999 ∧ roomy t.newer.1 (rowAt el.1 t.moved).length) :
    ∃ S' e', turnG (nName 1) B1_table_go_on d [some (.obj 0), x] S = some (.nx [some (.obj 0), some d], S') ∧ TS S' e' n s t.turn := by
  have fe : uFld 1 "elder" (.obj 0) S = some (eV e, S) := uFld_get T.h0 tl.2.2.1
  rcases T.he with ⟨rfl, he⟩ | ⟨h, el, rfl, he, hh, hne⟩
  · refine ⟨S, none, ?_, by unfold TSt.turn; rw [he]; exact T⟩
    have fe' : uFld 1 "elder" (.obj 0) S = some (.pd .none, S) := fe
    unfold turnG B1_table_go_on
    simp -implicitDefEqProofs [fe']
  · obtain ⟨h1, h2, h3⟩ := hp el he
    have fe' : uFld 1 "elder" (.obj 0) S = some (.obj h, S) := fe
    obtain ⟨S1, e1, T1⟩ := move_one_eq T he hm hr h1 h2 h3
    have m1 := meth_ins (nz := nz0) (c := 1) (m := "move_one") (F := F_table_move_one) (n := 1) (ρ := [some (.obj 0), some d]) (fo := eVar 0) (fa := aNil) (S := S) (S1 := S) (h := 0) rfl T.h0 no_po.2.1
    have fe1 : uFld 1 "elder" (.obj 0) S1 = some (.obj h, S1) := uFld_get T1.h0 tl.2.2.1
    have fm1 : uFld 1 "moved" (.obj 0) S1 = some (.pd (.int (t.moved + 1 : Nat)), S1) := uFld_get T1.h0 tl.2.2.2.1
    have he1 : (t.mv1 el).elder = some (elE el t.moved) := (fold_mx (rowAt el.1 t.moved) (t.mvS el)).2.2.1
    have hmx : (t.mv1 el).mx = t.mx := (fold_mx (rowAt el.1 t.moved) (t.mvS el)).1
    have hpc : (t.mv1 el).pace = t.pace := (fold_mx (rowAt el.1 t.moved) (t.mvS el)).2.1
    have gh : S1[h]? = some (boxS t.mx (elE el t.moved)) := by
      rcases T1.he with ⟨z, _⟩ | ⟨h', el', z1, z2, z3, _⟩
      · cases z
      · cases z1
        rw [he1] at z2
        cases z2
        rw [hmx] at z3
        exact z3
    have hlen : (elE el t.moved).1.length = el.1.length := by simp [elE]
    have ms := meth_sh (nz := nz0) (F := F_shelf_size) (n := 1) (m := "size") (ρ := [some (.obj 0), some d]) (fo := eFld 1 "elder" (eVar 0)) (fa := aNil) (S := S1) (S1 := S1) (ys := []) (r2 := elE el t.moved) (by simp [fe1]) gh no_size rfl rfl size_eq nrm_nz0
    rw [set_same gh, hlen] at ms
    by_cases hc : t.moved + 1 = el.1.length
    · obtain ⟨d1, d2, T2⟩ := T1.drop
      rw [hmx, hpc] at d1 d2 T2
      refine ⟨_, none, ?_, by unfold TSt.turn; rw [he]; simp only [hc, if_true]; exact T2⟩
      have hc' : ((t.moved : Int) + 1) = el.1.length := by omega
      unfold turnG B1_table_go_on
      simp -implicitDefEqProofs [fe', m1, e1, fm1, ms, hc', d1, d2]
    · refine ⟨S1, some h, ?_, by unfold TSt.turn; rw [he]; simp only [hc, if_false]; exact T1⟩
      have hc' : ¬ ((t.moved : Int) + 1) = el.1.length := by omega
      unfold turnG B1_table_go_on
      simp -implicitDefEqProofs [fe', m1, e1, fm1, ms, hc']
/-- how begin ends -/
theorem begin_end {S : Store} {e : Option Nat} {n s : Nat} {t : TSt} {f : Nat} {ρ0 : Option Val} (T : TS S e n s t) (hf : (f : Int) ∈ SZ) :
    ∃ S' e' n', gIf (tAnd (tVal (eO uIs (eFld 1 "elder" (eVar 0)) (eC .none))) (tVal (eO uIsNot (eVar 2) (eC .none)))) (gSeq (gSetF 1 "elder" (eVar 0) (eFld 1 "newer" (eVar 0)))
    (gSetF 1 "newer" (eVar 0) (eMakeB nz0 0 F_shelf_init 3 (aCons (eVar 2) (aCons (eFld 1 "mixer" (eVar 0)) aNil))))) gNext [some (.obj 0), ρ0, some (.pd (.int f))] S = some (.nx [some (.obj 0), ρ0, some (.pd (.int f))], S') ∧ TS S' e' n' s (match t.elder with
      | none => ⟨t.mx, t.pace, some t.newer, t.moved, (List.replicate f [], 0), t.spots⟩
      | some _ => t) := by
  obtain ⟨n0, s0, ns⟩ := T.ne0
  have fe : uFld 1 "elder" (.obj 0) S = some (eV e, S) := uFld_get T.h0 tl.2.2.1
  have fn : uFld 1 "newer" (.obj 0) S = some (.obj n, S) := uFld_get T.h0 tl.2.2.2.2.1
  rcases T.he with ⟨rfl, he⟩ | ⟨h, el, rfl, he, hh, hne⟩
  · have fe' : uFld 1 "elder" (.obj 0) S = some (.pd .none, S) := fe
    have s1 := uSetF_get (f := "elder") (d := .obj n) T.h0 (by simp [fsT])
    rw [tp_e] at s1
    have l0 := lt_of_get T.h0
    generalize hS1 : S.set 0 (.ins 1 (fsT t.mx t.pace (.obj n) t.moved n s)) = S1 at s1
    have g0 : S1[0]? = some (.ins 1 (fsT t.mx t.pace (.obj n) t.moved n s)) := by rw [← hS1]; exact List.getElem?_set_self l0
    have gn : S1[n]? = some (boxS t.mx t.newer) := by rw [← hS1, List.getElem?_set_ne (Ne.symm n0)]; exact T.hn
    have gs : S1[s]? = some (.dT t.spots) := by rw [← hS1, List.getElem?_set_ne (Ne.symm s0)]; exact T.hs
    have fm : uFld 1 "mixer" (.obj 0) S1 = some (.pd (pr t.mx), S1) := uFld_get g0 tl.1
    have mk := makeB_eq (nz := nz0) (c := 0) (F := F_shelf_init) (n := 3) (ρ := [some (.obj 0), ρ0, some (.pd (.int f))]) (fa := aCons (eVar 2) (aCons (eFld 1 "mixer" (eVar 0)) aNil)) (S := S1) (S1 := S1) (ys := [.int f, pr t.mx]) (by simp [fm]) rfl (init_eq (mx := t.mx) (n := f) hf) nrm_nz0
    have g0' : (S1 ++ [mkBox (shT t.mx (List.replicate f []) 0)])[0]? = some (.ins 1 (fsT t.mx t.pace (.obj n) t.moved n s)) := by rw [List.getElem?_append_left (lt_of_get g0)]; exact g0
    have s2 := uSetF_get (f := "newer") (d := .obj S1.length) g0' (by simp [fsT])
    rw [tp_n] at s2
    refine ⟨(S1 ++ [mkBox (shT t.mx (List.replicate f []) 0)]).set 0 (.ins 1 (fsT t.mx t.pace (.obj n) t.moved S1.length s)), some n, S1.length, ?_, ?_⟩
    · simp -implicitDefEqProofs [fe', fn, s1, mk, s2]
    · rw [he]
      have ln : n < S1.length := lt_of_get gn
      have ls : s < S1.length := lt_of_get gs
      have l1 : (0 : Nat) < S1.length := lt_of_get g0
      refine ⟨List.getElem?_set_self (lt_of_get g0'), ?_, ?_, .inr ⟨n, t.newer, rfl, rfl, ?_, by omega⟩⟩
      · rw [List.getElem?_set_ne (by omega)]
        exact get_app rfl
      · rw [List.getElem?_set_ne (Ne.symm s0), List.getElem?_append_left ls]
        exact gs
      · rw [List.getElem?_set_ne (Ne.symm n0), List.getElem?_append_left ln]
        exact gn
  · have fe' : uFld 1 "elder" (.obj 0) S = some (.obj h, S) := fe
    refine ⟨S, some h, n, ?_, by rw [he]; exact T⟩
    simp -implicitDefEqProofs [fe']
theorem begin_eq {S : Store} {e : Option Nat} {n s : Nat} {t : TSt} (T : TS S e n s t) (hz : (t.newer.1.length : Int) ∈ SZ) : ∃ S' e' n', F_table_begin [.obj 0] S = some (.pd .none, S') ∧ TS S' e' n' s t.bgn := by
  have fn : uFld 1 "newer" (.obj 0) S = some (.obj n, S) := uFld_get T.h0 tl.2.2.2.2.1
  have fe : uFld 1 "elder" (.obj 0) S = some (eV e, S) := uFld_get T.h0 tl.2.2.1
  have m1 := meth_sh (nz := nz0) (F := F_shelf_size) (n := 1) (m := "size") (ρ := [some (.obj 0), none, none]) (fo := eFld 1 "newer" (eVar 0)) (fa := aNil) (S := S) (S1 := S) (ys := []) (r2 := t.newer) (by simp [fn]) T.hn no_size rfl rfl size_eq nrm_nz0
  have m2 := meth_sh (nz := nz0) (F := F_shelf_many) (n := 1) (m := "many") (ρ := [some (.obj 0), some (.pd (.int t.newer.1.length)), some (.pd .none)]) (fo := eFld 1 "newer" (eVar 0)) (fa := aNil) (S := S) (S1 := S) (ys := []) (r2 := t.newer) (by simp [fn]) T.hn no_many rfl rfl many_eq nrm_nz0
  rw [set_same T.hn] at m1 m2
  have szs := sz_mem hz
  have c8 : ∀ z : Int, CMul 8 z := fun z => .inl (by decide)
  have c2 : ∀ z : Int, CMul 2 z := fun z => .inl (by decide)
  rw [F_table_begin_e, fnF_e]
  unfold G_table_begin
  cases hf : t.further with
  | none =>
    have h1 : ¬ ((t.newer.1.length : Int) < t.newer.2 ∧ t.newer.1.length < 4096) := fun z => by
      unfold TSt.further at hf
      rw [if_pos z] at hf
      cases hf
    have h2 : ¬ (8 * t.newer.2 < t.newer.1.length ∧ 4 < t.newer.1.length) := fun z => by
      unfold TSt.further at hf
      rw [if_neg h1, if_pos z] at hf
      cases hf
    have k1 : ¬ ((t.newer.1.length : Int) < t.newer.2 ∧ (t.newer.1.length : Int) < 4096) := fun z => h1 ⟨z.1, by omega⟩
    have k2 : ¬ (8 * t.newer.2 < t.newer.1.length ∧ (4 : Int) < t.newer.1.length) := fun z => h2 ⟨z.1, by omega⟩
    refine ⟨S, e, n, ?_, by unfold TSt.bgn; rw [hf]; cases t.elder <;> exact T⟩
    have fx : ∃ b : Bool, ∀ (z : Val), uIs z (.pd .none) S = some (.pd (.bool (isNon z)), S) := ⟨true, fun z => rfl⟩
    cases e with
    | none =>
      have fe' : uFld 1 "elder" (.obj 0) S = some (.pd .none, S) := fe
      by_cases g1 : (t.newer.1.length : Int) < t.newer.2 <;> by_cases g2 : (t.newer.1.length : Int) < 4096 <;> by_cases g3 : 8 * t.newer.2 < (t.newer.1.length : Int) <;> by_cases g4 : (4 : Int) < t.newer.1.length <;>
        first
        | (exfalso; omega)
        | simp -implicitDefEqProofs [startD, m1, m2, g1, g2, g3, g4, c8, c2, fe', exitA]
    | some h =>
      have fe' : uFld 1 "elder" (.obj 0) S = some (.obj h, S) := fe
      by_cases g1 : (t.newer.1.length : Int) < t.newer.2 <;> by_cases g2 : (t.newer.1.length : Int) < 4096 <;> by_cases g3 : 8 * t.newer.2 < (t.newer.1.length : Int) <;> by_cases g4 : (4 : Int) < t.newer.1.length <;>
        first
        | (exfalso; omega)
        | simp -implicitDefEqProofs [startD, m1, m2, g1, g2, g3, g4, c8, c2, fe', exitA]
  | some f =>
    obtain ⟨S', e', n', ee, T'⟩ := begin_end (ρ0 := some (.pd (.int t.newer.1.length))) T (further_sz hz hf)
    refine ⟨S', e', n', ?_, by unfold TSt.bgn; rw [hf]; cases he : t.elder <;> (rw [he] at T'; exact T')⟩
    have a1 : gAsg (eMethB nz0 0 "size" F_shelf_size 1 (eFld 1 "newer" (eVar 0)) aNil) (nName 1) [some (.obj 0), none, none] S = some (.nx [some (.obj 0), some (.pd (.int t.newer.1.length)), none], S) := by simp -implicitDefEqProofs [m1]
    have a2 : gAsg (eC .none) (nName 2) [some (.obj 0), some (.pd (.int t.newer.1.length)), none] S = some (.nx [some (.obj 0), some (.pd (.int t.newer.1.length)), some (.pd .none)], S) := by simp
    have a3 : gIf (tAnd (tVal (eO (uLt fun i j => decide (j < i)) (eMethB nz0 0 "many" F_shelf_many 1 (eFld 1 "newer" (eVar 0)) aNil) (eVar 1))) (tVal (eO (uLt fun i j => decide (i < j)) (eVar 1) (eC (.int 4096))))) (gAsg (eO uMul (eC (.int 2)) (eVar 1)) (nName 2)) (gIf (tAnd (tVal (eO (uLt fun i j => decide (i < j)) (eO uMul (eC (.int 8)) (eMethB nz0 0 "many" F_shelf_many 1 (eFld 1 "newer" (eVar 0)) aNil)) (eVar 1))) (tVal (eO (uLt fun i j => decide (j < i)) (eVar 1) (eC (.int 4))))) (gAsg (eO uDiv (eVar 1) (eC (.int 2))) (nName 2)) gNext) [some (.obj 0), some (.pd (.int t.newer.1.length)), some (.pd .none)] S =
        some (.nx [some (.obj 0), some (.pd (.int t.newer.1.length)), some (.pd (.int f))], S) := by
      unfold TSt.further at hf
      by_cases k1 : (t.newer.1.length : Int) < t.newer.2 ∧ t.newer.1.length < 4096
      · rw [if_pos k1] at hf
        cases hf
        have g2 : (t.newer.1.length : Int) < 4096 := by omega
        simp -implicitDefEqProofs [m2, k1.1, g2, c2]
      · rw [if_neg k1] at hf
        by_cases k2 : 8 * t.newer.2 < t.newer.1.length ∧ 4 < t.newer.1.length
        · rw [if_pos k2] at hf
          cases hf
          have g4 : (4 : Int) < t.newer.1.length := by omega
          have g1 : ¬ (t.newer.1.length : Int) < t.newer.2 := by omega
          simp -implicitDefEqProofs [m2, g1, k2.1, g4, c8]
        · rw [if_neg k2] at hf
          cases hf
    rw [gSeq_e, show startD 3 [Val.obj 0] = [some (.obj 0), none, none] from rfl, a1, seqR_nx, gSeq_e, a2, seqR_nx, gSeq_e, a3, seqR_nx, ee]
    rfl
theorem go_loop {P : Nat → TSt → Prop} (hP : ∀ i t, P (i + 1) t → t.fit ∧ P i t.turn) {n s : Nat} : ∀ (items : List Val) (S : Store) (e : Option Nat) (t : TSt) (x : Option Val), TS S e n s t → P items.length t → ∃ S' e' x', loopG (nName 1) B1_table_go_on items [some (.obj 0), x] S = some (.nx [some (.obj 0), x'], S') ∧ TS S' e' n s (TSt.goN items.length t)
  | [], S, e, t, x, T, _ => ⟨S, e, x, rfl, T⟩
  | d :: r, S, e, t, x, T, h => by
    obtain ⟨⟨h1, h2, h3⟩, h4⟩ := hP _ _ h
    obtain ⟨S1, e1, eq1, T1⟩ := turn_eq (d := d) (x := x) T h1 h2 h3
    obtain ⟨S2, e2, x2, eq2, T2⟩ := go_loop hP r S1 e1 t.turn (some d) T1 h4
    exact ⟨S2, e2, x2, by rw [loopG_cons, eq1]; exact eq2, T2⟩
theorem go_on_eq {P : Nat → TSt → Prop} (hP : ∀ i t, P (i + 1) t → t.fit ∧ P i t.turn) {S : Store} {e : Option Nat} {n s : Nat} {t : TSt} (T : TS S e n s t) (hp : P t.pace t) (hl : t.pace ≤ 1000) : ∃ S' e', F_table_go_on [.obj 0] S = some (.pd .none, S') ∧ TS S' e' n s (TSt.goN t.pace t) := by
  have fp : uFld 1 "pace" (.obj 0) S = some (.pd (.int t.pace), S) := uFld_get T.h0 tl.2.1
  have hlen : (rgI 0 t.pace).length = t.pace := by simp [rgI]
  obtain ⟨S', e', x', eq, T'⟩ := go_loop hP (rgI 0 t.pace) S e t none T (by rw [hlen]; exact hp)
  rw [hlen] at T'
  refine ⟨S', e', ?_, T'⟩
  have e4 : (t.pace : Int) < 2 ^ 62 := by omega
  have e5 : -(2 ^ 62) ≤ (t.pace : Int) := by omega
  have ei : iRng1 (eFld 1 "pace" (eVar 0)) [some (.obj 0), none] S = some (⟨rgI 0 t.pace, none⟩, S) := by
    rw [iRng1_e, show eFld 1 "pace" (eVar 0) [some (.obj 0), none] S = some (.pd (.int t.pace), S) from by simp [fp], bindR_some, rng1_int, if_pos ⟨e5, e4⟩, Int.toNat_natCast]
  rw [F_table_go_on_e, fnF_e]
  unfold G_table_go_on
  rw [gFor_e, show startD 2 [Val.obj 0] = [some (.obj 0), none] from rfl, ei, bindR_some, eq]
  rfl
theorem tput_eq {P : Nat → TSt → Prop} {S : Store} {e : Option Nat} {n s : Nat} {t : TSt} {k v : Int} (T : TS S e n s t) (R : Rdy P t k) :
    ∃ S' e' n' s', F_table_put [.obj 0, .pd (.int k), .pd (.int v)] S = some (.pd (optD (t.told k)), S') ∧ TS S' e' n' s' (t.putD k v) := by
  obtain ⟨u1, T1⟩ := T.fresh
  generalize (S ++ [Ob.dT []]).set 0 (.ins 1 (fsT t.mx t.pace (eV e) t.moved n S.length)) = S1 at u1 T1
  obtain ⟨S2, e2, g2, T2⟩ := go_on_eq R.step T1 R.p0 R.pc
  have T2 : TS S2 e2 n S.length (TSt.goN t.pace t.fresh) := T2
  obtain ⟨S3, g3, T3⟩ := home_eq (k := k) T2 R.ok
  have T3 : TS S3 e2 n S.length (t.ahead k) := T3
  have hat : (TSt.goN t.pace t.fresh).atE k = (t.ahead k).atE k := (home_at _ k).symm
  have hmx : mxOk (t.ahead k).mx := by
    show mxOk ((TSt.goN t.pace t.fresh).home k).mx
    rw [home_mx]
    exact R.ok.mx
  obtain ⟨gh, T4⟩ := T3.at_ k _ hat (shPut (t.ahead k).mx ((t.ahead k).shelf k).1 k v, ((t.ahead k).shelf k).2 + newC (t.ahead k).mx ((t.ahead k).shelf k).1 k)
  generalize (if (TSt.goN t.pace t.fresh).atE k = true then e2.getD 0 else n) = hd at g3 gh T4
  have m2 := meth_ins (nz := nz0) (c := 1) (m := "go_on") (F := F_table_go_on) (n := 1) (ρ := [some (.obj 0), some (.pd (.int k)), some (.pd (.int v)), none]) (fo := eVar 0) (fa := aNil) (S := S1) (S1 := S1) (h := 0) rfl T1.h0 no_po.2.2.1
  have m3 := meth_ins (nz := nz0) (c := 1) (m := "home_of") (F := F_table_home_of) (n := 2) (ρ := [some (.obj 0), some (.pd (.int k)), some (.pd (.int v)), none]) (fo := eVar 0) (fa := aCons (eVar 1) aNil) (S := S2) (S1 := S2) (h := 0) rfl T2.h0 no_po.2.2.2.1
  have rr := R.rm (plc (t.ahead k).mx ((t.ahead k).shelf k).1.length k)
  have m4 := meth_sh (nz := nz0) (F := F_shelf_put) (n := 3) (m := "put") (ρ := [some (.obj 0), some (.pd (.int k)), some (.pd (.int v)), none]) (fo := eMethB nz0 1 "home_of" F_table_home_of 2 (eVar 0) (aCons (eVar 1) aNil)) (fa := aCons (eVar 1) (aCons (eVar 2) aNil)) (S := S2) (S1 := S3) (ys := [.int k, .int v]) (r2 := (shPut (t.ahead k).mx ((t.ahead k).shelf k).1 k v, ((t.ahead k).shelf k).2 + newC (t.ahead k).mx ((t.ahead k).shelf k).1 k)) (by rw [m3]; simp [g3]) gh no_put rfl rfl (put_eq hmx R.sh (by omega)) nrm_nz0
  generalize S3.set hd _ = S4 at m4 T4
  obtain ⟨S5, e5, n5, g5, T5⟩ := begin_eq T4 (put1_sz R.sz shPut_len)
  have m5 := meth_ins (nz := nz0) (c := 1) (m := "begin") (F := F_table_begin) (n := 1) (ρ := [some (.obj 0), some (.pd (.int k)), some (.pd (.int v)), some (.pd (optD (t.told k)))]) (fo := eVar 0) (fa := aNil) (S := S4) (S1 := S4) (h := 0) rfl T4.h0 no_po.2.2.2.2
  refine ⟨S5, e5, n5, S.length, ?_, T5⟩
  rw [F_table_put_e, fnF_e]
  unfold G_table_put
  have m4' : eMethB nz0 0 "put" F_shelf_put 3 (eMethB nz0 1 "home_of" F_table_home_of 2 (eVar 0) (aCons (eVar 1) aNil)) (aCons (eVar 1) (aCons (eVar 2) aNil)) [some (.obj 0), some (.pd (.int k)), some (.pd (.int v)), none] S2 = some (.pd (optD (t.told k)), S4) := m4
  simp -implicitDefEqProofs [startD, u1, m2, g2, m4', m5, g5, exitA]
theorem cut_eq' {mx : Int × Int} {r : Rows × Int} {k : Int} (hm : mxOk mx) (hr : 0 < r.1.length) : F_shelf_cut [.obj 0, .pd (.int k)] (shT mx r.1 r.2) = some (.pd (optD (shLook mx r.1 k)), shT mx (cutR mx r k).1 (cutR mx r k).2) := by
  rw [cut_eq hm hr]
  unfold cutR
  split <;> rfl
theorem tcut_eq {P : Nat → TSt → Prop} {S : Store} {e : Option Nat} {n s : Nat} {t : TSt} {k : Int} (T : TS S e n s t) (R : Rdy P t k) :
    ∃ S' e' n' s', F_table_cut [.obj 0, .pd (.int k)] S = some (.pd (optD (t.told k)), S') ∧ TS S' e' n' s' (t.cutD k) := by
  obtain ⟨u1, T1⟩ := T.fresh
  generalize (S ++ [Ob.dT []]).set 0 (.ins 1 (fsT t.mx t.pace (eV e) t.moved n S.length)) = S1 at u1 T1
  obtain ⟨S2, e2, g2, T2⟩ := go_on_eq R.step T1 R.p0 R.pc
  have T2 : TS S2 e2 n S.length (TSt.goN t.pace t.fresh) := T2
  obtain ⟨S3, g3, T3⟩ := home_eq (k := k) T2 R.ok
  have T3 : TS S3 e2 n S.length (t.ahead k) := T3
  have hat : (TSt.goN t.pace t.fresh).atE k = (t.ahead k).atE k := (home_at _ k).symm
  have hmx : mxOk (t.ahead k).mx := by
    show mxOk ((TSt.goN t.pace t.fresh).home k).mx
    rw [home_mx]
    exact R.ok.mx
  obtain ⟨gh, T4⟩ := T3.at_ k _ hat (cutR (t.ahead k).mx ((t.ahead k).shelf k) k)
  generalize (if (TSt.goN t.pace t.fresh).atE k = true then e2.getD 0 else n) = hd at g3 gh T4
  have m2 := meth_ins (nz := nz0) (c := 1) (m := "go_on") (F := F_table_go_on) (n := 1) (ρ := [some (.obj 0), some (.pd (.int k)), none]) (fo := eVar 0) (fa := aNil) (S := S1) (S1 := S1) (h := 0) rfl T1.h0 no_po.2.2.1
  have m3 := meth_ins (nz := nz0) (c := 1) (m := "home_of") (F := F_table_home_of) (n := 2) (ρ := [some (.obj 0), some (.pd (.int k)), none]) (fo := eVar 0) (fa := aCons (eVar 1) aNil) (S := S2) (S1 := S2) (h := 0) rfl T2.h0 no_po.2.2.2.1
  have m4 := meth_sh (nz := nz0) (F := F_shelf_cut) (n := 2) (m := "cut") (ρ := [some (.obj 0), some (.pd (.int k)), none]) (fo := eMethB nz0 1 "home_of" F_table_home_of 2 (eVar 0) (aCons (eVar 1) aNil)) (fa := aCons (eVar 1) aNil) (S := S2) (S1 := S3) (ys := [.int k]) (r2 := (cutR (t.ahead k).mx ((t.ahead k).shelf k) k)) (by rw [m3]; simp [g3]) gh no_cut rfl rfl (cut_eq' hmx R.sh) nrm_nz0
  generalize S3.set hd _ = S4 at m4 T4
  obtain ⟨S5, e5, n5, g5, T5⟩ := begin_eq T4 (put1_sz R.sz cutR_len)
  have m5 := meth_ins (nz := nz0) (c := 1) (m := "begin") (F := F_table_begin) (n := 1) (ρ := [some (.obj 0), some (.pd (.int k)), some (.pd (optD (t.told k)))]) (fo := eVar 0) (fa := aNil) (S := S4) (S1 := S4) (h := 0) rfl T4.h0 no_po.2.2.2.2
  refine ⟨S5, e5, n5, S.length, ?_, T5⟩
  rw [F_table_cut_e, fnF_e]
  unfold G_table_cut
  have m4' : eMethB nz0 0 "cut" F_shelf_cut 2 (eMethB nz0 1 "home_of" F_table_home_of 2 (eVar 0) (aCons (eVar 1) aNil)) (aCons (eVar 1) aNil) [some (.obj 0), some (.pd (.int k)), none] S2 = some (.pd (optD (t.told k)), S4) := m4
  simp -implicitDefEqProofs [startD, u1, m2, g2, m4', m5, g5, exitA]
theorem tlook_eq {P : Nat → TSt → Prop} {S : Store} {e : Option Nat} {n s : Nat} {t : TSt} {k : Int} (T : TS S e n s t) (R : Rdy P t k) :
    ∃ S' e' n' s', F_table_look [.obj 0, .pd (.int k)] S = some (.pd (optD (t.told k)), S') ∧ TS S' e' n' s' (t.lookD k) := by
  obtain ⟨u1, T1⟩ := T.fresh
  generalize (S ++ [Ob.dT []]).set 0 (.ins 1 (fsT t.mx t.pace (eV e) t.moved n S.length)) = S1 at u1 T1
  obtain ⟨S2, e2, g2, T2⟩ := go_on_eq R.step T1 R.p0 R.pc
  have T2 : TS S2 e2 n S.length (TSt.goN t.pace t.fresh) := T2
  obtain ⟨S3, g3, T3⟩ := home_eq (k := k) T2 R.ok
  have T3 : TS S3 e2 n S.length (t.ahead k) := T3
  have hat : (TSt.goN t.pace t.fresh).atE k = (t.ahead k).atE k := (home_at _ k).symm
  have hmx : mxOk (t.ahead k).mx := by
    show mxOk ((TSt.goN t.pace t.fresh).home k).mx
    rw [home_mx]
    exact R.ok.mx
  obtain ⟨gh, T4⟩ := T3.at_ k _ hat ((t.ahead k).shelf k)
  generalize (if (TSt.goN t.pace t.fresh).atE k = true then e2.getD 0 else n) = hd at g3 gh T4
  have m2 := meth_ins (nz := nz0) (c := 1) (m := "go_on") (F := F_table_go_on) (n := 1) (ρ := [some (.obj 0), some (.pd (.int k)), none]) (fo := eVar 0) (fa := aNil) (S := S1) (S1 := S1) (h := 0) rfl T1.h0 no_po.2.2.1
  have m3 := meth_ins (nz := nz0) (c := 1) (m := "home_of") (F := F_table_home_of) (n := 2) (ρ := [some (.obj 0), some (.pd (.int k)), none]) (fo := eVar 0) (fa := aCons (eVar 1) aNil) (S := S2) (S1 := S2) (h := 0) rfl T2.h0 no_po.2.2.2.1
  have m4 := meth_sh (nz := nz0) (F := F_shelf_look) (n := 2) (m := "look") (ρ := [some (.obj 0), some (.pd (.int k)), none]) (fo := eMethB nz0 1 "home_of" F_table_home_of 2 (eVar 0) (aCons (eVar 1) aNil)) (fa := aCons (eVar 1) aNil) (S := S2) (S1 := S3) (ys := [.int k]) (r2 := ((t.ahead k).shelf k)) (by rw [m3]; simp [g3]) gh no_look rfl rfl (look_eq hmx R.sh) nrm_nz0
  generalize S3.set hd _ = S4 at m4 T4
  obtain ⟨S5, e5, n5, g5, T5⟩ := begin_eq T4 (put1_sz R.sz rfl)
  have m5 := meth_ins (nz := nz0) (c := 1) (m := "begin") (F := F_table_begin) (n := 1) (ρ := [some (.obj 0), some (.pd (.int k)), some (.pd (optD (t.told k)))]) (fo := eVar 0) (fa := aNil) (S := S4) (S1 := S4) (h := 0) rfl T4.h0 no_po.2.2.2.2
  refine ⟨S5, e5, n5, S.length, ?_, T5⟩
  rw [F_table_look_e, fnF_e]
  unfold G_table_look
  have m4' : eMethB nz0 0 "look" F_shelf_look 2 (eMethB nz0 1 "home_of" F_table_home_of 2 (eVar 0) (aCons (eVar 1) aNil)) (aCons (eVar 1) aNil) [some (.obj 0), some (.pd (.int k)), none] S2 = some (.pd (optD (t.told k)), S4) := m4
  simp -implicitDefEqProofs [startD, u1, m2, g2, m4', m5, g5, exitA]
theorem tb_put {P : Nat → TSt → Prop} {t : TSt} {k v : Int} (R : Rdy P t k) : ∃ T' e' n' s', F_table_put (.obj 0 :: [PyData.int k, PyData.int v].map Val.pd) (tabT t) = some (.pd (optD (t.told k)), T') ∧ TS T' e' n' s' (t.putD k v) := by
  obtain ⟨e, n, s, T⟩ := ts_tab t
  exact tput_eq T R
theorem tb_cut {P : Nat → TSt → Prop} {t : TSt} {k : Int} (R : Rdy P t k) : ∃ T' e' n' s', F_table_cut (.obj 0 :: [PyData.int k].map Val.pd) (tabT t) = some (.pd (optD (t.told k)), T') ∧ TS T' e' n' s' (t.cutD k) := by
  obtain ⟨e, n, s, T⟩ := ts_tab t
  exact tcut_eq T R
theorem tb_look {P : Nat → TSt → Prop} {t : TSt} {k : Int} (R : Rdy P t k) : ∃ T' e' n' s', F_table_look (.obj 0 :: [PyData.int k].map Val.pd) (tabT t) = some (.pd (optD (t.told k)), T') ∧ TS T' e' n' s' (t.lookD k) := by
  obtain ⟨e, n, s, T⟩ := ts_tab t
  exact tlook_eq T R
theorem tmany_eq {S : Store} {e : Option Nat} {n s : Nat} {t : TSt} (T : TS S e n s t) : F_table_many [.obj 0] S = some (.pd (.int t.count), S) := by
  have fe : uFld 1 "elder" (.obj 0) S = some (eV e, S) := uFld_get T.h0 tl.2.2.1
  have fn : uFld 1 "newer" (.obj 0) S = some (.obj n, S) := uFld_get T.h0 tl.2.2.2.2.1
  have m1 := meth_sh (nz := nz0) (F := F_shelf_many) (n := 1) (m := "many") (ρ := [some (.obj 0)]) (fo := eFld 1 "newer" (eVar 0)) (fa := aNil) (S := S) (S1 := S) (ys := []) (r2 := t.newer) (by simp [fn]) T.hn no_many rfl rfl many_eq nrm_nz0
  rw [set_same T.hn] at m1
  rw [F_table_many_e, fnF_e]
  unfold G_table_many TSt.count
  rcases T.he with ⟨rfl, he⟩ | ⟨h, el, rfl, he, hh, hne⟩
  · have fe' : uFld 1 "elder" (.obj 0) S = some (.pd .none, S) := fe
    rw [he]
    simp -implicitDefEqProofs [startD, fe', m1, exitF_same]
  · have fe' : uFld 1 "elder" (.obj 0) S = some (.obj h, S) := fe
    have m2 := meth_sh (nz := nz0) (F := F_shelf_many) (n := 1) (m := "many") (ρ := [some (.obj 0)]) (fo := eFld 1 "elder" (eVar 0)) (fa := aNil) (S := S) (S1 := S) (ys := []) (r2 := el) (by simp [fe']) hh no_many rfl rfl many_eq nrm_nz0
    rw [set_same hh] at m2
    rw [he]
    simp -implicitDefEqProofs [startD, fe', m1, m2, exitF_same]
/-- how many, at the law's level -/
theorem many_tab {t : TSt} {h : Nat} {fo : DEnv → M Val} {ρ : DEnv} {S S1 : Store} (eo : fo ρ S = some (.obj h, S1)) (e : S1[h]? = some (boxT t)) : eMethB nz0 1 "many" F_table_many 1 fo aNil ρ S = some (.pd (.int t.count), S1) := by
  obtain ⟨e', n, s, T⟩ := ts_tab t
  have := meth_box (nz := nz0) (c := 1) (m := "many") (F := F_table_many) (n := 1) (fa := aNil) (ys := []) eo e (head_tab fun _ _ _ => rfl) rfl e rfl (tmany_eq T) nrm_nz0
  rw [this]
  rw [show S1.set h (mkBox (tabT t)) = S1 from set_same e]
theorem tinit_eq {mx : Int × Int} {pace : Nat} : F_table_init [.obj 0, .pd (pr mx), .pd (.int pace), .pd .none] [.ins 1 []] = some (.pd .none, tabT (newT mx pace)) := by
  have s1 : ∀ v, uSetF 1 "mixer" (.obj 0) v [.ins 1 []] = some ((), [.ins 1 [("mixer", v)]]) := fun v => by rfl
  have s2 : ∀ v w, uSetF 1 "pace" (.obj 0) w [.ins 1 [("mixer", v)]] = some ((), [.ins 1 [("mixer", v), ("pace", w)]]) := fun v w => by rfl
  have s3 : ∀ v w x, uSetF 1 "elder" (.obj 0) x [.ins 1 [("mixer", v), ("pace", w)]] = some ((), [.ins 1 [("mixer", v), ("pace", w), ("elder", x)]]) := fun v w x => by rfl
  have s4 : ∀ v w x y, uSetF 1 "moved" (.obj 0) y [.ins 1 [("mixer", v), ("pace", w), ("elder", x)]] = some ((), [.ins 1 [("mixer", v), ("pace", w), ("elder", x), ("moved", y)]]) := fun v w x y => by rfl
  have s5 : ∀ v w x y z o, uSetF 1 "newer" (.obj 0) z [.ins 1 [("mixer", v), ("pace", w), ("elder", x), ("moved", y)], o] = some ((), [.ins 1 [("mixer", v), ("pace", w), ("elder", x), ("moved", y), ("newer", z)], o]) := fun v w x y z o => by rfl
  have s6 : ∀ v w x y z u o o2, uSetF 1 "spots" (.obj 0) u [.ins 1 [("mixer", v), ("pace", w), ("elder", x), ("moved", y), ("newer", z)], o, o2] = some ((), [.ins 1 [("mixer", v), ("pace", w), ("elder", x), ("moved", y), ("newer", z), ("spots", u)], o, o2]) := fun v w x y z u o o2 => by rfl
  have mk := makeB_eq (nz := nz0) (c := 0) (F := F_shelf_init) (n := 3) (ρ := [some (.obj 0), some (.pd (pr mx)), some (.pd (.int pace)), some (.pd .none), none, none]) (fa := aCons (eC (.int 4)) (aCons (eVar 1) aNil)) (S := [.ins 1 [("mixer", .pd (pr mx)), ("pace", .pd (.int pace)), ("elder", .pd .none), ("moved", .pd (.int 0))]]) (S1 := [.ins 1 [("mixer", .pd (pr mx)), ("pace", .pd (.int pace)), ("elder", .pd .none), ("moved", .pd (.int 0))]]) (ys := [.int 4, pr mx]) rfl rfl (init_eq (mx := mx) (n := 4) (by decide)) nrm_nz0
  rw [F_table_init_e, fnF_e]
  unfold G_table_init
  simp -implicitDefEqProofs [startD, s1, s2, s3, s4, mk, s5, s6, exitA]
  rfl
theorem nrm_tabT (t : TSt) : nrm nzT 0 (tabT t) = some (tabT t) := by
  obtain ⟨e, n, s, T⟩ := ts_tab t
  exact nrm_tab T
/-- a new table -/
theorem newtab_eq {fa : DEnv → M (List Val)} {ρ : DEnv} {S S1 : Store} {mx : Int × Int} {pace : Nat} (ea : fa ρ S = some ([.pd (pr mx), .pd (.int pace), .pd .none], S1)) : eMakeB nzT 1 F_table_init 4 fa ρ S = some (.obj S1.length, S1 ++ [boxT (newT mx pace)]) :=
  makeB_eq (ys := [pr mx, .int pace, .none]) ea rfl tinit_eq (nrm_tabT _)
end
end PS
set_option Elab.async false
set_option linter.all false
set_option maxRecDepth 100000
set_option maxHeartbeats 4000000
namespace GS
open PySem L2 PyProof.Rows DM PG TM PS
noncomputable section
/-! streams: what is taken -/
def rOb (r : Int × Int × Int) : Ob := .lst [.int r.1, .int r.2.1, .int r.2.2]
def rOk (r : Int × Int × Int) : Prop := 0 ≤ r.2.1 ∧ r.2.1 < 536870909
theorem blw_r {n : Nat} {r : Int × Int × Int} : (rOb r).blw n = true := rfl
theorem stream_ok {S : Store} {c : Int} {β : Type} {k : Val → M β} {P : β → Store → Prop} (w : Wf S) (hk : ∀ u, rOk u → Ok (k (.obj S.length) (S ++ [rOb u])) P) : Ok (bindR (F_law_stream [.pd (.int c)] S) k) P := by
  have h1 := Int.emod_nonneg c (b := 536870909) (by omega)
  have h2 := Int.emod_lt_of_pos c (b := 536870909) (by omega)
  have h3 := Int.emod_lt_of_pos (c % 536870909 * (c % 536870909)) (b := 536870909) (by omega)
  have h4 := Int.emod_nonneg (c % 536870909 * (c % 536870909)) (b := 536870909) (by omega)
  have c1 : CMul (c % 536870909) (c % 536870909) := .inl (by omega)
  have c2 : CMul (c % 536870909 * (c % 536870909) % 536870909) (c % 536870909 + 7) := .inl (by omega)
  have c3 : CPow 10 18 := by decide
  have e : F_law_stream [.pd (.int c)] S = some (.obj S.length, S ++ [rOb (c, (c % 536870909 * (c % 536870909) % 536870909 * (c % 536870909 + 7) + 13) % 536870909, if c ≥ 10 ^ 18 then 1 else 0)]) := by
    rw [F_law_stream_e, fnF_e]
    unfold G_law_stream
    simp [startD, c1, c2, c3, uLstM, rOb]
    exact exitN_app w rfl (fun u z => by cases z)
  rw [e]
  exact hk _ ⟨Int.emod_nonneg _ (by omega), Int.emod_lt_of_pos _ (by omega)⟩
theorem take_ex {S : Store} {h : Nat} {r : Int × Int × Int} {m : Int} (e : S[h]? = some (rOb r)) (hb : rOk r) (hm : 0 < m ∧ m < 1073741824 * 4) : ∃ v r', 0 ≤ v ∧ v < m ∧ rOk r' ∧ F_law_take [.obj h, .pd (.int m)] S = some (.pd (.int v), S.set h (rOb r')) := by
  obtain ⟨a, b, c⟩ := r
  have hh := lt_of_get e
  unfold rOb at e
  simp only [rOk] at hb
  have cm : CMul (b + 7919) (b + 104729) := .inl (by omega)
  have hd : m < 1073741824 ∨ m.natAbs.log2 < 9000 := .inr (log2_lt hm)
  have g1 : 0 ≤ (b + 7919) * (b + 104729) % 536870909 := Int.emod_nonneg _ (by omega)
  have g2 : (b + 7919) * (b + 104729) % 536870909 < 536870909 := Int.emod_lt_of_pos _ (by omega)
  generalize hq : (b + 7919) * (b + 104729) % 536870909 = q at g1 g2
  have cm2 : CMul q 48271 := .inr (by omega)
  by_cases hc : c = 1
  · refine ⟨a % m, (a / m, b, c), Int.emod_nonneg _ (by omega), Int.emod_lt_of_pos _ hm.1, hb, ?_⟩
    rw [F_law_take_e, fnF_e]
    unfold G_law_take
    simp [startD, uIx_obj e, atI, ixN, hc, hm.1, hd, uSet_obj e, exitF_same, rOb]
  · refine ⟨(q * 48271 + 11) / 64 % m, (a, q, c), Int.emod_nonneg _ (by omega), Int.emod_lt_of_pos _ hm.1, ⟨g1, g2⟩, ?_⟩
    rw [F_law_take_e, fnF_e]
    unfold G_law_take
    simp [startD, uIx_obj e, atI, ixN, hc, hm.1, hd, uSet_obj e, uIx_set hh, exitF_same, rOb, cm, hq, cm2]
section
variable {β : Type} {S : Store} {h : Nat} {w : Int × Int × Int} {m : Int} {k : Val → M β} {P : β → Store → Prop} {Q : Val → Store → Prop}
theorem take_c (e : S[h]? = some (rOb w)) (hw : rOk w) (hm : 0 < m ∧ m < 1073741824 * 4) (hQ : ∀ v w', 0 ≤ v → v < m → rOk w' → Q (.pd (.int v)) (S.set h (rOb w'))) : Ok (F_law_take [.obj h, .pd (.int m)] S) Q := by
  obtain ⟨v, w', a, b, c, e⟩ := take_ex e hw hm
  exact Ok.of_eq e (hQ v w' a b c)
theorem take_ok (e : S[h]? = some (rOb w)) (hw : rOk w) (hm : 0 < m ∧ m < 1073741824 * 4) (hk : ∀ v w', 0 ≤ v → v < m → rOk w' → Ok (k (.pd (.int v)) (S.set h (rOb w'))) P) : Ok (bindR (F_law_take [.obj h, .pd (.int m)] S) k) P := ok_b (take_c e hw hm hk)
theorem take_set (hh : h < S.length) (hw : rOk w) (hm : 0 < m ∧ m < 1073741824 * 4) (hk : ∀ v w', 0 ≤ v → v < m → rOk w' → Ok (k (.pd (.int v)) (S.set h (rOb w'))) P) : Ok (bindR (F_law_take [.obj h, .pd (.int m)] (S.set h (rOb w))) k) P :=
  take_ok (List.getElem?_set_self hh) hw hm fun v w' a b c => by
    rw [List.set_set]
    exact hk v w' a b c
theorem take_app (hn : S.length = h) (hw : rOk w) (hm : 0 < m ∧ m < 1073741824 * 4) (hk : ∀ v w', 0 ≤ v → v < m → rOk w' → Ok (k (.pd (.int v)) (S ++ [rOb w'])) P) : Ok (bindR (F_law_take [.obj h, .pd (.int m)] (S ++ [rOb w])) k) P :=
  take_ok (get_app hn) hw hm fun v w' a b c => by
    rw [set_app hn]
    exact hk v w' a b c
theorem take_app_set {o : Ob} (hh : h < S.length) (hw : rOk w) (hm : 0 < m ∧ m < 1073741824 * 4) (hk : ∀ v w', 0 ≤ v → v < m → rOk w' → Ok (k (.pd (.int v)) (S.set h (rOb w') ++ [o])) P) : Ok (bindR (F_law_take [.obj h, .pd (.int m)] (S.set h (rOb w) ++ [o])) k) P :=
  take_ok (by rw [List.getElem?_append_left (by simpa using hh)]; exact List.getElem?_set_self hh) hw hm fun v w' a b c => by
    rw [List.set_append_left _ _ (by simpa using hh), List.set_set]
    exact hk v w' a b c
end
def mxR (mx : Int × Int) : Prop := (0 ≤ mx.1 ∧ mx.1 ≤ 65535) ∧ 0 ≤ mx.2 ∧ mx.2 ≤ 65535
section
variable {S : Store} {h : Nat} {w : Int × Int × Int} {Q : Val → Store → Prop}
theorem mixer_c (wf : Wf S) (e : S[h]? = some (rOb w)) (hw : rOk w) (hQ : ∀ mx w', mxR mx → rOk w' → Q (.pd (pr mx)) (S.set h (rOb w'))) : Ok (F_law_mixer [.obj h] S) Q := by
  have hh := lt_of_get e
  have eS : S = S.set h (rOb w) := by rw [set_same e]
  rw [F_law_mixer_e, fnF_e]
  unfold G_law_mixer
  simp -implicitDefEqProofs [startD, uTup, uLstM]
  rw [eS]
  simp -implicitDefEqProofs only [List.length_set]
  refine take_app_set hh hw (by omega) fun a w1 a0 a1 o1 => ?_
  simp -implicitDefEqProofs
  refine take_app_set hh o1 (by omega) fun b w2 b0 b1 o2 => ?_
  simp -implicitDefEqProofs
  refine take_app_set hh o2 (by omega) fun c w3 c0 c1 o3 => ?_
  have l1 : (S.set h (rOb w3)).length = S.length := by simp
  have wf3 : Wf (S.set h (rOb w3)) := wf.set rfl
  have all : ∀ d ∈ [pr (1, 0), pr (0, 0), pr (0, 65535), pr (40503, 7), pr (65535, 1), pr (2, 0), pr (4096, 3), pr (32768, 65535), pr (a, b)], ∃ mx, mxR mx ∧ d = pr mx := fun d hd => by
    simp only [List.mem_cons, List.not_mem_nil, or_false] at hd
    have lit : ∀ x y : Int, (0 ≤ x ∧ x ≤ 65535) ∧ 0 ≤ y ∧ y ≤ 65535 → d = pr (x, y) → ∃ mx, mxR mx ∧ d = pr mx := fun x y h e => ⟨(x, y), h, e⟩
    rcases hd with h | h | h | h | h | h | h | h | h <;> exact lit _ _ (by omega) h
  rw [uIx_app l1]
  have ec : c = (c.toNat : Nat) := by omega
  have hc : c.toNat < 9 := by omega
  rw [ec, atI_in (by simpa using hc)]
  obtain ⟨d, hd⟩ : ∃ d, [pr (1, 0), pr (0, 0), pr (0, 65535), pr (40503, 7), pr (65535, 1), pr (2, 0), pr (4096, 3), pr (32768, 65535), pr (a, b)][c.toNat]? = some d := ⟨_, List.getElem?_eq_getElem (by simpa using hc)⟩
  obtain ⟨mx, r, rfl⟩ := all d (List.mem_of_getElem? hd)
  unfold pr at hd
  rw [hd]
  simp -implicitDefEqProofs [exitF_app' wf3 l1]
  exact hQ mx w3 r o3
theorem key_c (e : S[h]? = some (rOb w)) (hw : rOk w) (hQ : ∀ k w', 0 ≤ k ∧ k ≤ 1000000000 → rOk w' → Q (.pd (.int k)) (S.set h (rOb w'))) : Ok (F_law_key [.obj h] S) Q := by
  have hh := lt_of_get e
  have c9 : CPow 10 9 := by decide
  have cm : ∀ i, CMul 65536 i := fun i => .inl (by decide)
  rw [F_law_key_e, fnF_e]
  unfold G_law_key
  simp -implicitDefEqProofs [startD, uLst, c9, cm]
  refine take_ok e hw (by omega) fun a1 w1 p1 q1 o1 => ?_
  refine take_set hh o1 (by omega) fun a2 w2 p2 q2 o2 => ?_
  refine take_set hh o2 (by omega) fun a3 w3 p3 q3 o3 => ?_
  simp -implicitDefEqProofs [c9, cm]
  refine take_set hh o3 (by omega) fun a4 w4 p4 q4 o4 => ?_
  simp -implicitDefEqProofs [c9, cm]
  refine take_set hh o4 (by omega) fun a5 w5 p5 q5 o5 => ?_
  refine ok_pick p5 (by simpa using q5) fun fd hf => ?_
  obtain ⟨k, rfl, f1, f2⟩ : ∃ k : Int, fd = .int k ∧ 0 ≤ k ∧ k ≤ 1000000000 := by
    simp only [List.mem_cons, List.not_mem_nil, or_false] at hf
    have lit : ∀ x : Int, 0 ≤ x ∧ x ≤ 1000000000 → fd = .int x → ∃ v : Int, fd = .int v ∧ 0 ≤ v ∧ v ≤ 1000000000 := fun x h e => ⟨x, e, h⟩
    rcases hf with h | h | h | h | h <;> exact lit _ (by omega) h
  rw [exitF_same (by simp), ok_some]
  exact hQ k w5 ⟨f1, f2⟩ o5
theorem worth_c (e : S[h]? = some (rOb w)) (hw : rOk w) (hQ : ∀ v w', -1000000000 ≤ v ∧ v ≤ 1000000000 → rOk w' → Q (.pd (.int v)) (S.set h (rOb w'))) : Ok (F_law_worth [.obj h] S) Q := by
  have hh := lt_of_get e
  have c9 : CPow 10 9 := by decide
  have cm : CMul 2 1000000000 := .inl (by decide)
  rw [F_law_worth_e, fnF_e]
  unfold G_law_worth
  simp -implicitDefEqProofs [startD, uLst, c9, cm]
  refine take_ok e hw (by omega) fun a1 w1 p1 q1 o1 => ?_
  simp -implicitDefEqProofs [c9]
  refine take_set hh o1 (by omega) fun a2 w2 p2 q2 o2 => ?_
  simp -implicitDefEqProofs
  refine take_set hh o2 (by omega) fun a3 w3 p3 q3 o3 => ?_
  refine ok_pick p3 (by simpa using q3) fun fd hf => ?_
  obtain ⟨k, rfl, f1, f2⟩ : ∃ k : Int, fd = .int k ∧ -1000000000 ≤ k ∧ k ≤ 1000000000 := by
    simp only [List.mem_cons, List.not_mem_nil, or_false] at hf
    have lit : ∀ x : Int, -1000000000 ≤ x ∧ x ≤ 1000000000 → fd = .int x → ∃ v : Int, fd = .int v ∧ -1000000000 ≤ v ∧ v ≤ 1000000000 := fun x h e => ⟨x, e, h⟩
    rcases hf with h | h | h | h | h <;> exact lit _ (by omega) h
  rw [exitF_same (by simp), ok_some]
  exact hQ k w3 ⟨f1, f2⟩ o3
theorem near_c {hk : Nat} {ks : List Int} (e : S[h]? = some (rOb w)) (hw : rOk w) (hne : h ≠ hk) (ek : S[hk]? = some (.lst (ks.map PyData.int))) (hr : ∀ k ∈ ks, 0 ≤ k ∧ k ≤ 1000000000) (hl : ks.length < 1000000) (hQ : ∀ k w', 0 ≤ k ∧ k ≤ 1000000000 → rOk w' → Q (.pd (.int k)) (S.set h (rOb w'))) : Ok (F_law_near_key [.obj h, .obj hk] S) Q := by
  have hh := lt_of_get e
  rw [F_law_near_key_e, fnF_e]
  unfold G_law_near_key
  have un := uNe_nil ek
  cases ks with
  | nil =>
    have un : uNe (.obj hk) (.pd (.list [])) S = some (.pd (.bool false), S) := un
    simp -implicitDefEqProofs [startD, un]
    refine ok_b (key_c e hw fun k w' hk hw' => ?_)
    rw [exitF_same (by simp), ok_some]
    exact hQ k w' hk hw'
  | cons k0 kr =>
    have un : uNe (.obj hk) (.pd (.list [])) S = some (.pd (.bool true), S) := un
    simp -implicitDefEqProofs [startD, un]
    refine take_ok e hw (by omega) fun v w1 v0 v1 hw1 => ?_
    have ek1 : (S.set h (rOb w1))[hk]? = some (.lst ((k0 :: kr).map PyData.int)) := get_set_ne hne ek
    by_cases hv : v = 0
    · simp -implicitDefEqProofs [hv, uLen_lst ek1]
      refine take_set hh hw1 (by simp at hl; omega) fun u w2 u0 u1 hw2 => ?_
      have ek2 : (S.set h (rOb w2))[hk]? = some (.lst ((k0 :: kr).map PyData.int)) := get_set_ne hne ek
      rw [uIx_obj ek2]
      obtain ⟨j, rfl⟩ : ∃ j : Nat, u = j := ⟨u.toNat, by omega⟩
      have hj : j < ((k0 :: kr).map PyData.int).length := by simp; omega
      rw [atI_in hj, List.getElem?_eq_getElem hj, List.getElem_map]
      simp -implicitDefEqProofs only [Option.map_some, bindR_some]
      rw [exitF_same (by simp), ok_some]
      exact hQ _ w2 (hr _ (List.getElem_mem _)) hw2
    · simp -implicitDefEqProofs [hv]
      refine ok_b (key_c (get_set_eq e) hw1 fun k w' hk hw' => ?_)
      rw [exitF_same (by simp), ok_some, List.set_set]
      exact hQ k w' hk hw'
end
end
end GS
set_option Elab.async false
set_option linter.all false
set_option maxRecDepth 100000
set_option maxHeartbeats 4000000
namespace TM
open PySem L2 PyProof.Rows DM
noncomputable section
/-! pairs put one behind the other -/
theorem putKD_new {r : List (Int × Int)} {k w : Int} (h : valD r k = none) : putKD r k w = r ++ [(k, w)] := by
  have e := any_val k r
  unfold putKD
  rw [e, h]
  rfl
theorem fold_len (mx : Int × Int) : ∀ (ps : List (Int × Int)) (R : Rows), (ps.foldl (fun R p => shPut mx R p.1 p.2) R).length = R.length
  | [], R => rfl
  | p :: ps, R => by
    rw [List.foldl_cons, fold_len mx ps, shPut_len]
theorem fold_rows {mx : Int × Int} : ∀ (ps : List (Int × Int)) (R : Rows), 0 < R.length → (keysOf ps).Nodup → (∀ k ∈ keysOf ps, shLook mx R k = none) → ∀ q, rowAt (ps.foldl (fun R p => shPut mx R p.1 p.2) R) q = rowAt R q ++ ps.filter fun p => decide (plc mx R.length p.1 = q)
  | [], R, _, _, _, q => by simp
  | p :: ps, R, hR, hn, hl, q => by
    have hn' := List.nodup_cons.mp hn
    have h0 := hl p.1 (List.mem_cons_self ..)
    have ih := fold_rows ps (shPut mx R p.1 p.2) (by rw [shPut_len]; exact hR) hn'.2 (fun k hk => by
      rw [look_put hR, if_neg fun z => hn'.1 (by
        have h2 : k ∈ keysOf ps := hk
        rw [z] at h2
        exact h2)]
      exact hl k (List.mem_cons_of_mem _ hk)) q
    rw [List.foldl_cons, ih, shPut_len]
    unfold shLook at h0
    unfold shPut
    rw [rowAt_set, putKD_new h0]
    by_cases hq : plc mx R.length p.1 = q
    · rw [if_pos ⟨hq, plc_lt hR⟩, List.filter_cons_of_pos (by simp [hq]), hq, List.append_assoc]
      rfl
    · rw [if_neg fun z => hq z.1, List.filter_cons_of_neg (by simp [hq])]
theorem rows_ext {a b : Rows} (hl : a.length = b.length) (h : ∀ q, q < a.length → rowAt a q = rowAt b q) : a = b := by
  apply List.ext_getElem hl
  intro i h1 h2
  have := h i h1
  simpa [rowAt, List.getD_eq_getElem?_getD, h1, h2] using this
/-- pairs whose keys lie where they are -/
structure Laid (mx : Int × Int) (rows : Rows) : Prop where
  pl : ∀ p k, k ∈ keysOf (rowAt rows p) → plc mx rows.length k = p
  nd : ∀ p, (keysOf (rowAt rows p)).Nodup
theorem ShI.laid {mx : Int × Int} {r : Rows × Int} (h : ShI mx r) : Laid mx r.1 := ⟨h.pl, h.nd⟩
theorem filter_flat {mx : Int × Int} {n m : Nat} {q : Nat} (f : Nat → Nat) (hf : ∀ k, plc mx m k = f (plc mx n k)) : ∀ (rows : Rows) (b : Nat), (∀ p k, k ∈ keysOf (rowAt rows p) → plc mx m k = b + p) → rows.flatten.filter (fun p => decide (plc mx n p.1 = q)) = if b ≤ f q then (rowAt rows (f q - b)).filter (fun p => decide (plc mx n p.1 = q)) else []
  | [], b, _ => by
    split <;> simp [rowAt]
  | x :: rows, b, hp => by
    have ih := filter_flat (q := q) f hf rows (b + 1) (fun p k hk => by
      have := hp (p + 1) k hk
      omega)
    rw [List.flatten_cons, List.filter_append, ih]
    have x0 : ∀ p ∈ x, plc mx m p.1 = b := fun p hpx => hp 0 p.1 (List.mem_map.mpr ⟨p, hpx, rfl⟩)
    by_cases hb : f q = b
    · rw [if_neg (by omega), if_pos (by omega), List.append_nil]
      rw [show f q - b = 0 by omega]
      rfl
    · have xf : x.filter (fun p => decide (plc mx n p.1 = q)) = [] := by
        rw [List.filter_eq_nil_iff]
        intro p hpx hq
        have : plc mx n p.1 = q := by simpa using hq
        have := x0 p hpx
        rw [hf, ‹plc mx n p.1 = q›] at this
        exact hb this
      rw [xf, List.nil_append]
      by_cases hb2 : b + 1 ≤ f q
      · rw [if_pos hb2, if_pos (by omega)]
        have : f q - b = (f q - (b + 1)) + 1 := by omega
        rw [this]
        rfl
      · rw [if_neg hb2, if_neg (by omega)]
theorem rowAt_ge {rows : Rows} {p : Nat} (h : rows.length ≤ p) : rowAt rows p = [] := by
  unfold rowAt
  rw [List.getD_eq_getElem?_getD, List.getElem?_eq_none h]
  rfl
theorem filter_all {mx : Int × Int} {n q : Nat} {r : List (Int × Int)} (h : ∀ k ∈ keysOf r, plc mx n k = q) : r.filter (fun p => decide (plc mx n p.1 = q)) = r := by
  rw [List.filter_eq_self]
  intro p hp
  simpa using h p.1 (List.mem_map.mpr ⟨p, hp, rfl⟩)
theorem flat_nd {mx : Int × Int} {rows : Rows} (h : Laid mx rows) : (keysOf rows.flatten).Nodup :=
  (flat_nd_aux (mx := mx) (n := rows.length) rows 0 (fun p k hk => by rw [h.pl p k hk]; omega) h.nd).1
/-- all pairs of rows put on an empty shelf of as many places: the same rows -/
theorem refill {mx : Int × Int} {rows : Rows} (h : Laid mx rows) (hr : 0 < rows.length) : rows.flatten.foldl (fun R p => shPut mx R p.1 p.2) (List.replicate rows.length []) = rows := by
  refine rows_ext (by rw [fold_len, List.length_replicate]) fun q hq => ?_
  rw [fold_rows _ _ (by rw [List.length_replicate]; exact hr) (flat_nd h) (fun k _ => by
    unfold shLook
    rw [rowAt_rep]
    rfl), rowAt_rep, List.nil_append, List.length_replicate]
  have := filter_flat (mx := mx) (n := rows.length) (m := rows.length) (q := q) id (fun _ => rfl) rows 0 (fun p k hk => by rw [h.pl p k hk]; omega)
  rw [this, if_pos (Nat.zero_le _)]
  exact filter_all fun k hk => h.pl q k hk
/-! a shelf and one of the double size -/
theorem plc_double {mx : Int × Int} {z : Nat} (k : Int) (hz : 0 < z) : plc mx z k = plc mx (2 * z) k % z := by
  have h1 := plc_cast (mx := mx) (k := k) hz
  have h2 := plc_cast (mx := mx) (k := k) (n := 2 * z) (by omega)
  have : (((plc mx (2 * z) k % z : Nat)) : Int) = ((plc mx z k : Nat) : Int) := by
    rw [← h1, Int.natCast_emod, ← h2]
    exact Int.emod_emod_of_dvd _ ⟨2, by omega⟩
  omega
def Par (mx : Int × Int) (z : Nat) (L G : Rows) : Prop := ∀ q, q < 2 * z → rowAt G q = (rowAt L (q % z)).filter fun p => decide (plc mx (2 * z) p.1 = q)
theorem filter_put {mx : Int × Int} {n q : Nat} {r : List (Int × Int)} {k w : Int} : (putKD r k w).filter (fun p => decide (plc mx n p.1 = q)) = if plc mx n k = q then putKD (r.filter fun p => decide (plc mx n p.1 = q)) k w else r.filter fun p => decide (plc mx n p.1 = q) := by
  have e1 := any_val k r
  have e2 := any_val k (r.filter fun p => decide (plc mx n p.1 = q))
  have hv : plc mx n k = q → (valD (r.filter fun p => decide (plc mx n p.1 = q)) k).isSome = (valD r k).isSome := fun hq => by
    rw [Bool.eq_iff_iff, val_keys, val_keys]
    unfold keysOf
    rw [List.mem_map, List.mem_map]
    constructor
    · rintro ⟨p, hp, e⟩
      exact ⟨p, (List.mem_filter.mp hp).1, e⟩
    · rintro ⟨p, hp, e⟩
      exact ⟨p, List.mem_filter.mpr ⟨hp, by simp [e, hq]⟩, e⟩
  unfold putKD
  rw [e1, e2]
  cases hr : (valD r k).isSome with
  | true =>
    simp only [if_true]
    rw [List.filter_map]
    have ec : ((fun p : Int × Int => decide (plc mx n p.1 = q)) ∘ fun kv : Int × Int => if kv.1 = k then (kv.1, w) else kv) = fun p : Int × Int => decide (plc mx n p.1 = q) := by
      funext p
      by_cases hp : p.1 = k <;> simp [hp]
    rw [ec]
    by_cases hq : plc mx n k = q
    · rw [if_pos hq, hv hq, hr]
      simp
    · rw [if_neg hq]
      refine Eq.trans (List.map_congr_left (g := id) fun p hp => ?_) (List.map_id _)
      have := (List.mem_filter.mp hp).2
      have hpk : ¬ p.1 = k := fun z => hq (by simpa [z] using this)
      simp [hpk]
  | false =>
    simp only [Bool.false_eq_true, if_false]
    rw [List.filter_append]
    by_cases hq : plc mx n k = q
    · rw [if_pos hq, hv hq, hr]
      simp [hq]
    · rw [if_neg hq]
      simp [hq]
theorem filter_drop {mx : Int × Int} {n q : Nat} {r : List (Int × Int)} {k : Int} : (dropKD r k).filter (fun p => decide (plc mx n p.1 = q)) = dropKD (r.filter fun p => decide (plc mx n p.1 = q)) k := by
  unfold dropKD
  rw [List.filter_filter, List.filter_filter]
  congr 1
  funext p
  exact Bool.and_comm _ _
theorem par_put {mx : Int × Int} {z : Nat} {L G : Rows} {k w : Int} (hz : 0 < z) (hL : L.length = z) (hG : G.length = 2 * z) (h : Par mx z L G) : Par mx z (shPut mx L k w) (shPut mx G k w) := fun q hq => by
  have hd := plc_double (mx := mx) k hz
  have hl := plc_lt (mx := mx) (n := 2 * z) (k := k) (by omega)
  have hl2 := plc_lt (mx := mx) (n := z) (k := k) (by omega)
  unfold shPut
  rw [rowAt_set, rowAt_set, hL, hG]
  by_cases e1 : plc mx (2 * z) k = q
  · rw [if_pos ⟨e1, by omega⟩, if_pos ⟨by rw [hd, e1], by omega⟩, filter_put, if_pos e1, h _ hl, ← hd, e1]
  · rw [if_neg fun z => e1 z.1, h q hq]
    by_cases e2 : plc mx z k = q % z
    · rw [if_pos ⟨e2, by omega⟩, filter_put, if_neg e1, e2]
    · rw [if_neg fun z => e2 z.1]
theorem par_cut {mx : Int × Int} {z : Nat} {L G : Rows} {k : Int} (hz : 0 < z) (hL : L.length = z) (hG : G.length = 2 * z) (h : Par mx z L G) : Par mx z (shCut mx L k) (shCut mx G k) := fun q hq => by
  have hd := plc_double (mx := mx) k hz
  have hl := plc_lt (mx := mx) (n := 2 * z) (k := k) (by omega)
  have hl2 := plc_lt (mx := mx) (n := z) (k := k) (by omega)
  unfold shCut
  rw [rowAt_set, rowAt_set, hL, hG]
  by_cases e1 : plc mx (2 * z) k = q
  · rw [if_pos ⟨e1, by omega⟩, if_pos ⟨by rw [hd, e1], by omega⟩, filter_drop, h _ hl, ← hd, e1]
  · rw [if_neg fun z => e1 z.1, h q hq]
    by_cases e2 : plc mx z k = q % z
    · rw [if_pos ⟨e2, by omega⟩, filter_drop, e2]
      unfold dropKD
      rw [List.filter_filter]
      apply List.filter_congr
      intro p _
      by_cases hp : p.1 = k
      · have : ¬ plc mx (2 * z) p.1 = q := by rw [hp]; exact e1
        simp [this]
      · simp [hp]
    · rw [if_neg fun z => e2 z.1]
theorem valD_filter {f : Int → Bool} {k : Int} (hf : f k = true) : ∀ r : List (Int × Int), valD (r.filter fun p => f p.1) k = valD r k
  | [] => rfl
  | p :: r => by
    have ih := valD_filter hf r
    by_cases hp : p.1 = k
    · rw [List.filter_cons_of_pos (by rw [hp]; exact hf)]
      simp [valD, hp]
    · have e : valD (p :: r) k = valD r k := by simp [valD, hp]
      rw [e, ← ih]
      by_cases hq : f p.1 = true
      · rw [List.filter_cons_of_pos (p := fun p : Int × Int => f p.1) hq]
        simp [valD, hp]
      · rw [List.filter_cons_of_neg (p := fun p : Int × Int => f p.1) hq]
theorem par_look {mx : Int × Int} {z : Nat} {L G : Rows} (hz : 0 < z) (hL : L.length = z) (hG : G.length = 2 * z) (h : Par mx z L G) (k : Int) : shLook mx G k = shLook mx L k := by
  have hl := plc_lt (mx := mx) (n := 2 * z) (k := k) (by omega)
  unfold shLook
  rw [hG, h _ hl, ← plc_double k hz, hL]
  exact valD_filter (f := fun k' => decide (plc mx (2 * z) k' = plc mx (2 * z) k)) (by simp) _
theorem newC_eq {mx : Int × Int} {L G : Rows} {k : Int} (h : shLook mx G k = shLook mx L k) : newC mx G k = newC mx L k := by
  unfold newC
  rw [h]
/-! a shelf on which pairs are put -/
def put1S (mx : Int × Int) (r : Rows × Int) (p : Int × Int) : Rows × Int := (shPut mx r.1 p.1 p.2, r.2 + newC mx r.1 p.1)
def foldS (mx : Int × Int) (ps : List (Int × Int)) (r : Rows × Int) : Rows × Int := ps.foldl (put1S mx) r
theorem foldS_fst (mx : Int × Int) : ∀ (ps : List (Int × Int)) (r : Rows × Int), (foldS mx ps r).1 = ps.foldl (fun R p => shPut mx R p.1 p.2) r.1
  | [], r => rfl
  | p :: ps, r => foldS_fst mx ps (put1S mx r p)
theorem foldS_sh {mx : Int × Int} : ∀ (ps : List (Int × Int)) (r : Rows × Int), ShI mx r → ShI mx (foldS mx ps r)
  | [], r, h => h
  | p :: ps, r, h => foldS_sh ps _ (h.put p.1 p.2)
theorem foldS_len {mx : Int × Int} (ps : List (Int × Int)) (r : Rows × Int) : (foldS mx ps r).1.length = r.1.length := by
  rw [foldS_fst, fold_len]
theorem foldS_app {mx : Int × Int} (ps qs : List (Int × Int)) (r : Rows × Int) : foldS mx (ps ++ qs) r = foldS mx qs (foldS mx ps r) := List.foldl_append
theorem foldS_cnt {mx : Int × Int} : ∀ (ps : List (Int × Int)) (r : Rows × Int), 0 < r.1.length → (keysOf ps).Nodup → (∀ k ∈ keysOf ps, shLook mx r.1 k = none) → (foldS mx ps r).2 = r.2 + ps.length
  | [], r, _, _, _ => by simp [foldS]
  | p :: ps, r, hr, hn, hl => by
    have hn' := List.nodup_cons.mp hn
    have h0 := hl p.1 (List.mem_cons_self ..)
    have ih := foldS_cnt ps (put1S mx r p) (by unfold put1S; rw [shPut_len]; exact hr) hn'.2 (fun k hk => by
      unfold put1S
      simp only
      rw [look_put hr, if_neg fun z => hn'.1 (by
        have h2 : k ∈ keysOf ps := hk
        rw [z] at h2
        exact h2)]
      exact hl k (List.mem_cons_of_mem _ hk))
    have e : foldS mx (p :: ps) r = foldS mx ps (put1S mx r p) := rfl
    rw [e, ih]
    unfold put1S newC
    rw [h0]
    simp
    omega
theorem foldS_ln {mx : Int × Int} : ∀ (ps : List (Int × Int)) (r : Rows × Int), ShI mx r → (foldS mx ps r).1.flatten.length ≤ r.1.flatten.length + ps.length
  | [], r, _ => Nat.le_refl _
  | p :: ps, r, h => by
    have ih := foldS_ln ps (put1S mx r p) (h.put p.1 p.2)
    have a := h.ct
    have b := (h.put p.1 p.2).ct
    simp only at b
    rw [tot_flat] at a b
    have c : (put1S mx r p).1.flatten.length ≤ r.1.flatten.length + 1 := by
      unfold put1S
      simp only
      unfold newC at b
      split at b <;> omega
    have e : foldS mx (p :: ps) r = foldS mx ps (put1S mx r p) := rfl
    rw [e, List.length_cons]
    omega
theorem rep_look {mx : Int × Int} {n : Nat} {k : Int} : shLook mx (List.replicate n []) k = none := by
  unfold shLook
  rw [rowAt_rep]
  rfl
/-- a shelf of the double size with all its pairs -/
theorem par_refill {mx : Int × Int} {z : Nat} {L : Rows × Int} (h : ShI mx L) (hl : L.1.length = z) (hz : 0 < z) : Par mx z L.1 (foldS mx L.1.flatten (List.replicate (2 * z) [], 0)).1 ∧ (foldS mx L.1.flatten (List.replicate (2 * z) [], 0)).2 = L.2 := by
  refine ⟨fun q hq => ?_, ?_⟩
  · rw [foldS_fst, fold_rows _ _ (by simp; omega) (flat_nd h.laid) (fun k _ => rep_look), rowAt_rep, List.nil_append, List.length_replicate]
    have := filter_flat (mx := mx) (n := 2 * z) (m := z) (q := q) (· % z) (fun k => plc_double k hz) L.1 0 (fun p k hk => by rw [← hl, h.pl p k hk]; omega)
    rw [this, if_pos (Nat.zero_le _)]
    rfl
  · rw [foldS_cnt _ _ (by simp; omega) (flat_nd h.laid) (fun k _ => rep_look), h.ct, tot_flat]
    omega
end
end TM
set_option Elab.async false
set_option linter.all false
set_option maxRecDepth 100000
set_option maxHeartbeats 4000000
namespace PS
open PySem L2 PyProof.Rows DM TM PG
noncomputable section
/-! shelves at the law's level: steps of a run -/
structure ShOk (mx : Int × Int) (r : Rows × Int) : Prop where
  mo : mxOk mx
  sh : ShI mx r
  ln : r.1.flatten.length ≤ 1000000
theorem ShOk.row {mx : Int × Int} {r : Rows × Int} (h : ShOk mx r) (p : Nat) : (rowAt r.1 p).length ≤ 1000000 := Nat.le_trans (rowAt_tot r.1 p) h.ln
section
variable {β : Type} {mx : Int × Int} {r : Rows × Int} {h n : Nat} {fo : DEnv → M Val} {fa : DEnv → M (List Val)} {ρ : DEnv} {S S0 : Store} {kk : Val → M β} {Q : β → Store → Prop}
theorem sput_ok {k v : Int} (eo : fo ρ S0 = some (.obj h, S)) (e : S[h]? = some (boxS mx r)) (ok : ShOk mx r) (ea : fa ρ S = some ([.pd (.int k), .pd (.int v)], S)) (hk : Ok (kk (.pd (optD (shLook mx r.1 k))) (S.set h (boxS mx (shPut mx r.1 k v, r.2 + newC mx r.1 k)))) Q) : Ok (bindR (eMethB nz0 0 "put" F_shelf_put 3 fo fa ρ S0) kk) Q := by
  have hr := ok.row (plc mx r.1.length k)
  rw [meth_sh (m := "put") (F := F_shelf_put) (n := 3) (ys := [.int k, .int v]) (r2 := (shPut mx r.1 k v, r.2 + newC mx r.1 k)) eo e no_put ea rfl (put_eq ok.mo ok.sh.pos (by omega)) nrm_nz0, bindR_some]
  exact hk
theorem scut_ok {k : Int} (eo : fo ρ S0 = some (.obj h, S)) (e : S[h]? = some (boxS mx r)) (ok : ShOk mx r) (ea : fa ρ S = some ([.pd (.int k)], S)) (hk : Ok (kk (.pd (optD (shLook mx r.1 k))) (S.set h (boxS mx (cutR mx r k)))) Q) : Ok (bindR (eMethB nz0 0 "cut" F_shelf_cut 2 fo fa ρ S0) kk) Q := by
  rw [meth_sh (m := "cut") (F := F_shelf_cut) (n := 2) (ys := [.int k]) (r2 := cutR mx r k) eo e no_cut ea rfl (cut_eq' ok.mo ok.sh.pos) nrm_nz0, bindR_some]
  exact hk
theorem slook_ok {k : Int} (eo : fo ρ S0 = some (.obj h, S)) (e : S[h]? = some (boxS mx r)) (ok : ShOk mx r) (ea : fa ρ S = some ([.pd (.int k)], S)) (hk : Ok (kk (.pd (optD (shLook mx r.1 k))) S) Q) : Ok (bindR (eMethB nz0 0 "look" F_shelf_look 2 fo fa ρ S0) kk) Q := by
  rw [meth_sh (m := "look") (F := F_shelf_look) (n := 2) (ys := [.int k]) (r2 := r) eo e no_look ea rfl (look_eq ok.mo ok.sh.pos) nrm_nz0, bindR_some, set_same e]
  exact hk
theorem srow_ok {p : Nat} (eo : fo ρ S0 = some (.obj h, S)) (e : S[h]? = some (boxS mx r)) (hp : p < r.1.length) (ea : fa ρ S = some ([.pd (.int p)], S)) (hk : Ok (kk (.pd (.list (pairs (rowAt r.1 p)))) S) Q) : Ok (bindR (eMethB nz0 0 "row" F_shelf_row 2 fo fa ρ S0) kk) Q := by
  rw [meth_sh (m := "row") (F := F_shelf_row) (n := 2) (ys := [.int p]) (r2 := r) eo e (by rfl) ea rfl (row_eq hp) nrm_nz0, bindR_some, set_same e]
  exact hk
theorem sempty_ok {p : Nat} (eo : fo ρ S0 = some (.obj h, S)) (e : S[h]? = some (boxS mx r)) (hp : p < r.1.length) (ea : fa ρ S = some ([.pd (.int p)], S)) (hk : Ok (kk (.pd (.list (pairs (rowAt r.1 p)))) (S.set h (boxS mx (elE r p)))) Q) : Ok (bindR (eMethB nzS 0 "empty" F_shelf_empty 2 fo fa ρ S0) kk) Q := by
  obtain ⟨T', e1, e2⟩ := empty_eq (mx := mx) (rows := r.1) (cnt := r.2) hp
  rw [meth_sh (m := "empty") (F := F_shelf_empty) (n := 2) (ys := [.int p]) (r2 := elE r p) eo e no_empty ea rfl e1 e2, bindR_some]
  exact hk
theorem smany_ok (eo : fo ρ S0 = some (.obj h, S)) (e : S[h]? = some (boxS mx r)) (hk : Ok (kk (.pd (.int r.2)) S) Q) : Ok (bindR (eMethB nz0 0 "many" F_shelf_many 1 fo aNil ρ S0) kk) Q := by
  rw [meth_sh (m := "many") (F := F_shelf_many) (n := 1) (fa := aNil) (ys := []) (r2 := r) eo e no_many rfl rfl many_eq nrm_nz0, bindR_some, set_same e]
  exact hk
theorem ssize_ok (eo : fo ρ S0 = some (.obj h, S)) (e : S[h]? = some (boxS mx r)) (hk : Ok (kk (.pd (.int r.1.length)) S) Q) : Ok (bindR (eMethB nz0 0 "size" F_shelf_size 1 fo aNil ρ S0) kk) Q := by
  rw [meth_sh (m := "size") (F := F_shelf_size) (n := 1) (fa := aNil) (ys := []) (r2 := r) eo e no_size rfl rfl size_eq nrm_nz0, bindR_some, set_same e]
  exact hk
theorem newsh_eq {n : Nat} (hn : (n : Int) ∈ SZ) (ea : fa ρ S0 = some ([.pd (.int n), .pd (pr mx)], S)) : eMakeB nz0 0 F_shelf_init 3 fa ρ S0 = some (.obj S.length, S ++ [boxS mx (List.replicate n [], 0)]) :=
  makeB_eq (ys := [.int n, pr mx]) ea rfl (init_eq hn) nrm_nz0
theorem newsh_ok {n : Nat} (hn : (n : Int) ∈ SZ) (ea : fa ρ S0 = some ([.pd (.int n), .pd (pr mx)], S)) (hk : Ok (kk (.obj S.length) (S ++ [boxS mx (List.replicate n [], 0)])) Q) : Ok (bindR (eMakeB nz0 0 F_shelf_init 3 fa ρ S0) kk) Q := by
  rw [newsh_eq hn ea, bindR_some]
  exact hk
end
end
end PS
set_option Elab.async false
set_option linter.all false
set_option maxRecDepth 100000
set_option maxHeartbeats 4000000
namespace PS
open PySem L2 PyProof.Rows DM TM PG
noncomputable section
/-! state, sizes, touched -/
theorem rng_nat {n : Nat} {S : Store} (h : n ≤ 100000) : rng1 (.pd (.int n)) S = some (⟨(List.range n).map fun i : Nat => Val.pd (.int i), none⟩, S) := by
  have e1 : -(2 ^ 62) ≤ (n : Int) := by omega
  have e2 : (n : Int) < 2 ^ 62 := by omega
  rw [rng1_int, if_pos ⟨e1, e2⟩, Int.toNat_natCast]
  unfold rgI
  simp
theorem rows_of_eq {S : Store} {mx : Int × Int} {r : Rows × Int} {h : Nat} (e : S[h]? = some (boxS mx r)) (hl : r.1.length ≤ 100000) : F_rows_of [.obj h] S = some (.pd (rowsD r.1), S) := by
  have m1 := meth_sh (nz := nz0) (F := F_shelf_size) (n := 1) (m := "size") (ρ := [some (.obj h), none]) (fo := eVar 0) (fa := aNil) (S := S) (S1 := S) (ys := []) (r2 := r) rfl e no_size rfl rfl size_eq nrm_nz0
  rw [set_same e] at m1
  have m2 : ∀ p : Nat, p < r.1.length → eMethB nz0 0 "row" F_shelf_row 2 (eVar 0) (aCons (eVar 1) aNil) [some (.obj h), some (.pd (.int p))] S = some (.pd (.list (pairs (rowAt r.1 p))), S) := fun p hp => by
    have := meth_sh (nz := nz0) (F := F_shelf_row) (n := 2) (m := "row") (ρ := [some (.obj h), some (.pd (.int p))]) (fo := eVar 0) (fa := aCons (eVar 1) aNil) (S := S) (S1 := S) (ys := [.int p]) (r2 := r) rfl e (by rfl) rfl rfl (row_eq hp) nrm_nz0
    rw [set_same e] at this
    exact this
  have t : ∀ xs, uTuple [.pd (.list xs)] S = some (.pd (.tuple xs), S) := fun xs => by simp [uTuple, seqP, getL]
  have lc := loopC_map (S := S) (gg := nName 1) (ft := tYesD) (fe := eA uTuple (aCons (eMethB nz0 0 "row" F_shelf_row 2 (eVar 0) (aCons (eVar 1) aNil)) aNil)) (ρ := [some (.obj h), none]) (g := fun i : Nat => Val.pd (.int (i : Int))) (f := fun i : Nat => PyData.tuple (pairs (rowAt r.1 i))) (List.range r.1.length) [] (fun p hp => by
    rw [List.mem_range] at hp
    simp [m2 p hp, t]) (by simp; omega)
  rw [F_rows_of_e, fnF_e]
  unfold G_rows_of
  simp -implicitDefEqProofs [startD, m1, rng_nat hl, lc, t]
  rw [show ((List.range r.1.length).map fun i : Nat => PyData.tuple (pairs (rowAt r.1 i))) = r.1.map fun r => PyData.tuple (pairs r) from range_rows]
  exact exitF_same rfl
theorem tstate_eq {S : Store} {e : Option Nat} {n s : Nat} {t : TSt} (T : TS S e n s t) (hn : t.newer.1.length ≤ 100000) (he : ∀ el, t.elder = some el → el.1.length ≤ 100000) : F_table_state [.obj 0] S = some (.pd (stateD t), S) := by
  have fe : uFld 1 "elder" (.obj 0) S = some (eV e, S) := uFld_get T.h0 tl.2.2.1
  have fn : uFld 1 "newer" (.obj 0) S = some (.obj n, S) := uFld_get T.h0 tl.2.2.2.2.1
  have fm : uFld 1 "moved" (.obj 0) S = some (.pd (.int t.moved), S) := uFld_get T.h0 tl.2.2.2.1
  have r1 := rows_of_eq T.hn hn
  rw [F_table_state_e, fnF_e]
  unfold G_table_state stateD
  rcases T.he with ⟨rfl, ee⟩ | ⟨h, el, rfl, ee, hh, hne⟩
  · have fe' : uFld 1 "elder" (.obj 0) S = some (.pd .none, S) := fe
    rw [ee]
    simp -implicitDefEqProofs [startD, fe', fn, fm, r1, uTup, exitF_same]
  · have fe' : uFld 1 "elder" (.obj 0) S = some (.obj h, S) := fe
    have r2 := rows_of_eq hh (he el ee)
    rw [ee]
    simp -implicitDefEqProofs [startD, fe', fn, fm, r1, r2, uTup, exitF_same]
theorem tsizes_eq {S : Store} {e : Option Nat} {n s : Nat} {t : TSt} (T : TS S e n s t) : F_table_sizes [.obj 0] S = some (.pd (sizesD t), S) := by
  have fe : uFld 1 "elder" (.obj 0) S = some (eV e, S) := uFld_get T.h0 tl.2.2.1
  have fn : uFld 1 "newer" (.obj 0) S = some (.obj n, S) := uFld_get T.h0 tl.2.2.2.2.1
  have m1 := meth_sh (nz := nz0) (F := F_shelf_size) (n := 1) (m := "size") (ρ := [some (.obj 0)]) (fo := eFld 1 "newer" (eVar 0)) (fa := aNil) (S := S) (S1 := S) (ys := []) (r2 := t.newer) (by simp [fn]) T.hn no_size rfl rfl size_eq nrm_nz0
  rw [set_same T.hn] at m1
  rw [F_table_sizes_e, fnF_e]
  unfold G_table_sizes sizesD
  rcases T.he with ⟨rfl, he⟩ | ⟨h, el, rfl, he, hh, hne⟩
  · have fe' : uFld 1 "elder" (.obj 0) S = some (.pd .none, S) := fe
    rw [he]
    simp -implicitDefEqProofs [startD, fe', m1, uTup, exitF_same]
  · have fe' : uFld 1 "elder" (.obj 0) S = some (.obj h, S) := fe
    have m2 := meth_sh (nz := nz0) (F := F_shelf_size) (n := 1) (m := "size") (ρ := [some (.obj 0)]) (fo := eFld 1 "elder" (eVar 0)) (fa := aNil) (S := S) (S1 := S) (ys := []) (r2 := el) (by simp [fe']) hh no_size rfl rfl size_eq nrm_nz0
    rw [set_same hh] at m2
    rw [he]
    simp -implicitDefEqProofs [startD, fe', m1, m2, uTup, exitF_same]
theorem ttouched_eq {S : Store} {e : Option Nat} {n s : Nat} {t : TSt} (T : TS S e n s t) : F_table_touched [.obj 0] S = some (.pd (.int t.spots.length), S) := by
  have fs : uFld 1 "spots" (.obj 0) S = some (.obj s, S) := uFld_get T.h0 tl.2.2.2.2.2
  have l : uLen [.obj s] S = some (.pd (.int t.spots.length), S) := by simp [uLen, T.hs]
  rw [F_table_touched_e, fnF_e]
  unfold G_table_touched
  simp [startD, fs, l, exitF_same]
section
variable {t : TSt} {h : Nat} {fo : DEnv → M Val} {ρ : DEnv} {S S1 : Store}
/-- a method that only reads, at the law's level -/
theorem read_tab {m : Str} {F : List Val → M Val} {d : PyData} (hm : ∀ e n s, (fsT t.mx t.pace e t.moved n s).lookup m = none) (hF : ∀ S e n s, TS S e n s t → F [.obj 0] S = some (.pd d, S)) (eo : fo ρ S = some (.obj h, S1)) (e : S1[h]? = some (boxT t)) : eMethB nz0 1 m F 1 fo aNil ρ S = some (.pd d, S1) := by
  obtain ⟨e', n, s, T⟩ := ts_tab t
  have := meth_box (nz := nz0) (c := 1) (m := m) (F := F) (n := 1) (fa := aNil) (ys := []) eo e (head_tab hm) rfl e rfl (hF _ _ _ _ T) nrm_nz0
  rw [this]
  rw [show S1.set h (mkBox (tabT t)) = S1 from set_same e]
theorem state_tab (ti : TI t) (eo : fo ρ S = some (.obj h, S1)) (e : S1[h]? = some (boxT t)) : eMethB nz0 1 "state" F_table_state 1 fo aNil ρ S = some (.pd (stateD t), S1) :=
  read_tab (fun _ _ _ => rfl) (fun S e n s T => tstate_eq T (by have := sz_mem ti.nw.sz; omega) fun el he => by have := sz_mem (ti.el el he).1.sz; omega) eo e
theorem sizes_tab (eo : fo ρ S = some (.obj h, S1)) (e : S1[h]? = some (boxT t)) : eMethB nz0 1 "sizes" F_table_sizes 1 fo aNil ρ S = some (.pd (sizesD t), S1) :=
  read_tab (fun _ _ _ => rfl) (fun S e n s T => tsizes_eq T) eo e
theorem touched_tab (eo : fo ρ S = some (.obj h, S1)) (e : S1[h]? = some (boxT t)) : eMethB nz0 1 "touched" F_table_touched 1 fo aNil ρ S = some (.pd (.int t.spots.length), S1) :=
  read_tab (fun _ _ _ => rfl) (fun S e n s T => ttouched_eq T) eo e
end
/-! the deeds and what is read, as steps of a run at the law's level -/
section
variable {β : Type} {t : TSt} {h n : Nat} {fo : DEnv → M Val} {fa : DEnv → M (List Val)} {ρ : DEnv} {S S0 : Store} {kk : Val → M β} {Q : β → Store → Prop}
theorem put_ok {k v : Int} (eo : fo ρ S0 = some (.obj h, S)) (e : S[h]? = some (boxT t)) (ft : Fit t) (ea : fa ρ S = some ([.pd (.int k), .pd (.int v)], S)) (hk : Ok (kk (.pd (optD (t.get k))) (S.set h (boxT (t.putD k v)))) Q) : Ok (bindR (eMethB nzT 1 "put" F_table_put 3 fo fa ρ S0) kk) Q := by
  rw [meth_tab (m := "put") (F := F_table_put) (n := 3) (ys := [.int k, .int v]) eo e (fun _ _ _ => rfl) ea rfl (tb_put (v := v) (ft.rdy k)), bindR_some, told_get ft.ti]
  exact hk
theorem cut_ok {k : Int} (eo : fo ρ S0 = some (.obj h, S)) (e : S[h]? = some (boxT t)) (ft : Fit t) (ea : fa ρ S = some ([.pd (.int k)], S)) (hk : Ok (kk (.pd (optD (t.get k))) (S.set h (boxT (t.cutD k)))) Q) : Ok (bindR (eMethB nzT 1 "cut" F_table_cut 2 fo fa ρ S0) kk) Q := by
  rw [meth_tab (m := "cut") (F := F_table_cut) (n := 2) (ys := [.int k]) eo e (fun _ _ _ => rfl) ea rfl (tb_cut (ft.rdy k)), bindR_some, told_get ft.ti]
  exact hk
theorem look_ok {k : Int} (eo : fo ρ S0 = some (.obj h, S)) (e : S[h]? = some (boxT t)) (ft : Fit t) (ea : fa ρ S = some ([.pd (.int k)], S)) (hk : Ok (kk (.pd (optD (t.get k))) (S.set h (boxT (t.lookD k)))) Q) : Ok (bindR (eMethB nzT 1 "look" F_table_look 2 fo fa ρ S0) kk) Q := by
  rw [meth_tab (m := "look") (F := F_table_look) (n := 2) (ys := [.int k]) eo e (fun _ _ _ => rfl) ea rfl (tb_look (ft.rdy k)), bindR_some, told_get ft.ti]
  exact hk
theorem eVar_at {i : Nat} {v : Val} (e : ρ[i]? = some (some v)) : eVar i ρ S = some (v, S) := by simp [eVar, e]
theorem state_v (ti : TI t) (e : S[h]? = some (boxT t)) (i : Nat) (ρ : DEnv) (hv : ρ[i]? = some (some (.obj h))) : eMethB nz0 1 "state" F_table_state 1 (eVar i) aNil ρ S = some (.pd (stateD t), S) := state_tab ti (eVar_at hv) e
theorem sizes_v (e : S[h]? = some (boxT t)) (i : Nat) (ρ : DEnv) (hv : ρ[i]? = some (some (.obj h))) : eMethB nz0 1 "sizes" F_table_sizes 1 (eVar i) aNil ρ S = some (.pd (sizesD t), S) := sizes_tab (eVar_at hv) e
theorem touched_v (e : S[h]? = some (boxT t)) (i : Nat) (ρ : DEnv) (hv : ρ[i]? = some (some (.obj h))) : eMethB nz0 1 "touched" F_table_touched 1 (eVar i) aNil ρ S = some (.pd (.int t.spots.length), S) := touched_tab (eVar_at hv) e
theorem many_v (ti : TI t) (e : S[h]? = some (boxT t)) (i : Nat) (ρ : DEnv) (hv : ρ[i]? = some (some (.obj h))) : eMethB nz0 1 "many" F_table_many 1 (eVar i) aNil ρ S = some (.pd (.int t.pairs.length), S) := by
  rw [← ti.count]
  exact many_tab (eVar_at hv) e
theorem newtab_ok {mx : Int × Int} {pace : Nat} (ea : fa ρ S = some ([.pd (pr mx), .pd (.int pace), .pd .none], S)) (hk : Ok (kk (.obj S.length) (S ++ [boxT (newT mx pace)])) Q) : Ok (bindR (eMakeB nzT 1 F_table_init 4 fa ρ S) kk) Q := by
  rw [newtab_eq ea, bindR_some]
  exact hk
end
end
end PS
set_option Elab.async false
set_option linter.all false
set_option maxRecDepth 100000
set_option maxHeartbeats 4000000
namespace TM
open PySem L2 PyProof.Rows DM
noncomputable section
/-! a table's bones: the sizes, and how many places are moved -/
structure Bn where
  e : Option Nat
  m : Nat
  n : Nat
def TSt.bn (t : TSt) : Bn := ⟨t.elder.map fun r => r.1.length, t.moved, t.newer.1.length⟩
def Bn.turn (b : Bn) : Bn := match b.e with
  | none => b
  | some e => if b.m + 1 = e then ⟨none, 0, b.n⟩ else ⟨some e, b.m + 1, b.n⟩
def Bn.goN : Nat → Bn → Bn
  | 0, b => b
  | k + 1, b => Bn.goN k b.turn
def Bn.bgn (c : Nat) (b : Bn) : Bn := match b.e with
  | none => if b.n < c ∧ b.n < 4096 then ⟨some b.n, b.m, 2 * b.n⟩ else if 8 * c < b.n ∧ 4 < b.n then ⟨some b.n, b.m, b.n / 2⟩ else b
  | some _ => b
theorem bn_turn (t : TSt) : t.turn.bn = t.bn.turn := by
  unfold TSt.turn Bn.turn TSt.bn
  cases he : t.elder with
  | none => simp [he]
  | some el =>
    have a := fold_mx (rowAt el.1 t.moved) (t.mvS el)
    have a4 : (t.mv1 el).newer.1.length = t.newer.1.length := a.2.2.2.2
    have a3 : (t.mv1 el).elder = some (elE el t.moved) := a.2.2.1
    have am : (t.mv1 el).moved = t.moved + 1 := rfl
    simp only [Option.map_some]
    split
    · simp [a4]
    · simp [a3, a4, am, elE]
theorem bn_goN : ∀ (k : Nat) (t : TSt), (TSt.goN k t).bn = t.bn.goN k
  | 0, t => rfl
  | k + 1, t => by
    rw [TSt.goN, bn_goN k, bn_turn]
    rfl
theorem bn_home (t : TSt) (k : Int) : (t.home k).bn = t.bn := by
  unfold TSt.home
  split
  · rfl
  · split <;> rfl
theorem bn_ahead (t : TSt) (k : Int) : (t.ahead k).bn = t.bn.goN t.pace := by
  unfold TSt.ahead
  rw [bn_home, bn_goN]
  rfl
theorem bn_put1 {t : TSt} {k : Int} {r : Rows × Int} (h : r.1.length = (t.shelf k).1.length) : (t.put1 k r).bn = t.bn := by
  unfold TSt.put1
  unfold TSt.shelf at h
  cases ha : t.atE k with
  | false =>
    rw [ha] at h
    simp only [Bool.false_eq_true, if_false] at h ⊢
    unfold TSt.bn
    simp [h]
  | true =>
    rw [ha] at h
    simp only [if_true] at h ⊢
    unfold TSt.atE at ha
    cases he : t.elder with
    | none => rw [he] at ha; cases ha
    | some el =>
      rw [he] at h
      unfold TSt.bn
      simp [h, he]
theorem bn_bgn {t : TSt} (h : TI t) : t.bgn.bn = t.bn.bgn t.pairs.length := by
  have hc := h.count
  unfold TSt.bgn TSt.further Bn.bgn TSt.bn
  cases he : t.elder with
  | some el => simp [he]
  | none =>
    have e2 : t.newer.2 = t.pairs.length := by
      rw [← hc]
      unfold TSt.count
      rw [he]
    rw [e2]
    simp only [Option.map_none]
    by_cases c1 : t.newer.1.length < t.pairs.length ∧ t.newer.1.length < 4096
    · have c1' : (t.newer.1.length : Int) < (t.pairs.length : Nat) ∧ t.newer.1.length < 4096 := ⟨by omega, c1.2⟩
      simp [c1, c1']
    · have c1' : ¬ ((t.newer.1.length : Int) < (t.pairs.length : Nat) ∧ t.newer.1.length < 4096) := fun z => c1 ⟨by omega, z.2⟩
      rw [if_neg c1', if_neg c1]
      by_cases c2 : 8 * t.pairs.length < t.newer.1.length ∧ 4 < t.newer.1.length
      · have c2' : 8 * ((t.pairs.length : Nat) : Int) < t.newer.1.length ∧ 4 < t.newer.1.length := ⟨by omega, c2.2⟩
        simp [c2, c2']
      · have c2' : ¬ (8 * ((t.pairs.length : Nat) : Int) < t.newer.1.length ∧ 4 < t.newer.1.length) := fun z => c2 ⟨by omega, z.2⟩
        rw [if_neg c2', if_neg c2]
        simp [he]
/-- a table ahead of a deed's last step -/
theorem deed_pre {t : TSt} (h : TI t) (d : Deed) : ∃ t', t.deed d = t'.bgn ∧ TI t' ∧ (∀ k, t'.get k = (t.deed d).get k) ∧ t'.bn = t.bn.goN t.pace := by
  cases d with
  | put k v =>
    obtain ⟨a, b, c, e⟩ := ahead_ti h k
    have D := deed_put (shelf_ok a k) k v
    exact ⟨_, rfl, a.put1 D, fun k' => (bgn_get k').symm, (bn_put1 D.l).trans (bn_ahead t k)⟩
  | look k =>
    obtain ⟨a, b, c, e⟩ := ahead_ti h k
    have D := deed_same (shelf_ok a k) k
    exact ⟨_, rfl, a.put1 D, fun k' => (bgn_get k').symm, (bn_put1 D.l).trans (bn_ahead t k)⟩
  | cut k =>
    obtain ⟨a, b, c, e⟩ := ahead_ti h k
    have D := deed_cut (shelf_ok a k) k
    exact ⟨_, rfl, a.put1 D, fun k' => (bgn_get k').symm, (bn_put1 D.l).trans (bn_ahead t k)⟩
theorem bn_deed {t : TSt} (h : TI t) (d : Deed) : (t.deed d).bn = (t.bn.goN t.pace).bgn (t.deed d).pairs.length := by
  obtain ⟨t', e1, e2, e3, e4⟩ := deed_pre h d
  have hp := ((deed_ti h d).1.perm e2 e3).length_eq
  rw [← hp, ← e4]
  rw [e1]
  exact bn_bgn e2
/-- tables that have the same but for what was touched go on alike -/
theorem deed_fresh {t u : TSt} (h : t.fresh = u.fresh) (d : Deed) : t.deed d = u.deed d := by
  have hp0 := congrArg TSt.pace h
  have hp : t.pace = u.pace := hp0
  have ha : ∀ k, t.ahead k = u.ahead k := fun k => by
    unfold TSt.ahead
    rw [h, hp]
  cases d with
  | put k v =>
    show TSt.putD t k v = TSt.putD u k v
    unfold TSt.putD
    rw [ha]
  | look k =>
    show TSt.lookD t k = TSt.lookD u k
    unfold TSt.lookD
    rw [ha]
  | cut k =>
    show TSt.cutD t k = TSt.cutD u k
    unfold TSt.cutD
    rw [ha]
theorem sizes_bn {t u : TSt} (h : t.bn = u.bn) : sizesD t = sizesD u ∧ t.moved = u.moved := by
  have h1 := congrArg Bn.e h
  have h2 := congrArg Bn.m h
  have h3 := congrArg Bn.n h
  unfold TSt.bn at h1 h2 h3
  simp only at h1 h2 h3
  refine ⟨?_, h2⟩
  unfold sizesD
  rw [h3]
  cases ht : t.elder with
  | none =>
    rw [ht] at h1
    cases hu : u.elder with
    | none => rfl
    | some b => rw [hu] at h1; cases h1
  | some a =>
    rw [ht] at h1
    cases hu : u.elder with
    | none => rw [hu] at h1; cases h1
    | some b =>
      rw [hu] at h1
      have := Option.some.inj h1
      simp [this]
end
end TM
set_option Elab.async false
set_option linter.all false
set_option maxRecDepth 100000
set_option maxHeartbeats 4000000
/-! TM5: a table filled key by key, on either side -/
namespace TM
open PySem L2 PyProof.Rows DM
def TSt.addN (t : TSt) (k v : Int) : TSt := ⟨t.mx, t.pace, t.elder, t.moved, (shPut t.mx t.newer.1 k v, t.newer.2 + newC t.mx t.newer.1 k), t.spots⟩
def TSt.addE (t : TSt) (el : Rows × Int) (k v : Int) : TSt := ⟨t.mx, t.pace, some (shPut t.mx el.1 k v, el.2 + newC t.mx el.1 k), t.moved, t.newer, t.spots⟩
theorem no_key {t : TSt} {k : Int} (hg : t.get k = none) : shLook t.mx t.newer.1 k = none ∧ ∀ el, t.elder = some el → shLook t.mx el.1 k = none := by
  unfold TSt.get at hg
  cases he : t.elder with
  | none =>
    rw [he] at hg
    exact ⟨hg, fun el h => by cases h⟩
  | some el =>
    rw [he] at hg
    have hg : (if (shLook t.mx el.1 k).isSome = true then shLook t.mx el.1 k else shLook t.mx t.newer.1 k) = none := hg
    cases hv : shLook t.mx el.1 k with
    | none =>
      rw [hv] at hg
      exact ⟨hg, fun el' h => by cases h; exact hv⟩
    | some v =>
      rw [hv] at hg
      cases hg
theorem addN_ti {t : TSt} (h : TI t) {k v : Int} (hg : t.get k = none) : TI (t.addN k v) ∧ ∀ k', (t.addN k v).get k' = if k' = k then some v else t.get k' := by
  obtain ⟨hn, he⟩ := no_key hg
  have hp := h.nw.pos
  have lp : ∀ k', shLook t.mx (shPut t.mx t.newer.1 k v) k' = if k' = k then some v else shLook t.mx t.newer.1 k' := fun k' => look_put hp
  refine ⟨⟨h.mx, h.nw.put k v, fun el hel => ?_, h.em⟩, fun k' => ?_⟩
  · have hel : t.elder = some el := hel
    obtain ⟨a, b, c, d⟩ := h.el el hel
    refine ⟨a, b, c, fun k' hk' => ?_⟩
    show shLook t.mx (shPut t.mx t.newer.1 k v) k' = none
    rw [lp]
    by_cases hkk : k' = k
    · subst hkk
      have hk' : (shLook t.mx el.1 k').isSome = true := hk'
      rw [he el hel] at hk'
      cases hk'
    · rw [if_neg hkk]
      exact d k' hk'
  · cases hel : t.elder with
    | none =>
      have e1 : (t.addN k v).get k' = shLook t.mx (shPut t.mx t.newer.1 k v) k' := by
        unfold TSt.get TSt.addN
        rw [hel]
      have e2 : t.get k' = shLook t.mx t.newer.1 k' := by
        unfold TSt.get
        rw [hel]
      rw [e1, e2, lp]
    | some el =>
      have e1 : (t.addN k v).get k' = if (shLook t.mx el.1 k').isSome then shLook t.mx el.1 k' else shLook t.mx (shPut t.mx t.newer.1 k v) k' := by
        unfold TSt.get TSt.addN
        rw [hel]
      have e2 : t.get k' = if (shLook t.mx el.1 k').isSome then shLook t.mx el.1 k' else shLook t.mx t.newer.1 k' := by
        unfold TSt.get
        rw [hel]
      rw [e1, e2, lp]
      by_cases hkk : k' = k
      · subst hkk
        rw [he el hel]
        simp
      · rw [if_neg hkk, if_neg hkk]
theorem addE_ti {t : TSt} (h : TI t) {el : Rows × Int} (hel : t.elder = some el) {k v : Int} (hg : t.get k = none) (hm : t.moved ≤ plc t.mx el.1.length k) : TI (t.addE el k v) ∧ ∀ k', (t.addE el k v).get k' = if k' = k then some v else t.get k' := by
  obtain ⟨hn, he⟩ := no_key hg
  obtain ⟨a, b, c, d⟩ := h.el el hel
  have hp := a.pos
  have lp : ∀ k', shLook t.mx (shPut t.mx el.1 k v) k' = if k' = k then some v else shLook t.mx el.1 k' := fun k' => look_put hp
  refine ⟨⟨h.mx, h.nw, fun el' hel' => ?_, fun z => by cases z⟩, fun k' => ?_⟩
  · cases hel'
    refine ⟨a.put k v, by show t.moved < (shPut t.mx el.1 k v).length; rw [shPut_len]; exact b, fun p hp' => ?_, fun k' hk' => ?_⟩
    · show rowAt (shPut t.mx el.1 k v) p = []
      have hp' : p < t.moved := hp'
      unfold shPut
      rw [rowAt_set, if_neg (by omega)]
      exact c p hp'
    · show shLook t.mx t.newer.1 k' = none
      have hk' : (shLook t.mx (shPut t.mx el.1 k v) k').isSome = true := hk'
      rw [lp] at hk'
      by_cases hkk : k' = k
      · subst hkk
        exact hn
      · rw [if_neg hkk] at hk'
        exact d k' hk'
  · have e1 : (t.addE el k v).get k' = if (shLook t.mx (shPut t.mx el.1 k v) k').isSome then shLook t.mx (shPut t.mx el.1 k v) k' else shLook t.mx t.newer.1 k' := rfl
    have e2 : t.get k' = if (shLook t.mx el.1 k').isSome then shLook t.mx el.1 k' else shLook t.mx t.newer.1 k' := by
      unfold TSt.get
      rw [hel]
    rw [e1, e2, lp]
    by_cases hkk : k' = k
    · rw [if_pos hkk, if_pos hkk]
      rfl
    · rw [if_neg hkk, if_neg hkk]
/-- a side laid anew, empty, where no key was -/
theorem twin_add {t t' : TSt} {kn : List (Int × Int)} {k v : Int} (tw : Twin t kn) (hk : k ∉ keysOf kn) (h : TI t' ∧ ∀ k', t'.get k' = if k' = k then some v else t.get k') (hp : t'.pace = t.pace) : Twin t' (kn ++ [(k, v)]) := by
  have hv : valD kn k = none := by
    have := val_keys kn k
    cases e : valD kn k with
    | none => rfl
    | some v =>
      rw [e] at this
      exact absurd (this.mp rfl) hk
  have ep : kn ++ [(k, v)] = putKD kn k v := by
    rw [putKD_new hv]
  refine ⟨h.1, by rw [hp]; exact tw.pc, ?_, fun k' => ?_⟩
  · rw [ep]
    exact nd_put tw.nd
  · rw [h.2, ep, valD_put, tw.eq]
end TM
set_option Elab.async false
set_option linter.all false
set_option maxRecDepth 100000
set_option maxHeartbeats 4000000
namespace PW
open PySem L2 PyProof.Rows DM PG
noncomputable section
def G_both_shelves : DEnv → M Fl := (gSeq (gAsg (eMethB nz0 1 "state" F_table_state 1 (eVar 0) aNil) (nTup 3 (nsCons (nName 1) (nsCons (nName 2) (nsCons (nName 3) nsNil)))))
    (gSeq (gIf (tAnd (tVal (eO uIsNot (eVar 1) (eC .none))) (tVal (eO (uLt fun i j => decide (i < j)) (eA uLen (aCons (eVar 1) aNil)) (eA uLen (aCons (eVar 3) aNil))))) (gRet (eA uTup (aCons (eVar 1) (aCons (eVar 3) aNil)))) gNext)
    (gRet (eA uTup (aCons (eVar 3) (aCons (eVar 1) aNil))))))
theorem F_both_shelves_x : ∃ F, F = fnF 4 G_both_shelves exitF := ⟨_, rfl⟩
def F_both_shelves : List Val → M Val := Classical.choose F_both_shelves_x
theorem F_both_shelves_e : F_both_shelves = fnF 4 G_both_shelves exitF := Classical.choose_spec F_both_shelves_x
abbrev B1_step : DEnv → M Fl := (gIf (tVal (eO (uLt fun i j => decide (j ≤ i)) (eO uIx (eCall F_stretch_of 2 (aCons (eVar 7) (aCons (eA uLen (aCons (eVar 3) aNil)) aNil))) (eC (.int 1))) (eVar 1))) (gExpr (eBM "list" uExtend (eVar 6) (aCons (eO uIx (eVar 3) (eVar 7)) aNil))) gNext)
def G_step : DEnv → M Fl := (gSeq (gAsg (eCall F_both_shelves 1 (aCons (eVar 0) aNil)) (nTup 2 (nsCons (nName 2) (nsCons (nName 3) nsNil))))
    (gSeq (gAsg (eA uLen (aCons (eVar 2) aNil)) (nName 4))
    (gSeq (gAsg (eCall F_place_of 2 (aCons (eCall F_point_of 1 (aCons (eVar 1) aNil)) (aCons (eVar 4) aNil))) (nName 5))
    (gSeq (gAsg (eA uListM (aCons (eO uIx (eVar 2) (eVar 5)) aNil)) (nName 6))
    (gSeq (gIf (tVal (eO uIsNot (eVar 3) (eC .none))) (gFor (DM.iRng3 (eVar 5) (eA uLen (aCons (eVar 3) aNil)) (eVar 4)) (nName 7) B1_step) gNext)
    (gRet (eA uTup (aCons (eO uMod (eO uAdd (eO uIx (eCall F_stretch_of 2 (aCons (eVar 5) (aCons (eVar 4) aNil))) (eC (.int 1))) (eC (.int 1))) (eC (.int 65536))) (aCons (eU uKill (eVar 6)) aNil)))))))))
theorem F_step_x : ∃ F, F = fnF 8 G_step exitF := ⟨_, rfl⟩
def F_step : List Val → M Val := Classical.choose F_step_x
theorem F_step_e : F_step = fnF 8 G_step exitF := Classical.choose_spec F_step_x
end
end PW
set_option Elab.async false
set_option linter.all false
set_option maxRecDepth 100000
set_option maxHeartbeats 4000000
namespace GP
open PySem L2 PyProof.Rows DM PG
noncomputable section
def G_law_mixed : DEnv → M Fl := (gSeq (gAsg (eO uMod (eO uMul (eO uAdd (eO uAdd (eO uMod (eVar 0) (eC (.int 2147483647))) (eO uMul (eC (.int 7919)) (eVar 1))) (eC (.int 1))) (eC (.int 48271))) (eC (.int 2147483647))) (nName 2))
    (gSeq (gAsg (eO uMod (eO uMul (eVar 2) (eVar 2)) (eC (.int 2147483629))) (nName 2))
    (gRet (eO uDiv (eO uMod (eO uMul (eO uAdd (eVar 2) (eO uMul (eC (.int 40692)) (eO uAdd (eVar 1) (eC (.int 3))))) (eC (.int 69621))) (eC (.int 2147483579))) (eC (.int 8))))))
theorem F_law_mixed_x : ∃ F, F = fnF 3 G_law_mixed exitF := ⟨_, rfl⟩
def F_law_mixed : List Val → M Val := Classical.choose F_law_mixed_x
theorem F_law_mixed_e : F_law_mixed = fnF 3 G_law_mixed exitF := Classical.choose_spec F_law_mixed_x
def G_law_pot : DEnv → M Fl := (gRet (eA uLstM (aCons (eO uMul (eO uMod (eVar 0) (eO uMul (eO uMul (eO uPow (eC (.int 10)) (eC (.int 50))) (eO uPow (eC (.int 10)) (eC (.int 50)))) (eO uPow (eC (.int 10)) (eC (.int 50))))) (eA uInt (aCons (eO (uLt fun i j => decide (j ≤ i)) (eVar 0) (eO uPow (eC (.int 10)) (eC (.int 18)))) aNil))) (aCons (eVar 0) (aCons (eC (.int 0)) aNil)))))
theorem F_law_pot_x : ∃ F, F = fnF 1 G_law_pot exitN := ⟨_, rfl⟩
def F_law_pot : List Val → M Val := Classical.choose F_law_pot_x
theorem F_law_pot_e : F_law_pot = fnF 1 G_law_pot exitN := Classical.choose_spec F_law_pot_x
def G_law_take : DEnv → M Fl := (gSeq (gAsg (eO uAdd (eO uIx (eVar 0) (eC (.int 2))) (eC (.int 1))) (nSub uSet (eVar 0) (eC (.int 2))))
    (gSeq (gIf (tVal (eO (uLt fun i j => decide (j < i)) (eO uIx (eVar 0) (eC (.int 0))) (eC (.int 0)))) (gSeq (gAsg (eO uMod (eO uIx (eVar 0) (eC (.int 0))) (eVar 1)) (nName 2))
    (gSeq (gAsg (eO uDiv (eO uIx (eVar 0) (eC (.int 0))) (eVar 1)) (nSub uSet (eVar 0) (eC (.int 0))))
    (gRet (eVar 2)))) gNext)
    (gRet (eO uMod (eCall F_law_mixed 2 (aCons (eO uIx (eVar 0) (eC (.int 1))) (aCons (eO uIx (eVar 0) (eC (.int 2))) aNil))) (eVar 1)))))
theorem F_law_take_x : ∃ F, F = fnF 3 G_law_take exitF := ⟨_, rfl⟩
def F_law_take : List Val → M Val := Classical.choose F_law_take_x
theorem F_law_take_e : F_law_take = fnF 3 G_law_take exitF := Classical.choose_spec F_law_take_x
def G_law_mixer : DEnv → M Fl := (gSeq (gAsg (eA uLst (aCons (eCall F_law_take 2 (aCons (eVar 0) (aCons (eC (.int 65536)) aNil))) (aCons (eCall F_law_take 2 (aCons (eVar 0) (aCons (eC (.int 65536)) aNil))) aNil))) (nName 1))
    (gRet (eO uIx (eA uLst (aCons (eA uTup (aCons (eC (.int 0)) (aCons (eO uIx (eVar 1) (eC (.int 1))) aNil))) (aCons (eA uTup (aCons (eC (.int 1)) (aCons (eC (.int 0)) aNil))) (aCons (eA uTup (aCons (eO uIx (eVar 1) (eC (.int 0))) (aCons (eO uIx (eVar 1) (eC (.int 1))) aNil))) (aCons (eA uTup (aCons (eO uMul (eC (.int 4096)) (eO uMod (eO uIx (eVar 1) (eC (.int 0))) (eC (.int 16)))) (aCons (eO uIx (eVar 1) (eC (.int 1))) aNil))) aNil))))) (eCall F_law_take 2 (aCons (eVar 0) (aCons (eC (.int 4)) aNil))))))
theorem F_law_mixer_x : ∃ F, F = fnF 2 G_law_mixer exitF := ⟨_, rfl⟩
def F_law_mixer : List Val → M Val := Classical.choose F_law_mixer_x
theorem F_law_mixer_e : F_law_mixer = fnF 2 G_law_mixer exitF := Classical.choose_spec F_law_mixer_x
def G_law_worth : DEnv → M Fl := (gRet (eO uIx (eA uLst (aCons (eO uSub (eCall F_law_take 2 (aCons (eVar 0) (aCons (eC (.int 9)) aNil))) (eC (.int 4))) (aCons (eO uSub (eO uPow (eC (.int 10)) (eC (.int 9))) (eCall F_law_take 2 (aCons (eVar 0) (aCons (eO uAdd (eO uMul (eC (.int 2)) (eO uPow (eC (.int 10)) (eC (.int 9)))) (eC (.int 1))) aNil)))) (aCons (eU uNeg (eO uPow (eC (.int 10)) (eC (.int 9)))) aNil)))) (eCall F_law_take 2 (aCons (eVar 0) (aCons (eC (.int 3)) aNil)))))
theorem F_law_worth_x : ∃ F, F = fnF 1 G_law_worth exitF := ⟨_, rfl⟩
def F_law_worth : List Val → M Val := Classical.choose F_law_worth_x
theorem F_law_worth_e : F_law_worth = fnF 1 G_law_worth exitF := Classical.choose_spec F_law_worth_x
def G_law_keys : DEnv → M Fl := (gSeq (gAsg (eO uIx (eA uLst (aCons (eCall F_law_take 2 (aCons (eVar 0) (aCons (eC (.int 40)) aNil))) (aCons (eO uSub (eO uPow (eC (.int 10)) (eC (.int 9))) (eCall F_law_take 2 (aCons (eVar 0) (aCons (eC (.int 40)) aNil)))) (aCons (eCall F_law_take 2 (aCons (eVar 0) (aCons (eO uAdd (eO uPow (eC (.int 10)) (eC (.int 9))) (eC (.int 1))) aNil))) aNil)))) (eCall F_law_take 2 (aCons (eVar 0) (aCons (eC (.int 3)) aNil)))) (nName 2))
    (gSeq (gAsg (eO uIx (eA uLst (aCons (eC (.int 1)) (aCons (eC (.int 1)) (aCons (eC (.int 65536)) (aCons (eO uAdd (eC (.int 1)) (eCall F_law_take 2 (aCons (eVar 0) (aCons (eO uPow (eC (.int 10)) (eC (.int 6))) aNil)))) aNil))))) (eCall F_law_take 2 (aCons (eVar 0) (aCons (eC (.int 4)) aNil)))) (nName 3))
    (gRet (eLc (iRng1 (eVar 1)) (nName 4) tYesD (eO uMod (eO uAdd (eVar 2) (eO uMul (eVar 3) (eVar 4))) (eO uAdd (eO uPow (eC (.int 10)) (eC (.int 9))) (eC (.int 1)))) [4]))))
theorem F_law_keys_x : ∃ F, F = fnF 5 G_law_keys exitF := ⟨_, rfl⟩
def F_law_keys : List Val → M Val := Classical.choose F_law_keys_x
theorem F_law_keys_e : F_law_keys = fnF 5 G_law_keys exitF := Classical.choose_spec F_law_keys_x
def G_law_any : DEnv → M Fl := (gSeq (gAsg (eO uIx (eO uAdd (eVar 1) (eA uLst (aCons (eCall F_law_take 2 (aCons (eVar 0) (aCons (eC (.int 20)) aNil))) aNil))) (eCall F_law_take 2 (aCons (eVar 0) (aCons (eO uAdd (eA uLen (aCons (eVar 1) aNil)) (eC (.int 1))) aNil)))) (nName 2))
    (gSeq (gAsg (eCall F_law_take 2 (aCons (eVar 0) (aCons (eC (.int 5)) aNil))) (nName 3))
    (gSeq (gIf (tVal (eO (uLt fun i j => decide (i < j)) (eVar 3) (eC (.int 2)))) (gRet (eA uTup (aCons (eC (.str "put")) (aCons (eVar 2) (aCons (eCall F_law_worth 1 (aCons (eVar 0) aNil)) aNil))))) gNext)
    (gRet (eO uIx (eA uLst (aCons (eA uTup (aCons (eC (.str "look")) (aCons (eVar 2) aNil))) (aCons (eA uTup (aCons (eC (.str "cut")) (aCons (eVar 2) aNil))) (aCons (eA uTup (aCons (eC (.str "cut")) (aCons (eVar 2) aNil))) aNil)))) (eO uSub (eVar 3) (eC (.int 2))))))))
theorem F_law_any_x : ∃ F, F = fnF 4 G_law_any exitF := ⟨_, rfl⟩
def F_law_any : List Val → M Val := Classical.choose F_law_any_x
theorem F_law_any_e : F_law_any = fnF 4 G_law_any exitF := Classical.choose_spec F_law_any_x
abbrev B1_law_deeds : DEnv → M Fl := (gSeq (gAsg (eO uAdd (eC (.int 1)) (eCall F_law_take 2 (aCons (eVar 0) (aCons (eO uIx (eA uLst (aCons (eC (.int 8)) (aCons (eC (.int 24)) (aCons (eC (.int 60)) aNil)))) (eCall F_law_take 2 (aCons (eVar 0) (aCons (eC (.int 3)) aNil)))) aNil)))) (nName 5))
    (gSeq (gAsg (eCall F_law_take 2 (aCons (eVar 0) (aCons (eC (.int 5)) aNil))) (nName 6))
    (gIf (tOr (tVal (eO (uLt fun i j => decide (i < j)) (eVar 6) (eC (.int 2)))) (tVal (eO uEq (eVar 3) (eA uLst aNil)))) (gSeq (gAsg (eO uAdd (eVar 3) (eCall F_law_keys 2 (aCons (eVar 0) (aCons (eVar 5) aNil)))) (nName 3))
    (gAsg (eO uAdd (eVar 2) (eLc (iSeq (eSl uSl (eVar 3) (fPart (eO uSub (eA uLen (aCons (eVar 3) aNil)) (eVar 5))) fNo)) (nName 8) tYesD (eA uTup (aCons (eC (.str "put")) (aCons (eVar 8) (aCons (eCall F_law_worth 1 (aCons (eVar 0) aNil)) aNil)))) [8])) (nName 2))) (gIf (tVal (eO (uLt fun i j => decide (i < j)) (eVar 6) (eC (.int 4)))) (gSeq (gAsg (eCall F_law_take 2 (aCons (eVar 0) (aCons (eA uLen (aCons (eVar 3) aNil)) aNil))) (nName 7))
    (gAsg (eO uAdd (eVar 2) (eLc (iSeq (eSl uSl (eVar 3) (fPart (eVar 7)) (fPart (eO uAdd (eVar 7) (eVar 5))))) (nName 8) tYesD (eA uTup (aCons (eC (.str "cut")) (aCons (eVar 8) aNil))) [8])) (nName 2))) (gAsg (eO uAdd (eVar 2) (eLc (iRng1 (eVar 5)) (nName 9) tYesD (eCall F_law_any 2 (aCons (eVar 0) (aCons (eVar 3) aNil))) [9])) (nName 2))))))
def G_law_deeds : DEnv → M Fl := (gSeq (gAsg (eA uLst aNil) (nName 2))
    (gSeq (gAsg (eA uLst aNil) (nName 3))
    (gSeq (gFor (iRng1 (eO uAdd (eC (.int 1)) (eCall F_law_take 2 (aCons (eVar 0) (aCons (eC (.int 5)) aNil))))) (nName 4) B1_law_deeds)
    (gRet (eSl uSl (eVar 2) fNo (fPart (eVar 1)))))))
theorem F_law_deeds_x : ∃ F, F = fnF 10 G_law_deeds exitF := ⟨_, rfl⟩
def F_law_deeds : List Val → M Val := Classical.choose F_law_deeds_x
theorem F_law_deeds_e : F_law_deeds = fnF 10 G_law_deeds exitF := Classical.choose_spec F_law_deeds_x
def G_law_done : DEnv → M Fl := (gSeq (gIf (tVal (eO uEq (eO uIx (eVar 1) (eC (.int 0))) (eC (.str "put")))) (gRet (eMethB nzT 1 "put" F_table_put 3 (eVar 0) (aCons (eO uIx (eVar 1) (eC (.int 1))) (aCons (eO uIx (eVar 1) (eC (.int 2))) aNil)))) gNext)
    (gSeq (gIf (tVal (eO uEq (eO uIx (eVar 1) (eC (.int 0))) (eC (.str "cut")))) (gRet (eMethB nzT 1 "cut" F_table_cut 2 (eVar 0) (aCons (eO uIx (eVar 1) (eC (.int 1))) aNil))) gNext)
    (gRet (eMethB nzT 1 "look" F_table_look 2 (eVar 0) (aCons (eO uIx (eVar 1) (eC (.int 1))) aNil)))))
theorem F_law_done_x : ∃ F, F = fnF 2 G_law_done exitA := ⟨_, rfl⟩
def F_law_done : List Val → M Val := Classical.choose F_law_done_x
theorem F_law_done_e : F_law_done = fnF 2 G_law_done exitA := Classical.choose_spec F_law_done_x
def G_law_plain_done : DEnv → M Fl := (gSeq (gAsg (eGet1 (eVar 0) (eO uIx (eVar 1) (eC (.int 1)))) (nName 2))
    (gSeq (gIf (tVal (eO uEq (eO uIx (eVar 1) (eC (.int 0))) (eC (.str "put")))) (gDPut (eO uIx (eVar 1) (eC (.int 2))) (eVar 0) (eO uIx (eVar 1) (eC (.int 1)))) gNext)
    (gSeq (gIf (tAnd (tVal (eO uEq (eO uIx (eVar 1) (eC (.int 0))) (eC (.str "cut")))) (tVal (eO uDIn (eO uIx (eVar 1) (eC (.int 1))) (eVar 0)))) (gExpr (ePop1 (eVar 0) (eO uIx (eVar 1) (eC (.int 1))))) gNext)
    (gRet (eVar 2)))))
theorem F_law_plain_done_x : ∃ F, F = fnF 3 G_law_plain_done exitF := ⟨_, rfl⟩
def F_law_plain_done : List Val → M Val := Classical.choose F_law_plain_done_x
theorem F_law_plain_done_e : F_law_plain_done = fnF 3 G_law_plain_done exitF := Classical.choose_spec F_law_plain_done_x
end
end GP
set_option Elab.async false
set_option linter.all false
set_option maxRecDepth 100000
set_option maxHeartbeats 4000000
namespace GQ
open PySem L2 PyProof.Rows DM PG PW GP
noncomputable section
abbrev B1_law_deeds_and_steps : DEnv → M Fl := (gSeq (gExpr (eBM "list" uAppend (eVar 2) (aCons (eVar 4) aNil)))
    (gIf (tVal (eO uEq (eCall F_law_take 2 (aCons (eVar 0) (aCons (eVar 3) aNil))) (eC (.int 0)))) (gAsg (eO uAddM (eVar 2) (eO uMul (eA uLst (aCons (eA uTup (aCons (eC (.str "step")) aNil)) aNil)) (eO uAdd (eC (.int 1)) (eCall F_law_take 2 (aCons (eVar 0) (aCons (eO uIx (eA uLst (aCons (eC (.int 2)) (aCons (eO uAdd (eO uDiv (eVar 3) (eC (.int 4))) (eC (.int 1))) aNil))) (eCall F_law_take 2 (aCons (eVar 0) (aCons (eC (.int 2)) aNil)))) aNil)))))) (nName 2)) gNext))
def G_law_deeds_and_steps : DEnv → M Fl := (gSeq (gAsg (eA uLstM aNil) (nName 2))
    (gSeq (gAsg (eO uIx (eA uLst (aCons (eC (.int 3)) (aCons (eC (.int 5)) (aCons (eC (.int 40)) aNil)))) (eCall F_law_take 2 (aCons (eVar 0) (aCons (eC (.int 3)) aNil)))) (nName 3))
    (gSeq (gFor (iSeq (eCall F_law_deeds 2 (aCons (eVar 0) (aCons (eVar 1) aNil)))) (nName 4) B1_law_deeds_and_steps)
    (gRet (eVar 2)))))
theorem F_law_deeds_and_steps_x : ∃ F, F = fnF 5 G_law_deeds_and_steps exitF := ⟨_, rfl⟩
def F_law_deeds_and_steps : List Val → M Val := Classical.choose F_law_deeds_and_steps_x
theorem F_law_deeds_and_steps_e : F_law_deeds_and_steps = fnF 5 G_law_deeds_and_steps exitF := Classical.choose_spec F_law_deeds_and_steps_x
def G_done : DEnv → M Fl := (gSeq (gIf (tVal (eO uEq (eO uIx (eVar 1) (eC (.int 0))) (eC (.str "put")))) (gRet (eMethB nzT 1 "put" F_table_put 3 (eVar 0) (aCons (eO uIx (eVar 1) (eC (.int 1))) (aCons (eO uIx (eVar 1) (eC (.int 2))) aNil)))) gNext)
    (gSeq (gIf (tVal (eO uEq (eO uIx (eVar 1) (eC (.int 0))) (eC (.str "cut")))) (gRet (eMethB nzT 1 "cut" F_table_cut 2 (eVar 0) (aCons (eO uIx (eVar 1) (eC (.int 1))) aNil))) gNext)
    (gRet (eMethB nzT 1 "look" F_table_look 2 (eVar 0) (aCons (eO uIx (eVar 1) (eC (.int 1))) aNil)))))
theorem F_done_x : ∃ F, F = fnF 2 G_done exitF := ⟨_, rfl⟩
def F_done : List Val → M Val := Classical.choose F_done_x
theorem F_done_e : F_done = fnF 2 G_done exitF := Classical.choose_spec F_done_x
def F_law_same_0 : List Val → M Val := fun _ _ => none
abbrev B1_law_same_1 : DEnv → M Fl := (gIf (tNot (tVal (eCall F_law_same_0 2 (aCons (eO uIx (eVar 0) (eVar 2)) (aCons (eO uIx (eVar 1) (eVar 2)) aNil))))) (gRet (eC (.bool false))) gNext)
def G_law_same_1 : DEnv → M Fl := (gSeq (gIf (tVal (eO uIs (eVar 1) (eC .none))) (gRet (eO uIs (eVar 0) (eC .none))) gNext)
    (gSeq (gIf (tVal (eU (uIsi "str") (eVar 1))) (gRet (eAnd (eU (uIsi "str") (eVar 0)) (eO uEq (eVar 0) (eVar 1)))) gNext)
    (gSeq (gIf (tVal (eU (uIsi "int") (eVar 1))) (gRet (eAnd (eU (uIsi "int") (eVar 0)) (eAnd (eNot (eU (uIsi "bool") (eVar 0))) (eO uEq (eVar 0) (eVar 1))))) gNext)
    (gSeq (gIf (tVal (eU (uIsi "tuple") (eVar 1))) (gIf (tNot (tVal (eU (uIsi "tuple") (eVar 0)))) (gRet (eC (.bool false))) gNext) (gIf (tNot (tVal (eU (uIsi "list") (eVar 0)))) (gRet (eC (.bool false))) gNext))
    (gSeq (gIf (tVal (eO uNe (eA uLen (aCons (eVar 0) aNil)) (eA uLen (aCons (eVar 1) aNil)))) (gRet (eC (.bool false))) gNext)
    (gSeq (gFor (iRng1 (eA uLen (aCons (eVar 1) aNil))) (nName 2) B1_law_same_1)
    (gRet (eC (.bool true)))))))))
theorem F_law_same_1_x : ∃ F, F = fnF 3 G_law_same_1 exitF := ⟨_, rfl⟩
def F_law_same_1 : List Val → M Val := Classical.choose F_law_same_1_x
theorem F_law_same_1_e : F_law_same_1 = fnF 3 G_law_same_1 exitF := Classical.choose_spec F_law_same_1_x
abbrev B1_law_same_2 : DEnv → M Fl := (gIf (tNot (tVal (eCall F_law_same_1 2 (aCons (eO uIx (eVar 0) (eVar 2)) (aCons (eO uIx (eVar 1) (eVar 2)) aNil))))) (gRet (eC (.bool false))) gNext)
def G_law_same_2 : DEnv → M Fl := (gSeq (gIf (tVal (eO uIs (eVar 1) (eC .none))) (gRet (eO uIs (eVar 0) (eC .none))) gNext)
    (gSeq (gIf (tVal (eU (uIsi "str") (eVar 1))) (gRet (eAnd (eU (uIsi "str") (eVar 0)) (eO uEq (eVar 0) (eVar 1)))) gNext)
    (gSeq (gIf (tVal (eU (uIsi "int") (eVar 1))) (gRet (eAnd (eU (uIsi "int") (eVar 0)) (eAnd (eNot (eU (uIsi "bool") (eVar 0))) (eO uEq (eVar 0) (eVar 1))))) gNext)
    (gSeq (gIf (tVal (eU (uIsi "tuple") (eVar 1))) (gIf (tNot (tVal (eU (uIsi "tuple") (eVar 0)))) (gRet (eC (.bool false))) gNext) (gIf (tNot (tVal (eU (uIsi "list") (eVar 0)))) (gRet (eC (.bool false))) gNext))
    (gSeq (gIf (tVal (eO uNe (eA uLen (aCons (eVar 0) aNil)) (eA uLen (aCons (eVar 1) aNil)))) (gRet (eC (.bool false))) gNext)
    (gSeq (gFor (iRng1 (eA uLen (aCons (eVar 1) aNil))) (nName 2) B1_law_same_2)
    (gRet (eC (.bool true)))))))))
theorem F_law_same_2_x : ∃ F, F = fnF 3 G_law_same_2 exitF := ⟨_, rfl⟩
def F_law_same_2 : List Val → M Val := Classical.choose F_law_same_2_x
theorem F_law_same_2_e : F_law_same_2 = fnF 3 G_law_same_2 exitF := Classical.choose_spec F_law_same_2_x
abbrev B1_law_same_3 : DEnv → M Fl := (gIf (tNot (tVal (eCall F_law_same_2 2 (aCons (eO uIx (eVar 0) (eVar 2)) (aCons (eO uIx (eVar 1) (eVar 2)) aNil))))) (gRet (eC (.bool false))) gNext)
def G_law_same_3 : DEnv → M Fl := (gSeq (gIf (tVal (eO uIs (eVar 1) (eC .none))) (gRet (eO uIs (eVar 0) (eC .none))) gNext)
    (gSeq (gIf (tVal (eU (uIsi "str") (eVar 1))) (gRet (eAnd (eU (uIsi "str") (eVar 0)) (eO uEq (eVar 0) (eVar 1)))) gNext)
    (gSeq (gIf (tVal (eU (uIsi "int") (eVar 1))) (gRet (eAnd (eU (uIsi "int") (eVar 0)) (eAnd (eNot (eU (uIsi "bool") (eVar 0))) (eO uEq (eVar 0) (eVar 1))))) gNext)
    (gSeq (gIf (tVal (eU (uIsi "tuple") (eVar 1))) (gIf (tNot (tVal (eU (uIsi "tuple") (eVar 0)))) (gRet (eC (.bool false))) gNext) (gIf (tNot (tVal (eU (uIsi "list") (eVar 0)))) (gRet (eC (.bool false))) gNext))
    (gSeq (gIf (tVal (eO uNe (eA uLen (aCons (eVar 0) aNil)) (eA uLen (aCons (eVar 1) aNil)))) (gRet (eC (.bool false))) gNext)
    (gSeq (gFor (iRng1 (eA uLen (aCons (eVar 1) aNil))) (nName 2) B1_law_same_3)
    (gRet (eC (.bool true)))))))))
theorem F_law_same_3_x : ∃ F, F = fnF 3 G_law_same_3 exitF := ⟨_, rfl⟩
def F_law_same_3 : List Val → M Val := Classical.choose F_law_same_3_x
theorem F_law_same_3_e : F_law_same_3 = fnF 3 G_law_same_3 exitF := Classical.choose_spec F_law_same_3_x
abbrev B1_law_same_4 : DEnv → M Fl := (gIf (tNot (tVal (eCall F_law_same_3 2 (aCons (eO uIx (eVar 0) (eVar 2)) (aCons (eO uIx (eVar 1) (eVar 2)) aNil))))) (gRet (eC (.bool false))) gNext)
def G_law_same_4 : DEnv → M Fl := (gSeq (gIf (tVal (eO uIs (eVar 1) (eC .none))) (gRet (eO uIs (eVar 0) (eC .none))) gNext)
    (gSeq (gIf (tVal (eU (uIsi "str") (eVar 1))) (gRet (eAnd (eU (uIsi "str") (eVar 0)) (eO uEq (eVar 0) (eVar 1)))) gNext)
    (gSeq (gIf (tVal (eU (uIsi "int") (eVar 1))) (gRet (eAnd (eU (uIsi "int") (eVar 0)) (eAnd (eNot (eU (uIsi "bool") (eVar 0))) (eO uEq (eVar 0) (eVar 1))))) gNext)
    (gSeq (gIf (tVal (eU (uIsi "tuple") (eVar 1))) (gIf (tNot (tVal (eU (uIsi "tuple") (eVar 0)))) (gRet (eC (.bool false))) gNext) (gIf (tNot (tVal (eU (uIsi "list") (eVar 0)))) (gRet (eC (.bool false))) gNext))
    (gSeq (gIf (tVal (eO uNe (eA uLen (aCons (eVar 0) aNil)) (eA uLen (aCons (eVar 1) aNil)))) (gRet (eC (.bool false))) gNext)
    (gSeq (gFor (iRng1 (eA uLen (aCons (eVar 1) aNil))) (nName 2) B1_law_same_4)
    (gRet (eC (.bool true)))))))))
theorem F_law_same_4_x : ∃ F, F = fnF 3 G_law_same_4 exitF := ⟨_, rfl⟩
def F_law_same_4 : List Val → M Val := Classical.choose F_law_same_4_x
theorem F_law_same_4_e : F_law_same_4 = fnF 3 G_law_same_4 exitF := Classical.choose_spec F_law_same_4_x
abbrev B1_law_same_5 : DEnv → M Fl := (gIf (tNot (tVal (eCall F_law_same_4 2 (aCons (eO uIx (eVar 0) (eVar 2)) (aCons (eO uIx (eVar 1) (eVar 2)) aNil))))) (gRet (eC (.bool false))) gNext)
def G_law_same_5 : DEnv → M Fl := (gSeq (gIf (tVal (eO uIs (eVar 1) (eC .none))) (gRet (eO uIs (eVar 0) (eC .none))) gNext)
    (gSeq (gIf (tVal (eU (uIsi "str") (eVar 1))) (gRet (eAnd (eU (uIsi "str") (eVar 0)) (eO uEq (eVar 0) (eVar 1)))) gNext)
    (gSeq (gIf (tVal (eU (uIsi "int") (eVar 1))) (gRet (eAnd (eU (uIsi "int") (eVar 0)) (eAnd (eNot (eU (uIsi "bool") (eVar 0))) (eO uEq (eVar 0) (eVar 1))))) gNext)
    (gSeq (gIf (tVal (eU (uIsi "tuple") (eVar 1))) (gIf (tNot (tVal (eU (uIsi "tuple") (eVar 0)))) (gRet (eC (.bool false))) gNext) (gIf (tNot (tVal (eU (uIsi "list") (eVar 0)))) (gRet (eC (.bool false))) gNext))
    (gSeq (gIf (tVal (eO uNe (eA uLen (aCons (eVar 0) aNil)) (eA uLen (aCons (eVar 1) aNil)))) (gRet (eC (.bool false))) gNext)
    (gSeq (gFor (iRng1 (eA uLen (aCons (eVar 1) aNil))) (nName 2) B1_law_same_5)
    (gRet (eC (.bool true)))))))))
theorem F_law_same_5_x : ∃ F, F = fnF 3 G_law_same_5 exitF := ⟨_, rfl⟩
def F_law_same_5 : List Val → M Val := Classical.choose F_law_same_5_x
theorem F_law_same_5_e : F_law_same_5 = fnF 3 G_law_same_5 exitF := Classical.choose_spec F_law_same_5_x
abbrev B1_law_same_6 : DEnv → M Fl := (gIf (tNot (tVal (eCall F_law_same_5 2 (aCons (eO uIx (eVar 0) (eVar 2)) (aCons (eO uIx (eVar 1) (eVar 2)) aNil))))) (gRet (eC (.bool false))) gNext)
def G_law_same_6 : DEnv → M Fl := (gSeq (gIf (tVal (eO uIs (eVar 1) (eC .none))) (gRet (eO uIs (eVar 0) (eC .none))) gNext)
    (gSeq (gIf (tVal (eU (uIsi "str") (eVar 1))) (gRet (eAnd (eU (uIsi "str") (eVar 0)) (eO uEq (eVar 0) (eVar 1)))) gNext)
    (gSeq (gIf (tVal (eU (uIsi "int") (eVar 1))) (gRet (eAnd (eU (uIsi "int") (eVar 0)) (eAnd (eNot (eU (uIsi "bool") (eVar 0))) (eO uEq (eVar 0) (eVar 1))))) gNext)
    (gSeq (gIf (tVal (eU (uIsi "tuple") (eVar 1))) (gIf (tNot (tVal (eU (uIsi "tuple") (eVar 0)))) (gRet (eC (.bool false))) gNext) (gIf (tNot (tVal (eU (uIsi "list") (eVar 0)))) (gRet (eC (.bool false))) gNext))
    (gSeq (gIf (tVal (eO uNe (eA uLen (aCons (eVar 0) aNil)) (eA uLen (aCons (eVar 1) aNil)))) (gRet (eC (.bool false))) gNext)
    (gSeq (gFor (iRng1 (eA uLen (aCons (eVar 1) aNil))) (nName 2) B1_law_same_6)
    (gRet (eC (.bool true)))))))))
theorem F_law_same_6_x : ∃ F, F = fnF 3 G_law_same_6 exitF := ⟨_, rfl⟩
def F_law_same_6 : List Val → M Val := Classical.choose F_law_same_6_x
theorem F_law_same_6_e : F_law_same_6 = fnF 3 G_law_same_6 exitF := Classical.choose_spec F_law_same_6_x
abbrev B1_law_same : DEnv → M Fl := (gIf (tNot (tVal (eCall F_law_same_6 2 (aCons (eO uIx (eVar 0) (eVar 2)) (aCons (eO uIx (eVar 1) (eVar 2)) aNil))))) (gRet (eC (.bool false))) gNext)
def G_law_same : DEnv → M Fl := (gSeq (gIf (tVal (eO uIs (eVar 1) (eC .none))) (gRet (eO uIs (eVar 0) (eC .none))) gNext)
    (gSeq (gIf (tVal (eU (uIsi "str") (eVar 1))) (gRet (eAnd (eU (uIsi "str") (eVar 0)) (eO uEq (eVar 0) (eVar 1)))) gNext)
    (gSeq (gIf (tVal (eU (uIsi "int") (eVar 1))) (gRet (eAnd (eU (uIsi "int") (eVar 0)) (eAnd (eNot (eU (uIsi "bool") (eVar 0))) (eO uEq (eVar 0) (eVar 1))))) gNext)
    (gSeq (gIf (tVal (eU (uIsi "tuple") (eVar 1))) (gIf (tNot (tVal (eU (uIsi "tuple") (eVar 0)))) (gRet (eC (.bool false))) gNext) (gIf (tNot (tVal (eU (uIsi "list") (eVar 0)))) (gRet (eC (.bool false))) gNext))
    (gSeq (gIf (tVal (eO uNe (eA uLen (aCons (eVar 0) aNil)) (eA uLen (aCons (eVar 1) aNil)))) (gRet (eC (.bool false))) gNext)
    (gSeq (gFor (iRng1 (eA uLen (aCons (eVar 1) aNil))) (nName 2) B1_law_same)
    (gRet (eC (.bool true)))))))))
theorem F_law_same_x : ∃ F, F = fnF 3 G_law_same exitF := ⟨_, rfl⟩
def F_law_same : List Val → M Val := Classical.choose F_law_same_x
theorem F_law_same_e : F_law_same = fnF 3 G_law_same exitF := Classical.choose_spec F_law_same_x
abbrev B1_story_of : DEnv → M Fl := (gIf (tVal (eO uEq (eO uIx (eVar 6) (eC (.int 0))) (eC (.str "step")))) (gSeq (gAsg (eCall F_step 2 (aCons (eVar 3) (aCons (eVar 4) aNil))) (nTup 2 (nsCons (nName 7) (nsCons (nName 8) nsNil))))
    (gSeq (gExpr (eBM "list" uAppend (eVar 5) (aCons (eA uTup (aCons (eC (.str "step")) (aCons (eVar 4) (aCons (eVar 7) (aCons (eA uTuple (aCons (eVar 8) aNil)) aNil))))) aNil)))
    (gAsg (eVar 7) (nName 4)))) (gExpr (eBM "list" uAppend (eVar 5) (aCons (eO uAdd (eA uTuple (aCons (eVar 6) aNil)) (eA uTup (aCons (eCall F_done 2 (aCons (eVar 3) (aCons (eVar 6) aNil))) aNil))) aNil))))
def G_story_of : DEnv → M Fl := (gSeq (gAsg (eMakeB nzT 1 F_table_init 4 (aCons (eVar 0) (aCons (eVar 1) (aCons (eC .none) aNil)))) (nName 3))
    (gSeq (gAsg (eC (.int 0)) (nName 4))
    (gSeq (gAsg (eA uLstM aNil) (nName 5))
    (gSeq (gFor (iSeq (eVar 2)) (nName 6) B1_story_of)
    (gRet (eVar 5))))))
theorem F_story_of_x : ∃ F, F = fnF 9 G_story_of exitN := ⟨_, rfl⟩
def F_story_of : List Val → M Val := Classical.choose F_story_of_x
theorem F_story_of_e : F_story_of = fnF 9 G_story_of exitN := Classical.choose_spec F_story_of_x
abbrev B1_law_point : DEnv → M Fl := (gAsg (eO uAdd (eVar 1) (eO uMul (eO uBand (eO uShr (eVar 0) (eVar 2)) (eC (.int 1))) (eO uShr (eC (.int 32768)) (eVar 2)))) (nName 1))
def G_law_point : DEnv → M Fl := (gSeq (gAsg (eC (.int 0)) (nName 1))
    (gSeq (gFor (iRng1 (eC (.int 16))) (nName 2) B1_law_point)
    (gRet (eVar 1))))
theorem F_law_point_x : ∃ F, F = fnF 3 G_law_point exitF := ⟨_, rfl⟩
def F_law_point : List Val → M Val := Classical.choose F_law_point_x
theorem F_law_point_e : F_law_point = fnF 3 G_law_point exitF := Classical.choose_spec F_law_point_x
end
end GQ
set_option Elab.async false
set_option linter.all false
set_option maxRecDepth 100000
set_option maxHeartbeats 4000000
namespace GP
open PySem L2 PyProof.Rows DM PG TM PS
noncomputable section
/-! pots: what is taken -/
def pOb (r : Int × Int × Int) : Ob := .lst [.int r.1, .int r.2.1, .int r.2.2]
theorem blw_p {n : Nat} {r : Int × Int × Int} : (pOb r).blw n = true := rfl
theorem emod_b (a : Int) {m : Int} (h : 0 < m) : 0 ≤ a % m ∧ a % m < m := ⟨Int.emod_nonneg _ (by omega), Int.emod_lt_of_pos _ h⟩
theorem plA_mem {n : Nat} : ∀ {xs : List PyData}, plA n xs = true → ∀ d ∈ xs, plD n d = true
  | [], _, d, h => by cases h
  | x :: xs, e, d, h => by
    simp only [plA, Bool.and_eq_true] at e
    rcases List.mem_cons.mp h with rfl | h
    · exact e.1
    · exact plA_mem e.2 d h
theorem plA_all {n : Nat} {xs : List PyData} (h : ∀ d ∈ xs, plD n d = true) : plA n xs = true := by
  induction xs with
  | nil => rfl
  | cons x xs ih =>
    rw [plA, h x (List.mem_cons_self ..), ih fun d hd => h d (List.mem_cons_of_mem _ hd)]
    rfl
theorem mixed_ex (c k : Int) (S : Store) : ∃ v : Int, F_law_mixed [.pd (.int c), .pd (.int k)] S = some (.pd (.int v), S) := by
  have q1 := emod_b ((c % 2147483647 + 7919 * k + 1) * 48271) (m := 2147483647) (by omega)
  have c0 : CMul 7919 k := .inl (by decide)
  have c1 : CMul (c % 2147483647 + 7919 * k + 1) 48271 := .inr (by decide)
  rw [F_law_mixed_e, fnF_e]
  unfold G_law_mixed
  generalize hq : (c % 2147483647 + 7919 * k + 1) * 48271 % 2147483647 = q at q1
  have c2 : CMul q q := .inl (by omega)
  have c3 : CMul 40692 (k + 3) := .inl (by decide)
  have c4 : CMul (q * q % 2147483629 + 40692 * (k + 3)) 69621 := .inr (by decide)
  simp -implicitDefEqProofs [startD, c0, c1, hq, c2, c3, c4, exitF_same]
theorem take_ex {S : Store} {h : Nat} {r : Int × Int × Int} {m : Int} (e : S[h]? = some (pOb r)) (hm : 0 < m ∧ m < 1073741824 * 4) : ∃ v r', 0 ≤ v ∧ v < m ∧ F_law_take [.obj h, .pd (.int m)] S = some (.pd (.int v), S.set h (pOb r')) := by
  obtain ⟨a, b, c⟩ := r
  have hh := lt_of_get e
  unfold pOb at e
  have hd : m < 1073741824 ∨ m.natAbs.log2 < 9000 := .inr (log2_lt hm)
  by_cases hc : 0 < a
  · refine ⟨a % m, (a / m, b, c + 1), (emod_b _ hm.1).1, (emod_b _ hm.1).2, ?_⟩
    have e1 : (S.set h (.lst [.int a, .int b, .int (c + 1)]))[h]? = some (.lst [.int a, .int b, .int (c + 1)]) := List.getElem?_set_self hh
    rw [F_law_take_e, fnF_e]
    unfold G_law_take
    simp -implicitDefEqProofs [startD, uIx_obj e, atI, ixN, hc, hm.1, hd, uSet_obj e, uIx_set hh, uSet_obj e1, exitF_same, pOb]
  · obtain ⟨v, hv⟩ := mixed_ex b (c + 1) (S.set h (pOb (a, b, c + 1)))
    refine ⟨v % m, (a, b, c + 1), (emod_b _ hm.1).1, (emod_b _ hm.1).2, ?_⟩
    unfold pOb at hv
    rw [F_law_take_e, fnF_e]
    unfold G_law_take
    simp -implicitDefEqProofs [startD, uIx_obj e, atI, ixN, hc, hm.1, hd, uSet_obj e, uIx_set hh, hv, exitF_same, pOb]
section
variable {β : Type} {S : Store} {h : Nat} {w : Int × Int × Int} {m : Int} {k : Val → M β} {P : β → Store → Prop} {Q : Val → Store → Prop}
theorem take_c (e : S[h]? = some (pOb w)) (hm : 0 < m ∧ m < 1073741824 * 4) (hQ : ∀ v w', 0 ≤ v → v < m → Q (.pd (.int v)) (S.set h (pOb w'))) : Ok (F_law_take [.obj h, .pd (.int m)] S) Q := by
  obtain ⟨v, w', a, b, e⟩ := take_ex e hm
  exact Ok.of_eq e (hQ v w' a b)
theorem take_ok (e : S[h]? = some (pOb w)) (hm : 0 < m ∧ m < 1073741824 * 4) (hk : ∀ v w', 0 ≤ v → v < m → Ok (k (.pd (.int v)) (S.set h (pOb w'))) P) : Ok (bindR (F_law_take [.obj h, .pd (.int m)] S) k) P := ok_b (take_c e hm hk)
theorem take_set (hh : h < S.length) (hm : 0 < m ∧ m < 1073741824 * 4) (hk : ∀ v w', 0 ≤ v → v < m → Ok (k (.pd (.int v)) (S.set h (pOb w'))) P) : Ok (bindR (F_law_take [.obj h, .pd (.int m)] (S.set h (pOb w))) k) P :=
  take_ok (List.getElem?_set_self hh) hm fun v w' a b => by
    rw [List.set_set]
    exact hk v w' a b
theorem take_set1 (e : S[h]? = some (pOb w)) (hm : 0 < m ∧ m < 1073741824 * 4) (hk : ∀ v w', 0 ≤ v → v < m → Ok (k (.pd (.int v)) (S.set h (pOb w'))) P) : Ok (bindR (F_law_take [.obj h, .pd (.int m)] S) k) P := take_ok e hm hk
end
theorem pot_ok {S : Store} {c : Int} {β : Type} {k : Val → M β} {P : β → Store → Prop} (w : Wf S) (hk : ∀ u, Ok (k (.obj S.length) (S ++ [pOb u])) P) : Ok (bindR (F_law_pot [.pd (.int c)] S) k) P := by
  have c50 : CPow 10 50 := by decide
  have c18 : CPow 10 18 := by decide
  have e : ∃ u, F_law_pot [.pd (.int c)] S = some (.obj S.length, S ++ [pOb u]) := by
    obtain ⟨q, hq⟩ : ∃ q : Int, q = 10 ^ 50 := ⟨_, rfl⟩
    have p1 : CMul q q ∨ CMulW q q := by
      rw [hq]
      exact .inr (by decide +kernel)
    have p2 : CMul (q * q) q ∨ CMulW (q * q) q := by
      rw [hq]
      exact .inr (by decide +kernel)
    have p3 : 0 < q * q * q := by
      rw [hq]
      decide +kernel
    have p4 : q * q * q < 1073741824 ∨ (q * q * q).natAbs.log2 < 9000 := by
      rw [hq]
      exact .inr (by decide +kernel)
    have e50 : ∀ S, uPow (.pd (.int 10)) (.pd (.int 50)) S = some (.pd (.int q), S) := fun S => by
      rw [hq]
      simp [c50]
    have e18 : ∀ S, uPow (.pd (.int 10)) (.pd (.int 18)) S = some (.pd (.int 1000000000000000000), S) := fun S => by simp [c18]
    have m3 : ∀ x : Int, CMul x 1 := fun x => .inr (by decide)
    have m4 : ∀ x : Int, CMul x 0 := fun x => .inr (by decide)
    clear hq
    rw [F_law_pot_e, fnF_e]
    unfold G_law_pot
    by_cases h : (1000000000000000000 : Int) ≤ c
    · refine ⟨(c % (q * q * q) * 1, c, 0), ?_⟩
      simp -implicitDefEqProofs [startD, e50, e18, -uPow_int, p1, p2, p3, p4, h, m3, m4, uLstM, pOb]
      exact exitN_app w rfl (fun u z => by cases z)
    · refine ⟨(c % (q * q * q) * 0, c, 0), ?_⟩
      simp -implicitDefEqProofs [startD, e50, e18, -uPow_int, p1, p2, p3, p4, h, m3, m4, uLstM, pOb]
      exact exitN_app w rfl (fun u z => by cases z)
  obtain ⟨u, e⟩ := e
  rw [e]
  exact hk u
def mxR (mx : Int × Int) : Prop := (0 ≤ mx.1 ∧ mx.1 ≤ 65535) ∧ 0 ≤ mx.2 ∧ mx.2 ≤ 65535
section
variable {S : Store} {h : Nat} {w : Int × Int × Int} {Q : Val → Store → Prop}
theorem mixer_c (e : S[h]? = some (pOb w)) (hQ : ∀ mx w', mxR mx → Q (.pd (pr mx)) (S.set h (pOb w'))) : Ok (F_law_mixer [.obj h] S) Q := by
  have hh := lt_of_get e
  rw [F_law_mixer_e, fnF_e]
  unfold G_law_mixer
  simp -implicitDefEqProofs [startD, uTup, uLst]
  refine take_ok e (by omega) fun a w1 a0 a1 => ?_
  refine take_set hh (by omega) fun b w2 b0 b1 => ?_
  have r1 := emod_b a (m := 16) (by omega)
  have cm : CMul 4096 (a % 16) := .inl (by decide)
  simp -implicitDefEqProofs [uTup, uLst, atI, ixN, cm]
  refine take_set hh (by omega) fun c w3 c0 c1 => ?_
  refine ok_pick c0 (by simpa using c1) fun fd hf => ?_
  obtain ⟨mx, rfl, f1⟩ : ∃ mx : Int × Int, fd = pr mx ∧ mxR mx := by
    simp only [List.mem_cons, List.not_mem_nil, or_false] at hf
    have lit : ∀ x y : Int, (0 ≤ x ∧ x ≤ 65535) ∧ 0 ≤ y ∧ y ≤ 65535 → fd = pr (x, y) → ∃ mx, fd = pr mx ∧ mxR mx := fun x y h e => ⟨(x, y), e, h⟩
    rcases hf with h | h | h | h <;> exact lit _ _ (by omega) h
  rw [exitF_same (by simp), ok_some]
  exact hQ mx w3 f1
theorem worth_c (e : S[h]? = some (pOb w)) (hQ : ∀ v w', Q (.pd (.int v)) (S.set h (pOb w'))) : Ok (F_law_worth [.obj h] S) Q := by
  have hh := lt_of_get e
  have c9 : CPow 10 9 := by decide
  have cm : CMul 2 1000000000 := .inl (by decide)
  rw [F_law_worth_e, fnF_e]
  unfold G_law_worth
  simp -implicitDefEqProofs [startD, uLst, c9, cm]
  refine take_ok e (by omega) fun a1 w1 p1 q1 => ?_
  simp -implicitDefEqProofs [c9, cm]
  refine take_set hh (by omega) fun a2 w2 p2 q2 => ?_
  simp -implicitDefEqProofs [c9, uLst]
  refine take_set hh (by omega) fun a3 w3 p3 q3 => ?_
  refine ok_pick p3 (by simpa using q3) fun fd hf => ?_
  obtain ⟨k, rfl⟩ : ∃ k : Int, fd = .int k := by
    simp only [List.mem_cons, List.not_mem_nil, or_false] at hf
    rcases hf with h | h | h <;> exact ⟨_, h⟩
  rw [exitF_same (by simp), ok_some]
  exact hQ k w3
theorem keys_c {many : Nat} (hm : many ≤ 1000) (e : S[h]? = some (pOb w)) (hQ : ∀ (ks : List Int) w', ks.length = many → Q (.pd (.list (ks.map PyData.int))) (S.set h (pOb w'))) : Ok (F_law_keys [.obj h, .pd (.int many)] S) Q := by
  have hh := lt_of_get e
  have c9 : CPow 10 9 := by decide
  have c6 : CPow 10 6 := by decide
  rw [F_law_keys_e, fnF_e]
  unfold G_law_keys
  simp -implicitDefEqProofs [startD, uLst, c9, c6, -rng1_int]
  refine take_ok e (by omega) fun a1 w1 p1 q1 => ?_
  refine take_set hh (by omega) fun a2 w2 p2 q2 => ?_
  simp -implicitDefEqProofs [uLst, c9, c6, -rng1_int]
  refine take_set hh (by omega) fun a3 w3 p3 q3 => ?_
  simp -implicitDefEqProofs [uLst, c9, c6, -rng1_int]
  refine take_set hh (by omega) fun a4 w4 p4 q4 => ?_
  refine ok_pick p4 (by simpa using q4) fun fd hf => ?_
  obtain ⟨st, rfl⟩ : ∃ k : Int, fd = .int k := by
    simp only [List.mem_cons, List.not_mem_nil, or_false] at hf
    rcases hf with h | h | h <;> exact ⟨_, h⟩
  refine take_set hh (by omega) fun a5 w5 p5 q5 => ?_
  simp -implicitDefEqProofs [uLst, c9, c6, -rng1_int]
  refine take_set hh (by omega) fun a6 w6 p6 q6 => ?_
  refine ok_pick p6 (by simpa using q6) fun fd hf => ?_
  obtain ⟨by', rfl, f1, f2⟩ : ∃ k : Int, fd = .int k ∧ 0 ≤ k ∧ k ≤ 1000001 := by
    simp only [List.mem_cons, List.not_mem_nil, or_false] at hf
    have lit : ∀ x : Int, 0 ≤ x ∧ x ≤ 1000001 → fd = .int x → ∃ v : Int, fd = .int v ∧ 0 ≤ v ∧ v ≤ 1000001 := fun x h e => ⟨x, e, h⟩
    rcases hf with h | h | h | h <;> exact lit _ (by omega) h
  have cm : ∀ i : Int, CMul by' i := fun i => .inl (by omega)
  rw [rng1_int, if_pos ⟨by omega, by omega⟩, rgI0]
  have lc := fun ρ4 S' => loopC_map (S := S') (gg := nName 4) (ft := tYesD) (fe := eO uMod (eO uAdd (eVar 2) (eO uMul (eVar 3) (eVar 4))) (eO uAdd (eO uPow (eC (.int 10)) (eC (.int 9))) (eC (.int 1)))) (ρ := [some (.obj h), some (.pd (.int many)), some (.pd (.int st)), some (.pd (.int by')), ρ4])
    (g := fun i : Nat => Val.pd (.int (i : Int))) (f := fun i : Nat => PyData.int ((st + by' * (i : Nat)) % (1000000000 + 1))) (List.range many) [] (fun x _ => by
      simp -implicitDefEqProofs [c9, cm]) (by simp; omega)
  simp -implicitDefEqProofs [lc, exitF_same]
  have := hQ ((List.range many).map fun i : Nat => (st + by' * (i : Nat)) % (1000000000 + 1)) w6 (by simp)
  simpa [List.map_map, Function.comp_def] using this
end
end
end GP
set_option Elab.async false
set_option linter.all false
set_option maxRecDepth 100000
set_option maxHeartbeats 4000000
namespace GQ
open PySem L2 PyProof.Rows DM PG PW GP TM PS
noncomputable section
/-! what is the same as itself (index by index) -/
mutual
def plL : Nat → PyData → Bool
  | _, .none => true
  | _, .int _ => true
  | _, .str x => PyData.strOk x
  | n + 1, .list xs => decide (xs.length ≤ 1000000) && plM n xs
  | n + 1, .tuple xs => decide (xs.length ≤ 1000000) && plM n xs
  | _, _ => false
def plM : Nat → List PyData → Bool
  | _, [] => true
  | n, x :: xs => plL n x && plM n xs
end
theorem plM_mem {n : Nat} : ∀ {xs : List PyData}, plM n xs = true → ∀ d ∈ xs, plL n d = true
  | [], _, d, h => by cases h
  | x :: xs, e, d, h => by
    simp only [plM, Bool.and_eq_true] at e
    rcases List.mem_cons.mp h with rfl | h
    · exact e.1
    · exact plM_mem e.2 d h
theorem plM_all {n : Nat} {xs : List PyData} (h : ∀ d ∈ xs, plL n d = true) : plM n xs = true := by
  induction xs with
  | nil => rfl
  | cons x xs ih =>
    rw [plM, h x (List.mem_cons_self ..), ih fun d hd => h d (List.mem_cons_of_mem _ hd)]
    rfl
theorem plL_list {n : Nat} {xs : List PyData} (hl : xs.length ≤ 1000000) (h : ∀ d ∈ xs, plL n d = true) : plL (n + 1) (.list xs) = true := by
  rw [plL, plM_all h]
  simp [hl]
theorem plL_tup {n : Nat} {xs : List PyData} (hl : xs.length ≤ 1000000) (h : ∀ d ∈ xs, plL n d = true) : plL (n + 1) (.tuple xs) = true := by
  rw [plL, plM_all h]
  simp [hl]
mutual
theorem plL_pl : ∀ (n : Nat) (d : PyData), plL n d = true → plD n d = true
  | n, .none, _ => by unfold plD; rfl
  | n, .int i, _ => by unfold plD; rfl
  | n, .str s, h => by
    unfold plL at h
    unfold plD
    exact h
  | n + 1, .list xs, h => by
    unfold plL at h
    unfold plD
    rw [Bool.and_eq_true] at h
    exact plM_pl n xs h.2
  | n + 1, .tuple xs, h => by
    unfold plL at h
    unfold plD
    rw [Bool.and_eq_true] at h
    exact plM_pl n xs h.2
  | 0, .list xs, h => by unfold plL at h; cases h
  | 0, .tuple xs, h => by unfold plL at h; cases h
  | n, .bool b, h => by cases n <;> (unfold plL at h; cases h)
  | n, .dict b, h => by cases n <;> (unfold plL at h; cases h)
theorem plM_pl : ∀ (n : Nat) (xs : List PyData), plM n xs = true → plA n xs = true
  | n, [], _ => by unfold plA; rfl
  | n, x :: xs, h => by
    unfold plM at h
    unfold plA
    rw [Bool.and_eq_true] at h ⊢
    exact ⟨plL_pl n x h.1, plM_pl n xs h.2⟩
end
mutual
theorem plL_up : ∀ (n m : Nat) (d : PyData), n ≤ m → plL n d = true → plL m d = true
  | n, m, .none, _, _ => by unfold plL; rfl
  | n, m, .int i, _, _ => by unfold plL; rfl
  | n, m, .str s, _, h => by
    unfold plL at h ⊢
    exact h
  | n + 1, m + 1, .list xs, hm, h => by
    unfold plL at h ⊢
    rw [Bool.and_eq_true] at h ⊢
    exact ⟨h.1, plM_up n m xs (by omega) h.2⟩
  | n + 1, m + 1, .tuple xs, hm, h => by
    unfold plL at h ⊢
    rw [Bool.and_eq_true] at h ⊢
    exact ⟨h.1, plM_up n m xs (by omega) h.2⟩
  | 0, m, .list xs, _, h => by unfold plL at h; cases h
  | 0, m, .tuple xs, _, h => by unfold plL at h; cases h
  | n + 1, 0, .list xs, hm, _ => by omega
  | n + 1, 0, .tuple xs, hm, _ => by omega
  | n, m, .bool b, _, h => by cases n <;> (unfold plL at h; cases h)
  | n, m, .dict b, _, h => by cases n <;> (unfold plL at h; cases h)
theorem plM_up : ∀ (n m : Nat) (xs : List PyData), n ≤ m → plM n xs = true → plM m xs = true
  | n, m, [], _, _ => by unfold plM; rfl
  | n, m, x :: xs, hm, h => by
    unfold plM at h ⊢
    rw [Bool.and_eq_true] at h ⊢
    exact ⟨plL_up n m x hm h.1, plM_up n m xs hm h.2⟩
end
def bodyG (F : List Val → M Val) : DEnv → M Fl := gIf (tNot (tVal (eCall F 2 (aCons (eO uIx (eVar 0) (eVar 2)) (aCons (eO uIx (eVar 1) (eVar 2)) aNil))))) (gRet (eC (.bool false))) gNext
def sameG (F : List Val → M Val) : DEnv → M Fl := (gSeq (gIf (tVal (eO uIs (eVar 1) (eC .none))) (gRet (eO uIs (eVar 0) (eC .none))) gNext)
    (gSeq (gIf (tVal (eU (uIsi "str") (eVar 1))) (gRet (eAnd (eU (uIsi "str") (eVar 0)) (eO uEq (eVar 0) (eVar 1)))) gNext)
    (gSeq (gIf (tVal (eU (uIsi "int") (eVar 1))) (gRet (eAnd (eU (uIsi "int") (eVar 0)) (eAnd (eNot (eU (uIsi "bool") (eVar 0))) (eO uEq (eVar 0) (eVar 1))))) gNext)
    (gSeq (gIf (tVal (eU (uIsi "tuple") (eVar 1))) (gIf (tNot (tVal (eU (uIsi "tuple") (eVar 0)))) (gRet (eC (.bool false))) gNext) (gIf (tNot (tVal (eU (uIsi "list") (eVar 0)))) (gRet (eC (.bool false))) gNext))
    (gSeq (gIf (tVal (eO uNe (eA uLen (aCons (eVar 0) aNil)) (eA uLen (aCons (eVar 1) aNil)))) (gRet (eC (.bool false))) gNext)
    (gSeq (gFor (iRng1 (eA uLen (aCons (eVar 1) aNil))) (nName 2) (bodyG F))
    (gRet (eC (.bool true)))))))))
theorem same_loop {F : List Val → M Val} {S : Store} {a b : Val} : ∀ (is : List Nat) (x : Option Val), (∀ i ∈ is, ∃ d, uIx a (.pd (.int (i : Nat))) S = some (.pd d, S) ∧ uIx b (.pd (.int (i : Nat))) S = some (.pd d, S) ∧ F [.pd d, .pd d] S = some (.pd (.bool true), S)) → ∃ x', loopG (nName 2) (bodyG F) (is.map fun i : Nat => Val.pd (.int i)) [some a, some b, x] S = some (.nx [some a, some b, x'], S)
  | [], x, _ => ⟨x, rfl⟩
  | i :: r, x, h => by
    obtain ⟨x', e⟩ := same_loop (a := a) (b := b) r (some (.pd (.int (i : Nat)))) fun q hq => h q (List.mem_cons_of_mem _ hq)
    obtain ⟨d, h1, h2, h3⟩ := h i (List.mem_cons_self ..)
    refine ⟨x', ?_⟩
    rw [List.map_cons, loopG_cons]
    unfold bodyG
    simp -implicitDefEqProofs [h1, h2, h3]
    exact e
theorem ix_list {S : Store} {xs : List PyData} {i : Nat} (h : i < xs.length) : uIx (.pd (.list xs)) (.pd (.int (i : Nat))) S = some (.pd xs[i], S) := by
  simp [uIx_list, atI_in h, h]
theorem ix_tup {S : Store} {xs : List PyData} {i : Nat} (h : i < xs.length) : uIx (.pd (.tuple xs)) (.pd (.int (i : Nat))) S = some (.pd xs[i], S) := by
  simp [uIx_tup, atI_in h, h]
theorem ix_obj {S : Store} {hd : Nat} {xs : List PyData} (e : S[hd]? = some (.lst xs)) {i : Nat} (h : i < xs.length) : uIx (.obj hd) (.pd (.int (i : Nat))) S = some (.pd xs[i], S) := by
  simp [uIx_obj e, atI_in h, h]
theorem same_lst {F F' : List Val → M Val} (hF : F' = fnF 3 (sameG F) exitF) {n : Nat} (ih : ∀ d S, plL n d = true → F [.pd d, .pd d] S = some (.pd (.bool true), S)) {a : Val} {xs : List PyData} {S : Store} (hx : plM n xs = true) (hl : xs.length ≤ 1000000)
    (a2 : uIsi "list" a S = some (.pd (.bool true), S)) (a3 : uLen [a] S = some (.pd (.int xs.length), S)) (a4 : ∀ i (h : i < xs.length), uIx a (.pd (.int (i : Nat))) S = some (.pd xs[i], S)) : F' [a, .pd (.list xs)] S = some (.pd (.bool true), S) := by
  have b2 : uIsi "int" (.pd (.list xs)) S = some (.pd (.bool false), S) := uIsi_e tyN_list kitB_list_int
  have b3 : uIsi "str" (.pd (.list xs)) S = some (.pd (.bool false), S) := uIsi_e tyN_list kitB_list_str
  have b5 : uIsi "tuple" (.pd (.list xs)) S = some (.pd (.bool false), S) := uIsi_e tyN_list kitB_list_tuple
  have b4 : isNon (.pd (.list xs)) = false := rfl
  obtain ⟨x', e⟩ := same_loop (F := F) (S := S) (a := a) (b := .pd (.list xs)) (List.range xs.length) none fun i hi => by
    rw [List.mem_range] at hi
    exact ⟨xs[i], a4 i hi, ix_list hi, ih _ S (plM_mem hx _ (List.getElem_mem hi))⟩
  rw [hF, fnF_e]
  unfold sameG
  simp -implicitDefEqProofs [startD, b2, b3, b4, b5, a2, a3, -rng1_int]
  rw [rng1_int, if_pos ⟨by omega, by omega⟩]
  simp -implicitDefEqProofs only [bindR_some, un_none, Int.toNat_natCast, rgI0]
  simp -implicitDefEqProofs [e, exitF_same]
theorem same_step {F F' : List Val → M Val} (hF : F' = fnF 3 (sameG F) exitF) {n : Nat} (ih : ∀ d S, plL n d = true → F [.pd d, .pd d] S = some (.pd (.bool true), S)) (hn : n < 60) (d : PyData) (S : Store) (h : plL (n + 1) d = true) : F' [.pd d, .pd d] S = some (.pd (.bool true), S) := by
  cases d with
  | none =>
    rw [hF, fnF_e]
    unfold sameG
    simp -implicitDefEqProofs [startD, exitF_same]
  | int i =>
    have a1 : uIsi "str" (.pd (.int i)) S = some (.pd (.bool false), S) := uIsi_e tyN_int kitB_int_str
    rw [hF, fnF_e]
    unfold sameG
    simp -implicitDefEqProofs [startD, a1, exitF_same]
  | str s =>
    have e := uEq_self (S := S) (plL_pl _ _ h) (by omega)
    have a1 : uIsi "str" (.pd (.str s)) S = some (.pd (.bool true), S) := uIsi_e tyN_str kitB_str_str
    have a4 : isNon (.pd (.str s)) = false := rfl
    rw [hF, fnF_e]
    unfold sameG
    simp -implicitDefEqProofs [startD, a1, a4, e, exitF_same]
  | list xs =>
    unfold plL at h
    simp only [Bool.and_eq_true, decide_eq_true_eq] at h
    exact same_lst hF ih h.2 h.1 (uIsi_e tyN_list kitB_list_list) uLen_list fun i hi => ix_list hi
  | tuple xs =>
    unfold plL at h
    simp only [Bool.and_eq_true, decide_eq_true_eq] at h
    obtain ⟨hl, hx⟩ := h
    have b2 : uIsi "int" (.pd (.tuple xs)) S = some (.pd (.bool false), S) := uIsi_e tyN_tup kitB_tuple_int
    have b3 : uIsi "str" (.pd (.tuple xs)) S = some (.pd (.bool false), S) := uIsi_e tyN_tup kitB_tuple_str
    have b5 : uIsi "tuple" (.pd (.tuple xs)) S = some (.pd (.bool true), S) := uIsi_e tyN_tup kitB_tuple_tuple
    have b4 : isNon (.pd (.tuple xs)) = false := rfl
    obtain ⟨x', e⟩ := same_loop (F := F) (S := S) (a := .pd (.tuple xs)) (b := .pd (.tuple xs)) (List.range xs.length) none fun i hi => by
      rw [List.mem_range] at hi
      exact ⟨xs[i], ix_tup hi, ix_tup hi, ih _ S (plM_mem hx _ (List.getElem_mem hi))⟩
    rw [hF, fnF_e]
    unfold sameG
    simp -implicitDefEqProofs [startD, b2, b3, b4, b5, -rng1_int]
    rw [rng1_int, if_pos ⟨by omega, by omega⟩]
    simp -implicitDefEqProofs only [bindR_some, un_none, Int.toNat_natCast, rgI0]
    simp -implicitDefEqProofs [e, exitF_same]
  | _ => cases h
theorem same_0 (d : PyData) (S : Store) (h : plL 0 d = true) : fnF 3 (sameG F_law_same_0) exitF [.pd d, .pd d] S = some (.pd (.bool true), S) := by
  cases d with
  | none =>
    rw [fnF_e]
    unfold sameG
    simp -implicitDefEqProofs [startD, exitF_same]
  | int i =>
    have a1 : uIsi "str" (.pd (.int i)) S = some (.pd (.bool false), S) := uIsi_e tyN_int kitB_int_str
    rw [fnF_e]
    unfold sameG
    simp -implicitDefEqProofs [startD, a1, exitF_same]
  | str s =>
    have e := uEq_self (S := S) (plL_pl _ _ h) (by omega)
    have a1 : uIsi "str" (.pd (.str s)) S = some (.pd (.bool true), S) := uIsi_e tyN_str kitB_str_str
    have a4 : isNon (.pd (.str s)) = false := rfl
    rw [fnF_e]
    unfold sameG
    simp -implicitDefEqProofs [startD, a1, a4, e, exitF_same]
  | _ => cases h
theorem same_6 (d : PyData) (S : Store) (h : plL 5 d = true) : F_law_same_6 [.pd d, .pd d] S = some (.pd (.bool true), S) := by
  have s1 : ∀ d S, plL 0 d = true → F_law_same_1 [.pd d, .pd d] S = some (.pd (.bool true), S) := fun d S h => by
    rw [F_law_same_1_e]
    exact same_0 d S h
  have s2 := fun d S h => same_step (F' := F_law_same_2) F_law_same_2_e (n := 0) s1 (by omega) d S h
  have s3 := fun d S h => same_step (F' := F_law_same_3) F_law_same_3_e (n := 1) s2 (by omega) d S h
  have s4 := fun d S h => same_step (F' := F_law_same_4) F_law_same_4_e (n := 2) s3 (by omega) d S h
  have s5 := fun d S h => same_step (F' := F_law_same_5) F_law_same_5_e (n := 3) s4 (by omega) d S h
  exact same_step (F' := F_law_same_6) F_law_same_6_e (n := 4) s5 (by omega) d S h
/-- plain data is the same as itself, six deep -/
theorem same_eq (d : PyData) (S : Store) (h : plL 6 d = true) : F_law_same [.pd d, .pd d] S = some (.pd (.bool true), S) := same_step (F' := F_law_same) F_law_same_e (n := 5) same_6 (by omega) d S h
/-- .. and a list of the store as what it holds -/
theorem same_obj {hd : Nat} {xs : List PyData} {S : Store} (e : S[hd]? = some (.lst xs)) (h : plL 6 (.list xs) = true) : F_law_same [.obj hd, .pd (.list xs)] S = some (.pd (.bool true), S) := by
  unfold plL at h
  simp only [Bool.and_eq_true, decide_eq_true_eq] at h
  exact same_lst F_law_same_e same_6 h.2 h.1 (uIsi_e (by simp [tyN, e]) kitB_list_list) (uLen_lst e) fun i hi => ix_obj e hi
end
end GQ
set_option Elab.async false
set_option linter.all false
set_option maxRecDepth 100000
set_option maxHeartbeats 4000000
namespace GP
open PySem L2 PyProof.Rows DM PG TM PS
noncomputable section
/-! pots: deeds -/
section
variable {S : Store} {h : Nat} {w : Int × Int × Int} {Q : Val → Store → Prop}
theorem any_c {ks : List Int} (hl : ks.length ≤ 10000) (e : S[h]? = some (pOb w)) (hQ : ∀ (d : Deed) w', d.key ∈ ks ∨ (0 ≤ d.key ∧ d.key < 20) → Q (.pd (dD d)) (S.set h (pOb w'))) : Ok (F_law_any [.obj h, .pd (.list (ks.map PyData.int))] S) Q := by
  have hh := lt_of_get e
  rw [F_law_any_e, fnF_e]
  unfold G_law_any
  simp -implicitDefEqProofs [startD, uLst]
  refine take_ok e (by omega) fun a w1 a0 a1 => ?_
  have l1 : ks.length + 1 ≤ 16777216 := by omega
  simp -implicitDefEqProofs [uLst, l1]
  refine take_set hh (by omega) fun b w2 b0 b1 => ?_
  refine ok_pick b0 (by simp; omega) fun fd hf => ?_
  obtain ⟨k, rfl, hk⟩ : ∃ k : Int, fd = .int k ∧ (k ∈ ks ∨ (0 ≤ k ∧ k < 20)) := by
    rcases List.mem_append.mp hf with h | h
    · obtain ⟨z, hz, rfl⟩ := List.mem_map.mp h
      exact ⟨z, rfl, .inl hz⟩
    · simp at h
      exact ⟨_, h, .inr ⟨a0, a1⟩⟩
  refine take_set hh (by omega) fun c w3 c0 c1 => ?_
  simp -implicitDefEqProofs
  refine ok_ite (fun h2 => ?_) (fun h2 => ?_)
  · refine ok_b (worth_c (List.getElem?_set_self hh) fun v w4 => ?_)
    simp -implicitDefEqProofs [uTup, List.set_set]
    rw [exitF_same (by simp), ok_some]
    exact hQ (.put k v) w4 hk
  · obtain ⟨j, rfl⟩ : ∃ j : Int, c = j + 2 := ⟨c - 2, by omega⟩
    simp -implicitDefEqProofs [uTup, uLst]
    refine ok_pick (by omega) (by simp; omega) fun fd hf => ?_
    obtain ⟨d, rfl, hd⟩ : ∃ d : Deed, fd = dD d ∧ d.key = k := by
      simp only [List.mem_cons, List.not_mem_nil, or_false] at hf
      rcases hf with h | h | h
      · exact ⟨.look k, h, rfl⟩
      · exact ⟨.cut k, h, rfl⟩
      · exact ⟨.cut k, h, rfl⟩
    rw [exitF_same (by simp), ok_some]
    exact hQ d w3 (by rw [hd]; exact hk)
end
theorem gather {α : Type} {gg : Val → DEnv → M DEnv} {ft : DEnv → M Bool} {fe : DEnv → M Val} {ρ : DEnv} {g : α → Val} {S : Store} {h : Nat}
    (ht : ∀ (x : α) (w : Int × Int × Int) (P : Option PyData → Store → Prop), (∀ (d : Deed) w', P (some (dD d)) (S.set h (pOb w'))) → Ok (turnC gg ft fe (g x) ρ (S.set h (pOb w))) P) (xs : List α) (hl : xs.length ≤ 10000) (w : Int × Int × Int) {Q : List PyData → Store → Prop}
    (hQ : ∀ (ds : List Deed) w', ds.length = xs.length → Q (ds.map dD) (S.set h (pOb w'))) : Ok (loopC gg ft fe ρ (xs.map g) [] (S.set h (pOb w))) Q := by
  refine ok_loopC (fun r acc S' => ∃ (ds : List Deed) (w' : Int × Int × Int), acc = ds.map dD ∧ S' = S.set h (pOb w') ∧ ds.length + r.length = xs.length) ?_ ?_ ?_ xs [] _ ⟨[], w, rfl, rfl, by simp⟩
  · rintro x r acc S' ⟨ds, w', rfl, rfl, l⟩
    simp at l ⊢
    omega
  · rintro x r acc S' ⟨ds, w', rfl, rfl, l⟩
    refine ht x w' _ fun d w2 => ⟨ds ++ [d], w2, by simp, rfl, by simp at l ⊢; omega⟩
  · rintro acc S' ⟨ds, w', rfl, rfl, l⟩
    exact hQ ds w' (by simpa using l)
theorem cutP_le {α : Type} {xs : List α} {lo hi : Option Int} : (cutP xs lo hi).length ≤ xs.length := by
  unfold cutP
  simp
  omega
def EnvP (h : Nat) (most : Int) (ds : List Deed) (ks : List Int) (ρ : DEnv) : Prop := ∃ x4 x5 x6 x7 x8 x9, ρ = [some (.obj h), some (.pd (.int most)), some (.pd (.list (ds.map dD))), some (.pd (.list (ks.map PyData.int))), x4, x5, x6, x7, x8, x9]
theorem uEq_nil {S : Store} {ks : List Int} : uEq (.pd (.list (ks.map PyData.int))) (.pd (.list [])) S = some (.pd (.bool ks.isEmpty), S) := by
  have p1 : plD 1 (.list (ks.map PyData.int)) = true := plA_all fun d hd => by
    obtain ⟨z, _, rfl⟩ := List.mem_map.mp hd
    rfl
  refine uEq_D (n := 1) (m := 1) rfl rfl p1 rfl (by omega) (by omega) ?_
  cases ks <;> simp
theorem deeds_turn {S : Store} {h : Nat} {w : Int × Int × Int} {most : Int} {ds : List Deed} {ks : List Int} {ρ : DEnv} {d : Val} {Q : Fl → Store → Prop} (hh : h < S.length) (E : EnvP h most ds ks ρ) (hk : ks.length ≤ 1000) (hd : ds.length ≤ 10000)
    (hQ : ∀ ρ' w' ds' ks', EnvP h most ds' ks' ρ' → ks'.length ≤ ks.length + 60 → ds'.length ≤ ds.length + 1060 → Q (.nx ρ') (S.set h (pOb w'))) : Ok (turnG (nName 4) B1_law_deeds d ρ (S.set h (pOb w))) Q := by
  obtain ⟨x4, x5, x6, x7, x8, x9, rfl⟩ := E
  unfold B1_law_deeds
  simp -implicitDefEqProofs [uLst, -rng1_int]
  refine take_set hh (by omega) fun a w1 a0 a1 => ?_
  refine ok_pick a0 (by simpa using a1) fun fd hf => ?_
  obtain ⟨m, rfl, f1, f2⟩ : ∃ k : Int, fd = .int k ∧ 0 < k ∧ k ≤ 60 := by
    simp only [List.mem_cons, List.not_mem_nil, or_false] at hf
    have lit : ∀ x : Int, 0 < x ∧ x ≤ 60 → fd = .int x → ∃ v : Int, fd = .int v ∧ 0 < v ∧ v ≤ 60 := fun x h e => ⟨x, e, h⟩
    rcases hf with h | h | h <;> exact lit _ (by omega) h
  refine take_set hh (by omega) fun b w2 b0 b1 => ?_
  obtain ⟨many, em, hm⟩ : ∃ many : Nat, 1 + b = (many : Int) ∧ many ≤ 60 := ⟨(1 + b).toNat, by omega, by omega⟩
  simp -implicitDefEqProofs only [uAdd_int, bindR_some, em]
  refine take_set hh (by omega) fun way w3 c0 c1 => ?_
  simp -implicitDefEqProofs [uEq_nil, uLst, -rng1_int]
  have fin : ∀ (ds2 : List Deed) (w5 : Int × Int × Int) (kk : List Int) (x5 x6 x7 x8 x9 : Option Val) (un : Store → Store), ds2.length ≤ 1060 → kk.length ≤ ks.length + 60 → un (S.set h (pOb w5)) = S.set h (pOb w5) →
      Ok (if ds.length + (ds2.map dD).length ≤ 16777216 then some (Fl.nx [some (.obj h), some (.pd (.int most)), some (.pd (.list (ds.map dD ++ ds2.map dD))), some (.pd (.list (kk.map PyData.int))), some d, x5, x6, x7, x8, x9], un (S.set h (pOb w5))) else none) Q := by
    intro ds2 w5 kk x5 x6 x7 x8 x9 un l1 l2 eu
    rw [List.length_map, if_pos (by omega), eu, ok_some]
    exact hQ _ w5 (ds ++ ds2) kk ⟨_, _, _, _, _, _, by rw [List.map_append]⟩ l2 (by rw [List.length_append]; omega)
  refine ok_ite (fun h2 => ?_) (fun h2 => ok_ite (fun h3 => ?_) (fun h3 => ok_ite (fun h4 => ?_) (fun h4 => ?_)))
  iterate 2
    · refine ok_b (keys_c (by omega : many ≤ 1000) (List.getElem?_set_self hh) fun nk w4 l4 => ?_)
      have hs : ks.length + many ≤ 16777216 := by omega
      simp -implicitDefEqProofs only [uAdd_list, List.length_map, l4, if_pos hs, bindR_some, ← List.map_append, List.set_set]
      have hk2 : (ks ++ nk).length ≤ ks.length + 60 := by rw [List.length_append]; omega
      generalize ks ++ nk = kk at hk2
      simp -implicitDefEqProofs [cutP_map]
      generalize hc : cutP kk (some ((kk.length : Int) - many)) none = cs
      have hcl : cs.length ≤ kk.length := by rw [← hc]; exact cutP_le
      refine ok_b (gather (g := fun k : Int => Val.pd (.int k)) (fun x w5 P hP => ?_) cs (by omega) w4 fun ds2 w5 l5 => ?_)
      · simp -implicitDefEqProofs
        refine ok_b (worth_c (List.getElem?_set_self hh) fun v w6 => ?_)
        simp -implicitDefEqProofs [uTup]
        exact hP (.put x v) w6
      · exact fin ds2 w5 kk _ _ _ _ _ (fun s => s) (by omega) hk2 rfl
  · have kp : 0 < ks.length := by
      cases ks with
      | nil => exact absurd rfl h3
      | cons a b => simp
    refine take_set hh (by omega) fun at' w4 p4 q4 => ?_
    simp -implicitDefEqProofs [cutP_map]
    generalize hc : cutP ks (some at') (some (at' + many)) = cs
    have hcl : cs.length ≤ ks.length := by rw [← hc]; exact cutP_le
    refine ok_b (gather (g := fun k : Int => Val.pd (.int k)) (fun x w5 P hP => ?_) cs (by omega) w4 fun ds2 w5 l5 => ?_)
    · simp -implicitDefEqProofs [uTup]
      exact hP (.cut x) w5
    · exact fin ds2 w5 ks _ _ _ _ _ (fun s => s) (by omega) (by omega) rfl
  · rw [rng1_int, if_pos ⟨by omega, by omega⟩, rgI0]
    simp -implicitDefEqProofs only [bindR_some, Int.toNat_natCast, un_none]
    refine ok_b (gather (g := fun i : Nat => Val.pd (.int (i : Nat))) (fun x w5 P hP => ?_) (List.range many) (by simp; omega) w3 fun ds2 w5 l5 => ?_)
    · simp -implicitDefEqProofs
      refine ok_b (any_c (by omega) (List.getElem?_set_self hh) fun d w6 _ => ?_)
      simp -implicitDefEqProofs
      exact hP d w6
    · exact fin ds2 w5 ks _ _ _ _ _ (fun s => s) (by simp at l5; omega) (by omega) rfl
theorem deeds_c {S : Store} {h : Nat} {w : Int × Int × Int} {most : Nat} {Q : Val → Store → Prop} (e : S[h]? = some (pOb w)) (hQ : ∀ (ds : List Deed) w', ds.length ≤ most → Q (.pd (.list (ds.map dD))) (S.set h (pOb w'))) : Ok (F_law_deeds [.obj h, .pd (.int (most : Nat))] S) Q := by
  have hh := lt_of_get e
  rw [F_law_deeds_e, fnF_e]
  unfold G_law_deeds
  simp -implicitDefEqProofs [startD, uLst, -rng1_int]
  refine take_ok e (by omega) fun a w1 a0 a1 => ?_
  obtain ⟨n, en, hn⟩ : ∃ n : Nat, 1 + a = (n : Int) ∧ n ≤ 5 := ⟨(1 + a).toNat, by omega, by omega⟩
  simp -implicitDefEqProofs only [uAdd_int, bindR_some, en]
  rw [rng1_int, if_pos ⟨by omega, by omega⟩, rgI0]
  simp -implicitDefEqProofs only [bindR_some, Int.toNat_natCast, un_none]
  refine ok_b (ok_loopQ (g := fun i : Nat => Val.pd (.int (i : Nat))) (fun r ρ' S' => ∃ (ds : List Deed) (ks : List Int) (w' : Int × Int × Int), EnvP h most ds ks ρ' ∧ S' = S.set h (pOb w') ∧ ks.length + 60 * r.length ≤ 300 ∧ ds.length + 1060 * r.length ≤ 5300) ?_ ?_ (List.range n) _ _ ⟨[], [], w1, ⟨_, _, _, _, _, _, rfl⟩, rfl, by simp; omega, by simp; omega⟩)
  · rintro x r ρ' S' P ⟨ds, ks, w', E, rfl, l1, l2⟩ hP
    rw [List.length_cons] at l1 l2
    exact deeds_turn hh E (by omega) (by omega) fun ρ2 w2 ds2 ks2 E2 l3 l4 => hP _ _ ⟨ds2, ks2, w2, E2, rfl, by omega, by omega⟩
  · rintro ρ' S' ⟨ds, ks, w', ⟨x4, x5, x6, x7, x8, x9, rfl⟩, rfl, l1, l2⟩
    simp -implicitDefEqProofs [exitF_same]
    rw [← List.map_take]
    exact hQ _ w' (by simp; omega)
end
end GP
set_option Elab.async false
set_option linter.all false
set_option maxRecDepth 100000
set_option maxHeartbeats 4000000
namespace TM
open PySem L2 PyProof.Rows DM
noncomputable section
/-! walks: the lesser and the greater shelf; a step -/
def Db (b : Bn) : Prop := ∀ e, b.e = some e → e = 2 * b.n ∨ b.n = 2 * e
theorem Db.turn {b : Bn} (h : Db b) : Db b.turn := fun e he => by
  unfold Bn.turn at he ⊢
  cases hb : b.e with
  | none => rw [hb] at he; exact h e (by simpa [hb] using he)
  | some e0 =>
    have := h e0 hb
    rw [hb] at he
    simp only at he ⊢
    split at he
    · cases he
    · rename_i hq
      rw [if_neg hq]
      cases he
      exact this
theorem Db.goN : ∀ (k : Nat) {b : Bn}, Db b → Db (b.goN k)
  | 0, _, h => h
  | k + 1, _, h => Db.goN k h.turn
theorem turn_n (b : Bn) : b.turn.n = b.n := by
  unfold Bn.turn
  split
  · rfl
  · split <;> rfl
theorem goN_n : ∀ (k : Nat) (b : Bn), (b.goN k).n = b.n
  | 0, _ => rfl
  | k + 1, b => by rw [Bn.goN, goN_n k, turn_n]
theorem Db.bgn {b : Bn} (h : Db b) (hn : (b.n : Int) ∈ SZ) (c : Nat) : Db (b.bgn c) := fun e he => by
  unfold Bn.bgn at he ⊢
  cases hb : b.e with
  | some e0 =>
    rw [hb] at he
    exact h e (by simpa [hb] using he)
  | none =>
    rw [hb] at he
    simp only at he ⊢
    split at he
    · rename_i q
      rw [if_pos q]
      cases he
      exact .inr rfl
    · rename_i q
      rw [if_neg q]
      split at he
      · rename_i q2
        rw [if_pos q2]
        cases he
        have := sz_mem hn
        left
        show b.n = 2 * (b.n / 2)
        omega
      · rw [hb] at he; cases he
theorem Db.new {mx : Int × Int} {pace : Nat} : Db (newT mx pace).bn := fun e he => by cases he
theorem Db.deed {t : TSt} (ti : TI t) (h : Db t.bn) (d : Deed) : Db (t.deed d).bn := by
  rw [bn_deed ti]
  refine (Db.goN _ h).bgn ?_ _
  rw [goN_n]
  exact ti.nw.sz
def TSt.ls (t : TSt) : Rows := match t.elder with
  | some el => if el.1.length < t.newer.1.length then el.1 else t.newer.1
  | none => t.newer.1
def TSt.gr (t : TSt) : Option Rows := match t.elder with
  | some el => some (if el.1.length < t.newer.1.length then t.newer.1 else el.1)
  | none => none
theorem TI.ls_sz {t : TSt} (h : TI t) : (t.ls.length : Int) ∈ SZ := by
  unfold TSt.ls
  split
  · rename_i el he
    split
    · exact (h.el el he).1.sz
    · exact h.nw.sz
  · exact h.nw.sz
theorem TI.ls_pos {t : TSt} (h : TI t) : 0 < t.ls.length := by
  have := sz_mem h.ls_sz
  omega
theorem Db.gr {t : TSt} (ti : TI t) (h : Db t.bn) {g : Rows} (hg : t.gr = some g) : g.length = 2 * t.ls.length ∧ (g.length : Int) ∈ SZ := by
  unfold TSt.gr at hg
  unfold TSt.ls
  cases he : t.elder with
  | none => rw [he] at hg; cases hg
  | some el =>
    rw [he] at hg
    simp only at hg ⊢
    cases hg
    have hb := h el.1.length (by simp [TSt.bn, he])
    have hb' : el.1.length = 2 * t.newer.1.length ∨ t.newer.1.length = 2 * el.1.length := hb
    have h1 := sz_mem (ti.el el he).1.sz
    have h2 := sz_mem ti.nw.sz
    split
    · exact ⟨by omega, ti.nw.sz⟩
    · exact ⟨by omega, (ti.el el he).1.sz⟩
def wlkR (g : Rows) (c q : Nat) : List (Int × Int) := if c + 1 ≤ rev 16 q + 65536 / g.length then rowAt g q else []
def wlkP (ls : Rows) (gr : Option Rows) (c : Nat) : List (Int × Int) := rowAt ls (rev 16 c % ls.length) ++ match gr with
  | none => []
  | some g => wlkR g c (rev 16 c % ls.length) ++ wlkR g c (rev 16 c % ls.length + ls.length)
def wlkN (n c : Nat) : Nat := (rev 16 (rev 16 c % n) + 65536 / n) % 65536
def TSt.stepP (t : TSt) (c : Nat) : List (Int × Int) := wlkP t.ls t.gr c
def TSt.stepN (t : TSt) (c : Nat) : Nat := wlkN t.ls.length c
theorem stepN_lt {t : TSt} {c : Nat} : t.stepN c < 65536 := Nat.mod_lt _ (by decide)
theorem row_len {rows : Rows} (p : Nat) : (rowAt rows p).length ≤ rows.flatten.length := by
  by_cases hp : p < rows.length
  · have e : rowAt rows p = rows[p] := by simp [rowAt, List.getD_eq_getElem?_getD, hp]
    rw [e]
    exact (List.sublist_flatten_of_mem (List.getElem_mem hp)).length_le
  · have e : rowAt rows p = [] := by simp [rowAt, List.getD_eq_getElem?_getD, hp]
    rw [e]
    exact Nat.zero_le _
theorem ls_len {t : TSt} : t.ls.flatten.length ≤ t.pairs.length := by
  unfold TSt.ls TSt.pairs
  cases t.elder with
  | none => exact Nat.le_refl _
  | some el =>
    simp only [List.length_append]
    split <;> omega
theorem gr_len {t : TSt} {g : Rows} (h : t.gr = some g) : g.flatten.length ≤ t.pairs.length := by
  unfold TSt.gr at h
  unfold TSt.pairs
  cases he : t.elder with
  | none => rw [he] at h; cases h
  | some el =>
    rw [he] at h
    cases h
    simp only [List.length_append]
    split <;> omega
theorem wlkR_len {g : Rows} {c q : Nat} : (wlkR g c q).length ≤ g.flatten.length := by
  unfold wlkR
  split
  · exact row_len _
  · exact Nat.zero_le _
theorem stepP_len {t : TSt} {c : Nat} : (t.stepP c).length ≤ 3 * t.pairs.length := by
  have h1 := row_len (rows := t.ls) (rev 16 c % t.ls.length)
  have h2 := ls_len (t := t)
  unfold TSt.stepP wlkP
  cases hg : t.gr with
  | none =>
    simp only [List.append_nil]
    omega
  | some g =>
    have h3 := gr_len hg
    have h4 := wlkR_len (g := g) (c := c) (q := rev 16 c % t.ls.length)
    have h5 := wlkR_len (g := g) (c := c) (q := rev 16 c % t.ls.length + t.ls.length)
    simp only [List.length_append]
    omega
end
end TM
set_option Elab.async false
set_option linter.all false
set_option maxRecDepth 100000
set_option maxHeartbeats 4000000
namespace PW
open PySem L2 PyProof.Rows DM PG TM PS
noncomputable section
/-! a step of a walk -/
def grD (g : Option Rows) : PyData := match g with
  | none => .none
  | some g => rowsD g
theorem non_tup {xs : List PyData} : isNon (.pd (.tuple xs)) = false := rfl
theorem ix_rows {rows : Rows} {p : Nat} {S : Store} (h : p < rows.length) : uIx (.pd (rowsD rows)) (.pd (.int (p : Nat))) S = some (.pd (.tuple (pairs (rowAt rows p))), S) := by
  have h' : p < (rows.map fun r => PyData.tuple (pairs r)).length := by simpa using h
  have e : rowAt rows p = rows[p] := by simp [rowAt, List.getD_eq_getElem?_getD, h]
  unfold rowsD
  rw [uIx_tup, atI_in h', List.getElem?_eq_getElem h', List.getElem_map, e]
  rfl
theorem both_eq {t : TSt} {S : Store} {h : Nat} (ti : TI t) (e : S[h]? = some (boxT t)) : F_both_shelves [.obj h] S = some (.pd (.tuple [rowsD t.ls, grD t.gr]), S) := by
  have st := state_v ti e 0 [some (.obj h), none, none, none] rfl
  rw [F_both_shelves_e, fnF_e]
  unfold G_both_shelves TSt.ls TSt.gr grD
  unfold stateD at st
  cases he : t.elder with
  | none =>
    rw [he] at st
    have z : isNon (.pd PyData.none) = true := rfl
    simp -implicitDefEqProofs [startD, st, uTup, exitF_same, rowsD]
  | some el =>
    rw [he] at st
    by_cases hl : el.1.length < t.newer.1.length
    · simp -implicitDefEqProofs [startD, st, uTup, exitF_same, hl, rowsD, non_tup]
    · simp -implicitDefEqProofs [startD, st, uTup, exitF_same, hl, rowsD, non_tup]
theorem len_rows {rows : Rows} {S : Store} : uLen [.pd (rowsD rows)] S = some (.pd (.int rows.length), S) := by simp [rowsD]
theorem step_turn {g : Rows} {S : Store} {a l : Val} {n p : Int} {c q : Nat} {x : Option Val} {xs : List (Int × Int)} (hq : q < g.length) (hl : g.length ≤ 4096) (hx : xs.length + (rowAt g q).length ≤ 16777216) :
    turnG (nName 7) B1_step (.pd (.int (q : Nat))) [some a, some (.pd (.int (c : Nat))), some l, some (.pd (rowsD g)), some (.pd (.int n)), some (.pd (.int p)), some (.obj S.length), x] (S ++ [.lst (pairs xs)]) =
      some (.nx [some a, some (.pd (.int (c : Nat))), some l, some (.pd (rowsD g)), some (.pd (.int n)), some (.pd (.int p)), some (.obj S.length), some (.pd (.int (q : Nat)))], S ++ [.lst (pairs (xs ++ wlkR g c q))]) := by
  have st := stretch_eq (S := S ++ [.lst (pairs xs)]) (m := q) (z := g.length) ⟨by omega, by omega⟩
  have ix := ix_rows (S := S ++ [.lst (pairs xs)]) hq
  have ee := uExtend_tup (S := S ++ [.lst (pairs xs)]) (h := S.length) (xs := pairs xs) (ys := pairs (rowAt g q)) (by simp) (by simpa [pairs] using hx)
  have it := isTy_lst (S := S ++ [.lst (pairs xs)]) (h := S.length) (xs := pairs xs) (by simp)
  have dv : (65536 : Int) / (g.length : Nat) = ((65536 / g.length : Nat) : Int) := by simp
  have pa : pairs xs ++ pairs (rowAt g q) = pairs (xs ++ rowAt g q) := by simp [pairs]
  rw [set_app rfl, pa] at ee
  unfold B1_step wlkR
  by_cases hc : c + 1 ≤ rev 16 q + 65536 / g.length
  · have hc' : (c : Int) ≤ (rev 16 q : Nat) + 65536 / (g.length : Nat) - 1 := by omega
    rw [if_pos hc]
    simp -implicitDefEqProofs [len_rows, st, pr, uIx_tup, atI, ixN, hc', ix, ee, it]
  · have hc' : ¬ (c : Int) ≤ (rev 16 q : Nat) + 65536 / (g.length : Nat) - 1 := by omega
    rw [if_neg hc]
    simp -implicitDefEqProofs [len_rows, st, pr, uIx_tup, atI, ixN, hc', it]
theorem step_eq {t : TSt} {S : Store} {h c : Nat} (wf : Wf S) (ti : TI t) (db : Db t.bn) (ln : t.pairs.length ≤ 1000000) (e : S[h]? = some (boxT t)) : F_step [.obj h, .pd (.int (c : Nat))] S = some (.pd (.tuple [.int (t.stepN c : Nat), .list (pairs (t.stepP c))]), S) := by
  have be := both_eq ti e
  have pos := ti.ls_pos
  have sz := sz_mem ti.ls_sz
  have pl := place_eq (S := S) (m := (rev 16 c : Nat)) (s := t.ls.length) (by omega)
  have hp : rev 16 c % t.ls.length < t.ls.length := Nat.mod_lt _ pos
  have pe : ((rev 16 c : Nat) : Int) % (t.ls.length : Nat) = (rev 16 c % t.ls.length : Nat) := by omega
  rw [pe] at pl
  have ix := ix_rows (S := S) hp
  rw [F_step_e, fnF_e]
  unfold G_step TSt.stepN TSt.stepP wlkN wlkP
  generalize hq : rev 16 c % t.ls.length = p at *
  have ll : uLen [.pd (rowsD t.ls)] S = some (.pd (.int t.ls.length), S) := by simp [rowsD]
  have lm : uListM [.pd (.tuple (pairs (rowAt t.ls p)))] S = some (.obj S.length, S ++ [.lst (pairs (rowAt t.ls p))]) := rfl
  simp -implicitDefEqProofs [startD, be, ll, point_eq, pl, ix, lm]
  have fin : ∀ xs : List (Int × Int), (bindR (F_stretch_of [.pd (.int (p : Nat)), .pd (.int (t.ls.length : Nat))] (S ++ [.lst (pairs xs)])) fun a S_1 => bindR (uIx a (.pd (.int 1)) S_1) fun a S_2 => bindR (uAdd a (.pd (.int 1)) S_2) fun a S_3 => bindR (uMod a (.pd (.int 65536)) S_3) fun a S_4 => bindR (uKill (.obj S.length) S_4) fun a_1 S_5 => bindR (uTup [a, a_1] S_5) fun a S_6 => exitF S.length a S_6) =
      some (.pd (.tuple [.int (((rev 16 p : Nat) + 65536 / (t.ls.length : Nat)) % 65536), .list (pairs xs)]), S) := fun xs => by
    have st := stretch_eq (S := S ++ [.lst (pairs xs)]) (m := p) (z := t.ls.length) ⟨by omega, by omega⟩
    have uk := uKill_e (S := S ++ [.lst (pairs xs)]) (h := S.length) (xs := pairs xs) (by simp)
    rw [set_app rfl] at uk
    have e1 : ((rev 16 p : Nat) : Int) + 65536 / (t.ls.length : Nat) - 1 + 1 = (rev 16 p : Nat) + 65536 / (t.ls.length : Nat) := by omega
    simp -implicitDefEqProofs [st, pr, uIx_tup, atI, ixN, uk, uTup, exitF_app' wf rfl]
  cases hg : t.gr with
  | none =>
    have z : isNon (.pd (grD none)) = true := rfl
    simp -implicitDefEqProofs only [z, Bool.true_eq_false, if_false, List.append_nil]
    exact fin _
  | some g =>
    have z : isNon (.pd (grD (some g))) = false := rfl
    obtain ⟨g1, g2⟩ := db.gr ti hg
    have g3 := sz_mem g2
    have r2 : rgN (p : Nat) (g.length : Nat) (t.ls.length : Nat) = 2 := by
      unfold rgN
      rw [if_pos (by omega)]
      have : ((g.length : Int) - (p : Nat) - 1) / (t.ls.length : Nat) = 1 := by
        rw [Int.ediv_eq_iff_of_pos (by omega)]
        omega
      rw [this]
      rfl
    have rg := rng3_int (S := S ++ [.lst (pairs (rowAt t.ls p))]) (i := (p : Nat)) (j := (g.length : Nat)) (c := (t.ls.length : Nat)) ⟨⟨by omega, by omega⟩, ⟨by omega, by omega⟩, by omega, by omega⟩
    rw [r2] at rg
    have it : rgC (p : Nat) (t.ls.length : Nat) 2 = [.pd (.int (p : Nat)), .pd (.int (p + t.ls.length : Nat))] := by
      simp [rgC, List.range_succ]
    rw [it] at rg
    have l0 := gr_len hg
    have l1 := row_len (rows := t.ls) p
    have l2 := ls_len (t := t)
    have l3 := row_len (rows := g) p
    have l4 := row_len (rows := g) (p + t.ls.length)
    have l5 := wlkR_len (g := g) (c := c) (q := p)
    have lp : loopG (nName 7) B1_step [.pd (.int (p : Nat)), .pd (.int (p + t.ls.length : Nat))] [some (.obj h), some (.pd (.int (c : Nat))), some (.pd (rowsD t.ls)), some (.pd (rowsD g)), some (.pd (.int (t.ls.length : Nat))), some (.pd (.int (p : Nat))), some (.obj S.length), none] (S ++ [.lst (pairs (rowAt t.ls p))]) =
        some (.nx [some (.obj h), some (.pd (.int (c : Nat))), some (.pd (rowsD t.ls)), some (.pd (rowsD g)), some (.pd (.int (t.ls.length : Nat))), some (.pd (.int (p : Nat))), some (.obj S.length), some (.pd (.int (p + t.ls.length : Nat)))], S ++ [.lst (pairs (rowAt t.ls p ++ (wlkR g c p ++ wlkR g c (p + t.ls.length))))]) := by
      rw [loopG_cons, step_turn (by omega) (by omega) (by omega)]
      simp only
      rw [loopG_cons, step_turn (by omega) (by omega) (by rw [List.length_append]; omega)]
      rw [List.append_assoc]
      rfl
    have lr : uLen [.pd (grD (some g))] (S ++ [.lst (pairs (rowAt t.ls p))]) = some (.pd (.int g.length), S ++ [.lst (pairs (rowAt t.ls p))]) := len_rows
    rw [if_pos z, lr, bindR_some, rg, bindR_some]
    show (bindR (loopG (nName 7) B1_step _ [some (.obj h), some (.pd (.int (c : Nat))), some (.pd (rowsD t.ls)), some (.pd (rowsD g)), some (.pd (.int (t.ls.length : Nat))), some (.pd (.int (p : Nat))), some (.obj S.length), none] _) _) = _
    rw [lp, bindR_some, un_none]
    have := fin (rowAt t.ls p ++ (wlkR g c p ++ wlkR g c (p + t.ls.length)))
    simpa -implicitDefEqProofs using this
end
end PW
set_option Elab.async false
set_option linter.all false
set_option maxRecDepth 100000
set_option maxHeartbeats 4000000
namespace GQ
open PySem L2 PyProof.Rows DM PG PW GP TM PS
noncomputable section
/-! stories -/
def dL : Deed → List PyData
  | .put k v => [.str "put", .int k, .int v]
  | .look k => [.str "look", .int k]
  | .cut k => [.str "cut", .int k]
theorem dD_L (d : Deed) : dD d = .tuple (dL d) := by cases d <;> rfl
def tD : Option Deed → PyData
  | none => .tuple [.str "step"]
  | some d => dD d
def stepD (t : TSt) (c : Nat) : PyData := .tuple [.str "step", .int c, .int (t.stepN c), .tuple (pairs (t.stepP c))]
def toldD (t : TSt) (d : Deed) : PyData := .tuple (dL d ++ [optD (t.get d.key)])
def tale : TSt → Nat → List (Option Deed) → List PyData
  | _, _, [] => []
  | t, c, none :: r => stepD t c :: tale t (t.stepN c) r
  | t, c, some d :: r => toldD t d :: tale (t.deed d) c r
theorem tale_len : ∀ (r : List (Option Deed)) (t : TSt) (c : Nat), (tale t c r).length = r.length
  | [], _, _ => rfl
  | none :: r, t, c => by simp [tale, tale_len r]
  | some d :: r, t, c => by simp [tale, tale_len r]
theorem done_eq {S : Store} {h : Nat} {t : TSt} {d : Deed} (e : S[h]? = some (boxT t)) (ft : Fit t) : F_done [.obj h, .pd (dD d)] S = some (.pd (optD (t.get d.key)), S.set h (boxT (t.deed d))) := by
  rw [F_done_e, fnF_e]
  unfold G_done
  have R := ft.rdy d.key
  rw [← told_get ft.ti]
  cases d with
  | put k v =>
    have m := meth_tab (m := "put") (F := F_table_put) (n := 3) (ρ := [some (.obj h), some (.pd (dD (.put k v)))]) (fo := eVar 0) (fa := aCons (eO uIx (eVar 1) (eC (.int 1))) (aCons (eO uIx (eVar 1) (eC (.int 2))) aNil)) (ys := [.int k, .int v]) rfl e (fun _ _ _ => rfl) rfl rfl (tb_put (v := v) R)
    simp only [dD] at m
    simp -implicitDefEqProofs [startD, dD, uIx_tup, atI, ixN, m]
    exact exitF_same (by simp)
  | look k =>
    have m := meth_tab (m := "look") (F := F_table_look) (n := 2) (ρ := [some (.obj h), some (.pd (dD (.look k)))]) (fo := eVar 0) (fa := aCons (eO uIx (eVar 1) (eC (.int 1))) aNil) (ys := [.int k]) rfl e (fun _ _ _ => rfl) rfl rfl (tb_look R)
    simp only [dD] at m
    simp -implicitDefEqProofs [startD, dD, uIx_tup, atI, ixN, m]
    exact exitF_same (by simp)
  | cut k =>
    have m := meth_tab (m := "cut") (F := F_table_cut) (n := 2) (ρ := [some (.obj h), some (.pd (dD (.cut k)))]) (fo := eVar 0) (fa := aCons (eO uIx (eVar 1) (eC (.int 1))) aNil) (ys := [.int k]) rfl e (fun _ _ _ => rfl) rfl rfl (tb_cut R)
    simp only [dD] at m
    simp -implicitDefEqProofs [startD, dD, uIx_tup, atI, ixN, m]
    exact exitF_same (by simp)
/-- a table and its plain twin, with a walk's shelves -/
structure Tw (t : TSt) (kn : List (Int × Int)) : Prop where
  tw : Twin t kn
  db : Db t.bn
theorem Tw.deed {t : TSt} {kn : List (Int × Int)} (h : Tw t kn) (d : Deed) : Tw (t.deed d) (kStep kn d) := ⟨h.tw.deed d, h.db.deed h.tw.ti d⟩
theorem Tw.new {mx : Int × Int} {pace : Nat} (hm : mxOk mx) (hp : pace ≤ 8) : Tw (newT mx pace) [] := ⟨twin_new hm hp, Db.new⟩
theorem wf_app2 {S : Store} (w : Wf S) {t : TSt} {xs : List PyData} : Wf (S ++ [boxT t, .lst xs]) := by
  have := (w.app (o := boxT t) rfl).app (o := .lst xs) rfl
  simpa using this
theorem get2a {S : Store} {o u : Ob} : (S ++ [o, u])[S.length]? = some o := by simp
theorem get2b {S : Store} {o u : Ob} : (S ++ [o, u])[S.length + 1]? = some u := by simp
theorem set2a {S : Store} {o u v : Ob} : (S ++ [o, u]).set S.length v = S ++ [v, u] := by simp
theorem set2b {S : Store} {o u v : Ob} : (S ++ [o, u]).set (S.length + 1) v = S ++ [o, v] := by simp
theorem uEq_00 {d : Deed} {S : Store} : uIx (.pd (dD d)) (.pd (.int 0)) S = some (.pd (.str (match d with | .put _ _ => "put" | .look _ => "look" | .cut _ => "cut")), S) := by
  cases d <;> simp [dD, uIx_tup, atI, ixN]
def EnvS (a b c : Val) (n : Nat) (cu : Nat) (ρ : DEnv) : Prop := ∃ x6 x7 x8, ρ = [some a, some b, some c, some (.obj n), some (.pd (.int cu)), some (.obj (n + 1)), x6, x7, x8]
theorem story_turn {S : Store} {a b c : Val} {cu : Nat} {t : TSt} {kn : List (Int × Int)} {acc : List PyData} {x : Option Deed} {ρ : DEnv} {P : Fl → Store → Prop} (wf : Wf S) (w : Tw t kn) (hl : kn.length ≤ 10000) (ha : acc.length ≤ 10000) (E : EnvS a b c S.length cu ρ)
    (hP : ∀ t' cu' kn' y ρ', Tw t' kn' → kn'.length ≤ kn.length + 1 → (∀ r, tale t cu (x :: r) = y :: tale t' cu' r) → EnvS a b c S.length cu' ρ' → P (.nx ρ') (S ++ [boxT t', .lst (acc ++ [y])])) :
    Ok (turnG (nName 6) B1_story_of (.pd (tD x)) ρ (S ++ [boxT t, .lst acc])) P := by
  obtain ⟨x6, x7, x8, rfl⟩ := E
  have ap := fun (y : PyData) (t : TSt) => uAppend_lst (S := S ++ [boxT t, .lst acc]) (d := y) get2b (by omega)
  have it : isTy "list" (.obj (S.length + 1)) (S ++ [boxT t, .lst acc]) = true := isTy_lst get2b
  unfold B1_story_of
  cases x with
  | none =>
    have st := step_eq (c := cu) (wf_app2 (xs := acc) wf) w.tw.ti w.db (by rw [w.tw.len]; omega) (get2a (S := S) (o := boxT t))
    simp -implicitDefEqProofs [tD, uIx_tup, atI, ixN, st, uTup, uTuple, seqP, getL, ap, it]
    exact hP t (t.stepN cu) kn (stepD t cu) _ w (by omega) (fun r => rfl) ⟨_, _, _, rfl⟩
  | some d =>
    have dn := done_eq (d := d) (get2a (S := S) (o := boxT t) (u := .lst acc)) (w.tw.fit (by omega))
    rw [set2a] at dn
    have tp : ∀ S, uTuple [.pd (dD d)] S = some (.pd (.tuple (dL d)), S) := fun S => by rw [dD_L]; rfl
    have ad : ∀ S o, uAdd (.pd (.tuple (dL d))) (.pd (.tuple [optD o])) S = some (.pd (.tuple (dL d ++ [optD o])), S) := fun S o => by
      cases d <;> rfl
    have key : Ok (bindR (uAppend (.obj (S.length + 1)) [.pd (toldD t d)] (S ++ [boxT (t.deed d), .lst acc])) fun _ S1 => some (Fl.nx [some a, some b, some c, some (.obj S.length), some (.pd (.int cu)), some (.obj (S.length + 1)), some (.pd (dD d)), x7, x8], S1)) P := by
      rw [ap, bindR_some, set2b, ok_some]
      exact hP (t.deed d) cu (kStep kn d) (toldD t d) _ (w.deed d) (kStep_len w.tw.nd d) (fun r => rfl) ⟨_, _, _, rfl⟩
    unfold toldD at key
    cases d with
    | put k v => simpa -implicitDefEqProofs [tD, uEq_00, tp, dn, uTup, ad, it] using key
    | look k => simpa -implicitDefEqProofs [tD, uEq_00, tp, dn, uTup, ad, it] using key
    | cut k => simpa -implicitDefEqProofs [tD, uEq_00, tp, dn, uTup, ad, it] using key
theorem story_loop {S : Store} {a b c : Val} (wf : Wf S) {t : TSt} {kn : List (Int × Int)} (w : Tw t kn) (xs : List (Option Deed)) (hl : kn.length + xs.length ≤ 10000) (cu : Nat) (ρ : DEnv) (E : EnvS a b c S.length cu ρ) {P : Fl → Store → Prop}
    (hP : ∀ t' cu' ρ', EnvS a b c S.length cu' ρ' → P (.nx ρ') (S ++ [boxT t', .lst (tale t cu xs)])) : Ok (loopG (nName 6) B1_story_of (xs.map fun x => Val.pd (tD x)) ρ (S ++ [boxT t, .lst []])) P := by
  refine ok_loopQ (fun r ρ' S' => ∃ t' kn' cu' acc, Tw t' kn' ∧ kn'.length + r.length ≤ 10000 ∧ EnvS a b c S.length cu' ρ' ∧ S' = S ++ [boxT t', .lst acc] ∧ acc ++ tale t' cu' r = tale t cu xs ∧ xs.length ≤ 10000) ?_ ?_ xs ρ _ ⟨t, kn, cu, [], w, hl, E, rfl, rfl, by omega⟩
  · rintro x r ρ' S' P' ⟨t', kn', cu', acc, w', l', E', rfl, e', lx⟩ hP'
    have la : acc.length ≤ 10000 := by
      have := congrArg List.length e'
      rw [List.length_append, tale_len, tale_len] at this
      omega
    rw [List.length_cons] at l'
    refine story_turn wf w' (by omega) la E' fun t2 c2 k2 y ρ2 w2 l2 e2 E2 => hP' _ _ ⟨t2, k2, c2, acc ++ [y], w2, by omega, E2, rfl, ?_, lx⟩
    rw [← e', e2 r, List.append_assoc]
    rfl
  · rintro ρ' S' ⟨t', kn', cu', acc, w', l', E', rfl, e', lx⟩
    rw [show tale t' cu' [] = [] from rfl, List.append_nil] at e'
    rw [e']
    exact hP t' cu' ρ' E'
theorem exitN_2 {S : Store} {o : Ob} {ys : List PyData} (w : Wf S) : exitN S.length (.obj (S.length + 1)) (S ++ [o, .lst ys]) = some (.obj S.length, S ++ [.lst ys]) := by
  unfold exitN
  rw [if_pos ⟨by
    simp only [List.take_left]
    exact List.all_eq_true.mpr w, by simp⟩]
  simp [Ob.blw]
/-- the deeds as they are handed: plain, or in the store -/
def Hands (S : Store) (xs : List PyData) (v : Val) : Prop := v = .pd (.list xs) ∨ ∃ h, v = .obj h ∧ S[h]? = some (.lst xs)
theorem story_eq {S : Store} {mx : Int × Int} {pace : Nat} {xs : List (Option Deed)} {v : Val} (wf : Wf S) (hm : mxOk mx) (hp : pace ≤ 8) (hl : xs.length ≤ 10000) (hv : Hands S (xs.map tD) v) : F_story_of [.pd (pr mx), .pd (.int pace), v] S = some (.obj S.length, S ++ [.lst (tale (newT mx pace) 0 xs)]) := by
  apply Ok.eq
  have nt := fun ρ fa (ea : fa ρ S = some ([.pd (pr mx), .pd (.int pace), .pd .none], S)) => newtab_eq (mx := mx) (pace := pace) (ρ := ρ) (fa := fa) ea
  rw [F_story_of_e, fnF_e]
  unfold G_story_of
  simp -implicitDefEqProofs [startD, uLstM]
  rw [nt _ _ rfl]
  rcases hv with rfl | ⟨h, rfl, e⟩
  · simp -implicitDefEqProofs
    refine ok_b (story_loop wf (Tw.new hm hp) xs (by simp; omega) 0 _ ⟨_, _, _, rfl⟩ fun t' cu' ρ' E' => ?_)
    obtain ⟨x6, x7, x8, rfl⟩ := E'
    simp -implicitDefEqProofs [exitN_2 wf]
  · have hh := lt_of_get e
    have sq : ∀ T : Store, seqI (.obj h) (S ++ T) = some (⟨(xs.map tD).map Val.pd, some (h, .lst (xs.map tD))⟩, S.set h (.lock (.lst (xs.map tD))) ++ T) := fun T => by
      unfold seqI
      simp only
      rw [List.getElem?_append_left hh, e]
      simp only
      rw [List.set_append_left _ _ hh]
    have wf2 : Wf (S.set h (.lock (.lst (xs.map tD)))) := wf.set rfl
    have ls : (S.set h (.lock (.lst (xs.map tD)))).length = S.length := by simp
    simp -implicitDefEqProofs [sq]
    have lp := fun P hP => story_loop (a := .pd (pr mx)) (b := .pd (.int pace)) (c := .obj h) wf2 (Tw.new hm hp) xs (by simp; omega) 0 _ ⟨none, none, none, rfl⟩ (P := P) hP
    rw [ls] at lp
    refine ok_b (lp _ fun t' cu' ρ' E' => ?_)
    obtain ⟨x6, x7, x8, rfl⟩ := E'
    have un : Iter.un ⟨(xs.map (Val.pd ∘ tD)), some (h, .lst (xs.map tD))⟩ (S.set h (.lock (.lst (xs.map tD))) ++ [boxT t', .lst (tale (newT mx pace) 0 xs)]) = S ++ [boxT t', .lst (tale (newT mx pace) 0 xs)] := by
      simp only [Iter.un]
      rw [List.set_append_left _ _ (by simpa using hh), List.set_set, set_same e]
    simp -implicitDefEqProofs [un, exitN_2 wf]
end
end GQ
set_option Elab.async false
set_option linter.all false
set_option maxRecDepth 100000
set_option maxHeartbeats 4000000
namespace GQ
open PySem L2 PyProof.Rows DM PG PW GP TM PS
noncomputable section
/-! the law's own deeds; deeds and steps -/
theorem law_done_eq {S : Store} {h : Nat} {t : TSt} {d : Deed} (e : S[h]? = some (boxT t)) (ft : Fit t) : F_law_done [.obj h, .pd (dD d)] S = some (.pd (optD (t.get d.key)), S.set h (boxT (t.deed d))) := by
  rw [F_law_done_e, fnF_e]
  unfold G_law_done
  have R := ft.rdy d.key
  rw [← told_get ft.ti]
  cases d with
  | put k v =>
    have m := meth_tab (m := "put") (F := F_table_put) (n := 3) (ρ := [some (.obj h), some (.pd (dD (.put k v)))]) (fo := eVar 0) (fa := aCons (eO uIx (eVar 1) (eC (.int 1))) (aCons (eO uIx (eVar 1) (eC (.int 2))) aNil)) (ys := [.int k, .int v]) rfl e (fun _ _ _ => rfl) rfl rfl (tb_put (v := v) R)
    simp only [dD] at m
    simp -implicitDefEqProofs [startD, dD, uIx_tup, atI, ixN, m]
    rfl
  | look k =>
    have m := meth_tab (m := "look") (F := F_table_look) (n := 2) (ρ := [some (.obj h), some (.pd (dD (.look k)))]) (fo := eVar 0) (fa := aCons (eO uIx (eVar 1) (eC (.int 1))) aNil) (ys := [.int k]) rfl e (fun _ _ _ => rfl) rfl rfl (tb_look R)
    simp only [dD] at m
    simp -implicitDefEqProofs [startD, dD, uIx_tup, atI, ixN, m]
    rfl
  | cut k =>
    have m := meth_tab (m := "cut") (F := F_table_cut) (n := 2) (ρ := [some (.obj h), some (.pd (dD (.cut k)))]) (fo := eVar 0) (fa := aCons (eO uIx (eVar 1) (eC (.int 1))) aNil) (ys := [.int k]) rfl e (fun _ _ _ => rfl) rfl rfl (tb_cut R)
    simp only [dD] at m
    simp -implicitDefEqProofs [startD, dD, uIx_tup, atI, ixN, m]
    rfl
theorem kD_len (r : List (Int × Int)) : (kD r).length = r.length := by simp [kD]
theorem plain_eq {S : Store} {h : Nat} {kn : List (Int × Int)} {d : Deed} (e : S[h]? = some (.dK (kD kn))) (hl : kn.length < 16000000) : F_law_plain_done [.obj h, .pd (dD d)] S = some (.pd (optD (valD kn d.key)), S.set h (.dK (kD (kStep kn d)))) := by
  have g := fun k => uGet1_K (k := k) e e
  have hkl : (kD kn).length < 16777216 := by rw [kD_len]; omega
  rw [F_law_plain_done_e, fnF_e]
  unfold G_law_plain_done
  cases d with
  | put k v =>
    have p := uDPut_K (k := k) (y := .int v) e hkl
    simp -implicitDefEqProofs [startD, dD, uIx_tup, atI, ixN, g, p, kD_val, optD_map]
    rw [← Option.map_map, optD_map, kD_put, exitF_same (by simp)]
    rfl
  | look k =>
    simp -implicitDefEqProofs [startD, dD, uIx_tup, atI, ixN, g, kD_val, optD_map]
    rw [← Option.map_map, optD_map, exitF_same (by simp)]
    rw [show S.set h (.dK (kD (kStep kn (.look k)))) = S from set_same e]
    rfl
  | cut k =>
    have i := uDIn_K (k := k) e
    rw [kD_val, Option.isSome_map] at i
    cases hv : valD kn k with
    | none =>
      rw [hv] at i
      simp -implicitDefEqProofs [startD, dD, uIx_tup, atI, ixN, g, kD_val, optD_map, i, hv]
      rw [exitF_same (by simp)]
      have e2 : kStep kn (.cut k) = kn := by simp [kStep, hv]
      rw [e2, set_same e]
      show _ = some (Val.pd (optD (valD kn k)), S)
      rw [hv]
      rfl
    | some y =>
      rw [hv] at i
      have p := uPop1_K (k := k) (y := .int y) e e (by rw [kD_val, hv]; rfl)
      simp -implicitDefEqProofs [startD, dD, uIx_tup, atI, ixN, g, kD_val, optD_map, i, hv, p]
      rw [exitF_same (by simp)]
      have e2 : kStep kn (.cut k) = dropKD kn k := by simp [kStep, hv]
      rw [e2, ← kD_drop]
      show _ = some (Val.pd (optD (valD kn k)), _)
      rw [hv]
      rfl
theorem uMul_rep {S : Store} {y : PyData} {j : Int} (h0 : 0 ≤ j) (h1 : j ≤ 1000) : uMul (.pd (.list [y])) (.pd (.int j)) S = some (.pd (.list (List.replicate j.toNat y)), S) := by
  have e : (List.replicate j.toNat [y]).flatten = List.replicate j.toNat y := by
    generalize j.toNat = n
    induction n with
    | zero => rfl
    | succ n ih => rw [List.replicate_succ, List.flatten_cons, ih]; rfl
  unfold uMul
  simp only [getR]
  rw [if_pos ⟨by omega, by omega, by simp; omega⟩, e]
theorem uAddM_lst {S : Store} {h : Nat} {xs ys : List PyData} (e : S[h]? = some (.lst xs)) (hl : xs.length + ys.length ≤ 16777216) : uAddM (.obj h) (.pd (.list ys)) S = some (.obj S.length, S ++ [.lst (xs ++ ys)]) := by
  simp [uAddM, getL, e, hl]
structure DS (S0 : Store) (h k : Nat) (w : Int × Int × Int) (xs : List (Option Deed)) (S : Store) : Prop where
  pre : ∃ T, S = S0.set h (pOb w) ++ T
  get : S[k]? = some (.lst (xs.map tD))
  le : S0.length ≤ k
theorem DS.pot {S0 S : Store} {h k : Nat} {w w' : Int × Int × Int} {xs : List (Option Deed)} (H : DS S0 h k w xs S) (hh : h < S0.length) : DS S0 h k w' xs (S.set h (pOb w')) := by
  obtain ⟨T, rfl⟩ := H.pre
  have hk := H.le
  refine ⟨⟨T, by rw [List.set_append_left _ _ (by simpa using hh), List.set_set]⟩, ?_, H.le⟩
  rw [List.getElem?_set_ne (by omega)]
  exact H.get
theorem DS.gp {S0 S : Store} {h k : Nat} {w : Int × Int × Int} {xs : List (Option Deed)} (H : DS S0 h k w xs S) (hh : h < S0.length) : S[h]? = some (pOb w) := by
  obtain ⟨T, rfl⟩ := H.pre
  rw [List.getElem?_append_left (by simpa using hh)]
  exact List.getElem?_set_self hh
theorem das_turn {S0 S : Store} {h k : Nat} {w : Int × Int × Int} {xs : List (Option Deed)} {d : Deed} {a : Val} {often : Int} {x4 : Option Val} {P : Fl → Store → Prop} (hh : h < S0.length) (H : DS S0 h k w xs S) (ho : 1 ≤ often ∧ often ≤ 40) (hx : xs.length ≤ 100000)
    (hP : ∀ k' w' xs' S', DS S0 h k' w' xs' S' → xs'.length ≤ xs.length + 13 → P (.nx [some (.obj h), some a, some (.obj k'), some (.pd (.int often)), some (.pd (dD d))]) S') :
    Ok (turnG (nName 4) B1_law_deeds_and_steps (.pd (dD d)) [some (.obj h), some a, some (.obj k), some (.pd (.int often)), x4] S) P := by
  have ap := uAppend_lst (S := S) (h := k) (d := dD d) H.get (by simp; omega)
  have H1 : DS S0 h k w (xs ++ [some d]) (S.set k (.lst (xs.map tD ++ [dD d]))) := by
    obtain ⟨T, rfl⟩ := H.pre
    have hk := H.le
    have hk2 := lt_of_get H.get
    refine ⟨⟨T.set (k - (S0.set h (pOb w)).length) (.lst (xs.map tD ++ [dD d])), by rw [List.set_append_right _ _ (by simpa using hk)]⟩, ?_, hk⟩
    rw [List.getElem?_set_self hk2, List.map_append]
    rfl
  have it := isTy_lst H.get
  unfold B1_law_deeds_and_steps
  simp -implicitDefEqProofs [it, ap]
  generalize S.set k (.lst (xs.map tD ++ [dD d])) = S1 at H1
  refine take_ok (H1.gp hh) (by omega) fun v w1 v0 v1 => ?_
  have H2 := H1.pot (w' := w1) hh
  generalize S1.set h (pOb w1) = S2 at H2
  simp -implicitDefEqProofs
  refine ok_ite (fun hv => ?_) (fun hv => ?_)
  · have dv := Int.ediv_nonneg (a := often) (b := 4) (by omega) (by omega)
    have dv2 : often / 4 ≤ 10 := by omega
    simp -implicitDefEqProofs [uTup, uLst]
    refine take_ok (H2.gp hh) (by omega) fun b w2 b0 b1 => ?_
    have H3 := H2.pot (w' := w2) hh
    generalize S2.set h (pOb w2) = S3 at H3
    refine ok_pick b0 (by simpa using b1) fun fd hf => ?_
    obtain ⟨m, rfl, f1, f2⟩ : ∃ k : Int, fd = .int k ∧ 0 < k ∧ k ≤ 11 := by
      simp only [List.mem_cons, List.not_mem_nil, or_false] at hf
      have lit : ∀ x : Int, 0 < x ∧ x ≤ 11 → fd = .int x → ∃ v : Int, fd = .int v ∧ 0 < v ∧ v ≤ 11 := fun x h e => ⟨x, e, h⟩
      rcases hf with h | h <;> exact lit _ (by omega) h
    refine take_ok (H3.gp hh) (by omega) fun c w3 c0 c1 => ?_
    have H4 := H3.pot (w' := w3) hh
    generalize S3.set h (pOb w3) = S4 at H4
    have mr : ∀ S, uMul (.pd (.list [.tuple [.str "step"]])) (.pd (.int (1 + c))) S = some (.pd (.list (List.replicate (1 + c).toNat (tD none))), S) := fun S => uMul_rep (S := S) (y := tD none) (j := 1 + c) (by omega) (by omega)
    have ad := uAddM_lst (ys := List.replicate (1 + c).toNat (tD none)) H4.get (by simp; omega)
    have H5 : DS S0 h S4.length w3 (xs ++ [some d] ++ List.replicate (1 + c).toNat none) (S4 ++ [.lst ((xs ++ [some d] ++ List.replicate (1 + c).toNat none).map tD)]) := by
      obtain ⟨T, hT⟩ := H4.pre
      refine ⟨⟨T ++ [.lst ((xs ++ [some d] ++ List.replicate (1 + c).toNat none).map tD)], by rw [hT, List.append_assoc]⟩, by simp, ?_⟩
      have := lt_of_get H4.get
      have := H4.le
      omega
    have e5 : (xs ++ [some d]).map tD ++ List.replicate (1 + c).toNat (tD none) = (xs ++ [some d] ++ List.replicate (1 + c).toNat none).map tD := by
      rw [List.map_append (l₁ := xs ++ [some d]), List.map_replicate]
    rw [e5] at ad
    simp -implicitDefEqProofs only [uAdd_int, bindR_some, mr, ad, ok_some]
    exact hP _ w3 _ _ H5 (by simp; omega)
  · rw [ok_some]
    exact hP k w1 _ S2 H2 (by simp)
theorem exitF_lst {S0 T : Store} {k : Nat} {xs : List PyData} (w : Wf S0) (hk : S0.length ≤ k) (e : (S0 ++ T)[k]? = some (.lst xs)) : exitF S0.length (.obj k) (S0 ++ T) = some (.pd (.list xs), S0) := by
  unfold exitF
  have hl := lt_of_get e
  rw [if_neg (by omega), if_pos ⟨by
    simp only [List.take_left]
    exact List.all_eq_true.mpr w, by simp⟩]
  simp only [e]
  rw [if_neg (by omega)]
  simp
theorem das_c {S : Store} {h : Nat} {w : Int × Int × Int} {most : Nat} {Q : Val → Store → Prop} (wf : Wf S) (e : S[h]? = some (pOb w)) (hm : most ≤ 1000) (hQ : ∀ (xs : List (Option Deed)) w', xs.length ≤ 13 * most → Q (.pd (.list (xs.map tD))) (S.set h (pOb w'))) : Ok (F_law_deeds_and_steps [.obj h, .pd (.int (most : Nat))] S) Q := by
  have hh := lt_of_get e
  rw [F_law_deeds_and_steps_e, fnF_e]
  unfold G_law_deeds_and_steps
  have e1 : (S ++ [Ob.lst []])[h]? = some (pOb w) := by
    rw [List.getElem?_append_left hh]
    exact e
  simp -implicitDefEqProofs [startD, uLst, uLstM]
  refine take_ok e1 (by omega) fun a w1 a0 a1 => ?_
  refine ok_pick a0 (by simpa using a1) fun fd hf => ?_
  obtain ⟨often, rfl, f1, f2⟩ : ∃ k : Int, fd = .int k ∧ 1 ≤ k ∧ k ≤ 40 := by
    simp only [List.mem_cons, List.not_mem_nil, or_false] at hf
    have lit : ∀ x : Int, 1 ≤ x ∧ x ≤ 40 → fd = .int x → ∃ v : Int, fd = .int v ∧ 1 ≤ v ∧ v ≤ 40 := fun x h e => ⟨x, e, h⟩
    rcases hf with h | h | h <;> exact lit _ (by omega) h
  have D0 : DS S h S.length w1 [] ((S ++ [Ob.lst []]).set h (pOb w1)) := by
    rw [List.set_append_left _ _ hh]
    exact ⟨⟨_, rfl⟩, by simp, Nat.le_refl _⟩
  generalize (S ++ [Ob.lst []]).set h (pOb w1) = S1 at D0
  refine ok_b (deeds_c (most := most) (D0.gp hh) fun ds w2 l2 => ?_)
  have D1 := D0.pot (w' := w2) hh
  generalize S1.set h (pOb w2) = S2 at D1
  simp -implicitDefEqProofs
  refine ok_b (ok_loopQ (g := Val.pd ∘ dD) (fun r ρ' S' => ∃ (k : Nat) (w' : Int × Int × Int) (xs : List (Option Deed)) (x4 : Option Val), DS S h k w' xs S' ∧ xs.length + 13 * r.length ≤ 13 * most ∧ ρ' = [some (.obj h), some (.pd (.int most)), some (.obj k), some (.pd (.int often)), x4]) ?_ ?_ ds _ _ ⟨_, _, [], _, D1, by simp; omega, rfl⟩)
  · rintro d r ρ' S' P ⟨k, w', xs, x4, D, l, rfl⟩ hP
    rw [List.length_cons] at l
    exact das_turn hh D ⟨f1, f2⟩ (by omega) fun k' w3 xs' S3 D3 l3 => hP _ _ ⟨k', w3, xs', _, D3, by omega, rfl⟩
  · rintro ρ' S' ⟨k, w', xs, x4, D, l, rfl⟩
    obtain ⟨T, rfl⟩ := D.pre
    have wf' : Wf (S.set h (pOb w')) := wf.set rfl
    have ex := exitF_lst wf' (by simpa using D.le) D.get
    rw [List.length_set] at ex
    simp -implicitDefEqProofs [ex]
    exact hQ xs w' (by simpa using l)
end
end GQ
set_option Elab.async false
set_option linter.all false
set_option maxRecDepth 100000
set_option maxHeartbeats 4000000
namespace GC
open PySem L2 PyProof.Rows DM PG PW GP GQ
noncomputable section
abbrev B1_law_due : DEnv → M Fl := (gSeq (gAsg (eO uAdd (eVar 9) (eO uMul (eVar 11) (eO uDiv (eVar 8) (eC (.int 2))))) (nName 12))
    (gIf (tVal (eO (uLt fun i j => decide (j < i)) (eO uAdd (eVar 12) (eO uDiv (eVar 8) (eC (.int 2)))) (eVar 1))) (gAsg (eO uAdd (eVar 10) (eA uList (aCons (eO uIx (eVar 6) (eO uMod (eCall F_law_point 1 (aCons (eVar 12) aNil)) (eO uMul (eC (.int 2)) (eVar 7)))) aNil))) (nName 10)) gNext))
def G_law_due : DEnv → M Fl := (gSeq (gAsg (eVar 0) (nTup 3 (nsCons (nName 2) (nsCons (nName 3) (nsCons (nName 4) nsNil)))))
    (gSeq (gAsg (eA uTup (aCons (eVar 4) (aCons (eVar 2) aNil))) (nTup 2 (nsCons (nName 5) (nsCons (nName 6) nsNil))))
    (gSeq (gIf (tAnd (tVal (eO uIsNot (eVar 2) (eC .none))) (tVal (eO (uLt fun i j => decide (i < j)) (eA uLen (aCons (eVar 2) aNil)) (eA uLen (aCons (eVar 4) aNil))))) (gAsg (eA uTup (aCons (eVar 2) (aCons (eVar 4) aNil))) (nTup 2 (nsCons (nName 5) (nsCons (nName 6) nsNil)))) gNext)
    (gSeq (gAsg (eA uLen (aCons (eVar 5) aNil)) (nName 7))
    (gSeq (gAsg (eO uDiv (eC (.int 65536)) (eVar 7)) (nName 8))
    (gSeq (gAsg (eO uSub (eVar 1) (eO uMod (eVar 1) (eVar 8))) (nName 9))
    (gSeq (gAsg (eA uList (aCons (eO uIx (eVar 5) (eO uMod (eCall F_law_point 1 (aCons (eVar 9) aNil)) (eVar 7))) aNil)) (nName 10))
    (gSeq (gFor (iRng1 (eO uMul (eC (.int 2)) (eA uInt (aCons (eO uIsNot (eVar 6) (eC .none)) aNil)))) (nName 11) B1_law_due)
    (gRet (eA uTup (aCons (eO uMod (eO uAdd (eVar 9) (eVar 8)) (eC (.int 65536))) (aCons (eVar 10) aNil))))))))))))
theorem F_law_due_x : ∃ F, F = fnF 13 G_law_due exitF := ⟨_, rfl⟩
def F_law_due : List Val → M Val := Classical.choose F_law_due_x
theorem F_law_due_e : F_law_due = fnF 13 G_law_due exitF := Classical.choose_spec F_law_due_x
def G_law_cursor : DEnv → M Fl := (gSeq (gAsg (eO uMul (eC (.int 4096)) (eCall F_law_take 2 (aCons (eVar 0) (aCons (eC (.int 16)) aNil)))) (nName 1))
    (gSeq (gAsg (eA uLst (aCons (eC (.int 0)) (aCons (eCall F_law_take 2 (aCons (eVar 0) (aCons (eC (.int 65536)) aNil))) (aCons (eVar 1) (aCons (eO uMod (eO uAdd (eVar 1) (eC (.int 65535))) (eC (.int 65536))) (aCons (eO uAdd (eVar 1) (eC (.int 1))) (aCons (eC (.int 65535)) aNil))))))) (nName 2))
    (gRet (eO uIx (eVar 2) (eCall F_law_take 2 (aCons (eVar 0) (aCons (eC (.int 6)) aNil)))))))
theorem F_law_cursor_x : ∃ F, F = fnF 3 G_law_cursor exitF := ⟨_, rfl⟩
def F_law_cursor : List Val → M Val := Classical.choose F_law_cursor_x
theorem F_law_cursor_e : F_law_cursor = fnF 3 G_law_cursor exitF := Classical.choose_spec F_law_cursor_x
end
end GC
set_option Elab.async false
set_option linter.all false
set_option maxRecDepth 100000
set_option maxHeartbeats 4000000
namespace GB
open PySem L2 PyProof.Rows DM PG PW GP GQ GC
noncomputable section
abbrev B1_law_begun : DEnv → M Fl := (gSeq (gExpr (eCall F_law_done 2 (aCons (eVar 1) (aCons (eVar 3) aNil))))
    (gExpr (eCall F_law_plain_done 2 (aCons (eVar 2) (aCons (eVar 3) aNil)))))
def G_law_begun : DEnv → M Fl := (gSeq (gAsg (eMakeB nzT 1 F_table_init 4 (aCons (eCall F_law_mixer 1 (aCons (eVar 0) aNil)) (aCons (eO uAdd (eC (.int 1)) (eCall F_law_take 2 (aCons (eVar 0) (aCons (eC (.int 8)) aNil)))) (aCons (eC .none) aNil)))) (nName 1))
    (gSeq (gAsg eDict0 (nName 2))
    (gSeq (gFor (iSeq (eCall F_law_deeds 2 (aCons (eVar 0) (aCons (eC (.int 90)) aNil)))) (nName 3) B1_law_begun)
    (gRet (eA uTupV (aCons (eVar 1) (aCons (eVar 2) aNil)))))))
theorem F_law_begun_x : ∃ F, F = fnF 4 G_law_begun exitA := ⟨_, rfl⟩
def F_law_begun : List Val → M Val := Classical.choose F_law_begun_x
theorem F_law_begun_e : F_law_begun = fnF 4 G_law_begun exitA := Classical.choose_spec F_law_begun_x
end
end GB
set_option Elab.async false
set_option linter.all false
set_option maxRecDepth 100000
set_option maxHeartbeats 4000000
namespace TM
open PySem L2 PyProof.Rows DM
noncomputable section
/-! walks: which pairs a step tells, by points -/
def mk16 (mx : Int × Int) (k : Int) : Nat := ((k * mx.1 + mx.2) % 65536).toNat
def ptK (mx : Int × Int) (k : Int) : Nat := rev 16 (mk16 mx k)
theorem mk16_lt {mx : Int × Int} {k : Int} : mk16 mx k < 65536 := by
  unfold mk16
  omega
theorem mk16_cast {mx : Int × Int} {k : Int} : (k * mx.1 + mx.2) % 65536 = (mk16 mx k : Nat) := by
  unfold mk16
  omega
theorem plc_mk {mx : Int × Int} {n : Nat} {k : Int} : plc mx n k = mk16 mx k % n := by
  unfold plc
  rw [mk16_cast]
  omega
theorem ptK_lt {mx : Int × Int} {k : Int} : ptK mx k < 65536 := rev_lt 16 _
theorem rev_up {j : Nat} (hj : j ≤ 16) (m : Nat) : rev 16 m / 2 ^ (16 - j) = rev j m := by
  have := rev_div j (16 - j) m
  rwa [show j + (16 - j) = 16 by omega] at this
theorem rev_nought : ∀ k, rev k 0 = 0
  | 0 => rfl
  | k + 1 => by simp [rev, rev_nought k]
theorem rev_place {j : Nat} (hj : j ≤ 16) (m : Nat) : rev 16 (m % 2 ^ j) = rev 16 m / 2 ^ (16 - j) * 2 ^ (16 - j) := by
  have h := rev_add j (16 - j) (m % 2 ^ j)
  rw [show j + (16 - j) = 16 by omega, Nat.div_eq_of_lt (Nat.mod_lt _ (Nat.two_pow_pos j)), rev_nought, Nat.add_zero, ← rev_mod] at h
  rw [h, rev_up hj]
theorem rev_twice {c : Nat} (hc : c < 65536) : rev 16 (rev 16 c) = c := by
  rw [rev_rev]
  exact Nat.mod_eq_of_lt hc
theorem rev_same {j a b : Nat} : rev j a = rev j b ↔ a % 2 ^ j = b % 2 ^ j := by
  constructor
  · intro h
    have := congrArg (rev j) h
    rwa [rev_rev, rev_rev] at this
  · intro h
    rw [rev_mod, h, ← rev_mod]
theorem sz_pow {n : Nat} (h : (n : Int) ∈ SZ) : ∃ j, 2 ≤ j ∧ j ≤ 12 ∧ n = 2 ^ j ∧ 65536 / n = 2 ^ (16 - j) := by
  rcases sz_mem h with h | h | h | h | h | h | h | h | h | h | h <;> subst h
  · exact ⟨2, by omega, by omega, rfl, rfl⟩
  · exact ⟨3, by omega, by omega, rfl, rfl⟩
  · exact ⟨4, by omega, by omega, rfl, rfl⟩
  · exact ⟨5, by omega, by omega, rfl, rfl⟩
  · exact ⟨6, by omega, by omega, rfl, rfl⟩
  · exact ⟨7, by omega, by omega, rfl, rfl⟩
  · exact ⟨8, by omega, by omega, rfl, rfl⟩
  · exact ⟨9, by omega, by omega, rfl, rfl⟩
  · exact ⟨10, by omega, by omega, rfl, rfl⟩
  · exact ⟨11, by omega, by omega, rfl, rfl⟩
  · exact ⟨12, by omega, by omega, rfl, rfl⟩
theorem plc_pt {mx : Int × Int} {j c : Nat} {k : Int} (hj : j ≤ 16) (hc : c < 65536) : plc mx (2 ^ j) k = rev 16 c % 2 ^ j ↔ ptK mx k / 2 ^ (16 - j) = c / 2 ^ (16 - j) := by
  have e : c / 2 ^ (16 - j) = rev j (rev 16 c) := by rw [← rev_up hj, rev_twice hc]
  unfold ptK
  rw [e, rev_up hj, rev_same, plc_mk]
theorem rev_plc {mx : Int × Int} {j : Nat} {k : Int} (hj : j ≤ 16) : rev 16 (plc mx (2 ^ j) k) = ptK mx k / 2 ^ (16 - j) * 2 ^ (16 - j) := by
  unfold ptK
  rw [plc_mk, rev_place hj]
/-- the lesser shelf and the greater one -/
structure Sides (t : TSt) : Prop where
  ls : ∃ c, ShI t.mx (t.ls, c)
  gr : ∀ g, t.gr = some g → ∃ c, ShI t.mx (g, c)
  get : ∀ k v, t.get k = some v ↔ shLook t.mx t.ls k = some v ∨ ∃ g, t.gr = some g ∧ shLook t.mx g k = some v
  ap : ∀ g k, t.gr = some g → (shLook t.mx t.ls k).isSome = true → shLook t.mx g k = none
theorem TI.sides {t : TSt} (h : TI t) : Sides t := by
  cases he : t.elder with
  | none =>
    have e1 : t.ls = t.newer.1 := by simp [TSt.ls, he]
    have e2 : t.gr = none := by simp [TSt.gr, he]
    refine ⟨⟨t.newer.2, by rw [e1]; exact h.nw⟩, fun g hg => (by rw [e2] at hg; cases hg), fun k v => ?_, fun g k hg => (by rw [e2] at hg; cases hg)⟩
    rw [e1, e2]
    simp [TSt.get, he]
  | some el =>
    obtain ⟨h1, h2, h3, h4⟩ := h.el el he
    have g0 : ∀ k v, t.get k = some v ↔ shLook t.mx el.1 k = some v ∨ shLook t.mx t.newer.1 k = some v := fun k v => by
      simp only [TSt.get, he]
      cases hk : shLook t.mx el.1 k with
      | none => simp
      | some w =>
        have := h4 k (by rw [hk]; rfl)
        simp [this]
    by_cases hl : el.1.length < t.newer.1.length
    · have e1 : t.ls = el.1 := by simp [TSt.ls, he, hl]
      have e2 : t.gr = some t.newer.1 := by simp [TSt.gr, he, hl]
      refine ⟨⟨el.2, by rw [e1]; exact h1⟩, fun g hg => ?_, fun k v => ?_, fun g k hg hk => ?_⟩
      · rw [e2] at hg
        cases hg
        exact ⟨t.newer.2, h.nw⟩
      · rw [e1, e2, g0]
        simp
      · rw [e2] at hg
        cases hg
        rw [e1] at hk
        exact h4 k hk
    · have e1 : t.ls = t.newer.1 := by simp [TSt.ls, he, hl]
      have e2 : t.gr = some el.1 := by simp [TSt.gr, he, hl]
      refine ⟨⟨t.newer.2, by rw [e1]; exact h.nw⟩, fun g hg => ?_, fun k v => ?_, fun g k hg hk => ?_⟩
      · rw [e2] at hg
        cases hg
        exact ⟨el.2, h1⟩
      · rw [e1, e2, g0]
        simp [or_comm]
      · rw [e2] at hg
        cases hg
        rw [e1] at hk
        cases hq : shLook t.mx el.1 k with
        | none => rfl
        | some w =>
          rw [h4 k (by rw [hq]; rfl)] at hk
          cases hk
theorem row_mem {mx : Int × Int} {rows : Rows} {c : Int} (h : ShI mx (rows, c)) {p : Nat} {k v : Int} : (k, v) ∈ rowAt rows p ↔ shLook mx rows k = some v ∧ plc mx rows.length k = p := by
  constructor
  · intro hk
    have hp : plc mx rows.length k = p := h.pl p k (List.mem_map.mpr ⟨_, hk, rfl⟩)
    refine ⟨?_, hp⟩
    unfold shLook
    rw [hp]
    exact (valD_mem (h.nd p)).mpr hk
  · rintro ⟨h1, rfl⟩
    exact (valD_mem (h.nd _)).mp h1
def TSt.wide (t : TSt) : Nat := 65536 / t.ls.length
theorem wide_half {t : TSt} {g : Rows} {j : Nat} (hj : j ≤ 12) (hg : g.length = 2 * 2 ^ j) : 65536 / g.length = 2 ^ (16 - (j + 1)) ∧ 2 ^ (16 - j) = 2 * 2 ^ (16 - (j + 1)) := by
  have e : 2 ^ (16 - j) = 2 * 2 ^ (16 - (j + 1)) := by rw [← Nat.pow_succ']; congr 1; omega
  refine ⟨?_, e⟩
  have h16 : 65536 = 2 ^ (16 - (j + 1)) * (2 * 2 ^ j) := by
    rw [← Nat.pow_succ', ← Nat.pow_add]; exact (congrArg (2 ^ ·) (show 16 - (j + 1) + (j + 1) = 16 by omega)).symm
  rw [hg, h16, Nat.mul_div_cancel _ (by have := Nat.two_pow_pos j; omega)]
theorem mod_two {x p n : Nat} (hp : p < n) : x % n = p ↔ x % (2 * n) = p ∨ x % (2 * n) = p + n := by
  have h1 : x % (2 * n) % n = x % n := Nat.mod_mod_of_dvd x ⟨2, Nat.mul_comm 2 n⟩
  have h2 : x % (2 * n) < 2 * n := Nat.mod_lt _ (by omega)
  rw [← h1]
  generalize x % (2 * n) = y at h2
  constructor
  · intro h
    rcases Nat.lt_or_ge y n with q | q
    · rw [Nat.mod_eq_of_lt q] at h
      exact .inl h
    · have : y % n = y - n := by
        rw [Nat.mod_eq_sub_mod q, Nat.mod_eq_of_lt (by omega)]
      omega
  · rintro (h | h)
    · rw [h, Nat.mod_eq_of_lt hp]
    · rw [h, Nat.add_mod_right, Nat.mod_eq_of_lt hp]
theorem mem_wlkR {mx : Int × Int} {g : Rows} {cn : Int} (h : ShI mx (g, cn)) {c q : Nat} {k v : Int} : (k, v) ∈ wlkR g c q ↔ (shLook mx g k = some v ∧ plc mx g.length k = q) ∧ c < rev 16 q + 65536 / g.length := by
  unfold wlkR
  split
  · rename_i z
    rw [row_mem h]
    exact ⟨fun a => ⟨a, by omega⟩, fun a => a.1⟩
  · rename_i z
    simp only [List.not_mem_nil, false_iff]
    rintro ⟨_, b⟩
    omega
/-- just these -/
theorem mem_step {t : TSt} (ti : TI t) (db : Db t.bn) {c : Nat} (hc : c < 65536) {k v : Int} : (k, v) ∈ t.stepP c ↔ (t.get k = some v ∧ ptK t.mx k / t.wide = c / t.wide) ∧ (shLook t.mx t.ls k = some v ∨ c < ptK t.mx k / (t.wide / 2) * (t.wide / 2) + t.wide / 2) := by
  have sd := ti.sides
  obtain ⟨j, j1, j2, hn, hw⟩ := sz_pow ti.ls_sz
  have hw' : t.wide = 2 ^ (16 - j) := hw
  obtain ⟨cl, hl⟩ := sd.ls
  have pos := Nat.two_pow_pos j
  rw [hw']
  unfold TSt.stepP wlkP
  rw [List.mem_append, row_mem hl]
  cases hg : t.gr with
  | none =>
    have hget := sd.get k v
    rw [hg] at hget
    simp only [List.not_mem_nil, or_false, reduceCtorEq, false_and, exists_false] at hget ⊢
    rw [hn, plc_pt (by omega) hc, hget]
    constructor
    · rintro ⟨a, b⟩
      exact ⟨⟨a, b⟩, .inl a⟩
    · rintro ⟨⟨a, b⟩, _⟩
      exact ⟨a, b⟩
  | some g =>
    obtain ⟨cg, hgs⟩ := sd.gr g hg
    obtain ⟨gl, _⟩ := db.gr ti hg
    rw [hn] at gl
    obtain ⟨w1, w2⟩ := wide_half (t := t) j2 gl
    have hget := sd.get k v
    rw [hg] at hget
    simp only [Option.some.injEq, exists_eq_left'] at hget
    have wp : 2 ^ (16 - j) / 2 = 2 ^ (16 - (j + 1)) := by rw [w2]; omega
    have g2 : g.length = 2 ^ (j + 1) := by rw [gl, Nat.pow_succ']
    have both : (k, v) ∈ wlkR g c (rev 16 c % t.ls.length) ++ wlkR g c (rev 16 c % t.ls.length + t.ls.length) ↔ (shLook t.mx g k = some v ∧ plc t.mx t.ls.length k = rev 16 c % t.ls.length) ∧ c < ptK t.mx k / (2 ^ (16 - j) / 2) * (2 ^ (16 - j) / 2) + 2 ^ (16 - j) / 2 := by
      rw [List.mem_append, mem_wlkR hgs, mem_wlkR hgs, wp, w1]
      have rp : rev 16 (plc t.mx g.length k) = ptK t.mx k / 2 ^ (16 - (j + 1)) * 2 ^ (16 - (j + 1)) := by rw [g2]; exact rev_plc (by omega)
      rw [hn]
      have two := mod_two (x := mk16 t.mx k) (p := rev 16 c % 2 ^ j) (n := 2 ^ j) (Nat.mod_lt _ pos)
      rw [← gl, ← plc_mk, ← plc_mk] at two
      rw [two]
      constructor
      · rintro (⟨⟨a, b⟩, d⟩ | ⟨⟨a, b⟩, d⟩)
        · rw [← b, rp] at d
          exact ⟨⟨a, .inl b⟩, d⟩
        · rw [← b, rp] at d
          exact ⟨⟨a, .inr b⟩, d⟩
      · rintro ⟨⟨a, b | b⟩, d⟩
        · exact .inl ⟨⟨a, b⟩, by rw [← b, rp]; exact d⟩
        · exact .inr ⟨⟨a, b⟩, by rw [← b, rp]; exact d⟩
    simp only
    rw [both, hn, plc_pt (by omega) hc, hget]
    constructor
    · rintro (⟨a, b⟩ | ⟨⟨a, b⟩, d⟩)
      · exact ⟨⟨.inl a, b⟩, .inl a⟩
      · exact ⟨⟨.inr a, b⟩, .inr d⟩
    · rintro ⟨⟨a, b⟩, d⟩
      rcases a with a | a
      · exact .inl ⟨a, b⟩
      · rcases d with d | d
        · exact .inl ⟨d, b⟩
        · exact .inr ⟨⟨a, b⟩, d⟩
theorem wide_pos {t : TSt} (ti : TI t) : 16 ≤ t.wide ∧ t.wide * t.ls.length = 65536 ∧ t.wide ≤ 16384 := by
  unfold TSt.wide
  rcases sz_mem ti.ls_sz with h | h | h | h | h | h | h | h | h | h | h <;> rw [h] <;> decide
theorem stepN_eq {t : TSt} (ti : TI t) {c : Nat} (hc : c < 65536) : t.stepN c = (c / t.wide * t.wide + t.wide) % 65536 := by
  obtain ⟨j, j1, j2, hn, hw⟩ := sz_pow ti.ls_sz
  have hw' : t.wide = 2 ^ (16 - j) := hw
  unfold TSt.stepN wlkN
  rw [hw, hw', hn, rev_place (by omega), rev_twice hc]
/-- the next cursor: 0, or the point behind the stretch -/
theorem stepN_cases {t : TSt} (ti : TI t) {c : Nat} (hc : c < 65536) : (t.stepN c = 0 ∧ c / t.wide * t.wide + t.wide = 65536) ∨ (t.stepN c = c / t.wide * t.wide + t.wide ∧ c / t.wide * t.wide + t.wide < 65536) := by
  rw [stepN_eq ti hc]
  obtain ⟨w1, w2, w3⟩ := wide_pos ti
  have h1 : c / t.wide * t.wide ≤ c := Nat.div_mul_le_self _ _
  have h3 : c / t.wide < t.ls.length := by
    rw [Nat.div_lt_iff_lt_mul (by omega), Nat.mul_comm, w2]
    exact hc
  have h4 : (c / t.wide + 1) * t.wide ≤ t.ls.length * t.wide := Nat.mul_le_mul_right _ h3
  rw [Nat.mul_comm t.ls.length, w2, Nat.add_mul, Nat.one_mul] at h4
  rcases Nat.lt_or_ge (c / t.wide * t.wide + t.wide) 65536 with q | q
  · right
    exact ⟨Nat.mod_eq_of_lt q, q⟩
  · left
    have : c / t.wide * t.wide + t.wide = 65536 := by omega
    rw [this]
    exact ⟨rfl, rfl⟩
theorem div_same {a c w : Nat} (hw : 0 < w) (h1 : c ≤ a) (h2 : a < c / w * w + w) : a / w = c / w := by
  have l1 : c / w ≤ a / w := Nat.div_le_div_right h1
  have l2 : a / w < c / w + 1 := by
    rw [Nat.div_lt_iff_lt_mul hw, Nat.add_mul, Nat.one_mul]
    exact h2
  omega
/-- each key that is there with a point from the cursor to the next one is told -/
theorem step_full {t : TSt} (ti : TI t) (db : Db t.bn) {c : Nat} (hc : c < 65536) {k v : Int} (hg : t.get k = some v) (h1 : c ≤ ptK t.mx k) (h2 : t.stepN c = 0 ∨ ptK t.mx k < t.stepN c) : (k, v) ∈ t.stepP c := by
  obtain ⟨w1, w2, w3⟩ := wide_pos ti
  have hlt : ptK t.mx k < c / t.wide * t.wide + t.wide := by
    rcases stepN_cases ti hc with ⟨a, b⟩ | ⟨a, b⟩
    · rw [b]; exact ptK_lt
    · rcases h2 with h2 | h2
      · omega
      · omega
  rw [mem_step ti db hc]
  refine ⟨⟨hg, div_same (by omega) h1 hlt⟩, .inr ?_⟩
  have := Nat.lt_div_mul_add (a := ptK t.mx k) (b := t.wide / 2) (by omega)
  omega
theorem step_nd {t : TSt} (ti : TI t) (db : Db t.bn) {c : Nat} : (keysOf (t.stepP c)).Nodup := by
  have sd := ti.sides
  obtain ⟨cl, hl⟩ := sd.ls
  unfold TSt.stepP wlkP
  rw [keysOf_app]
  have val : ∀ {rows : Rows} {cn : Int} {p : Nat} {k : Int}, ShI t.mx (rows, cn) → k ∈ keysOf (rowAt rows p) → (shLook t.mx rows k).isSome = true ∧ plc t.mx rows.length k = p := fun {rows cn p k} h hk => by
    obtain ⟨q, hq, rfl⟩ := List.mem_map.mp hk
    have := (row_mem h (k := q.1) (v := q.2)).mp hq
    exact ⟨by rw [this.1]; rfl, this.2⟩
  refine List.nodup_append.mpr ⟨hl.nd _, ?_, ?_⟩
  · cases hg : t.gr with
    | none => exact List.nodup_nil
    | some g =>
      obtain ⟨cg, hgs⟩ := sd.gr g hg
      have pos := ti.ls_pos
      simp only
      rw [keysOf_app]
      have nd : ∀ q, (keysOf (wlkR g c q)).Nodup := fun q => by
        unfold wlkR
        split
        · exact hgs.nd q
        · exact List.nodup_nil
      have pl : ∀ q k, k ∈ keysOf (wlkR g c q) → plc t.mx g.length k = q := fun q k hk => by
        unfold wlkR at hk
        split at hk
        · exact (val hgs hk).2
        · cases hk
      refine List.nodup_append.mpr ⟨nd _, nd _, fun a ha b hb z => ?_⟩
      subst z
      have h1 := pl _ _ ha
      have h2 := pl _ _ hb
      omega
  · intro a ha b hb z
    subst z
    have h1 := (val hl ha).1
    cases hg : t.gr with
    | none => rw [hg] at hb; cases hb
    | some g =>
      obtain ⟨cg, hgs⟩ := sd.gr g hg
      rw [hg] at hb
      simp only at hb
      rw [keysOf_app] at hb
      have inG : ∀ q, a ∈ keysOf (wlkR g c q) → (shLook t.mx g a).isSome = true := fun q hk => by
        unfold wlkR at hk
        split at hk
        · exact (val hgs hk).1
        · cases hk
      have h2 := sd.ap g a hg h1
      rcases List.mem_append.mp hb with q | q
      · have := inG _ q
        rw [h2] at this
        cases this
      · have := inG _ q
        rw [h2] at this
        cases this
end
end TM
set_option Elab.async false
set_option linter.all false
set_option maxRecDepth 100000
set_option maxHeartbeats 4000000
namespace GC
open PySem L2 PyProof.Rows DM PG PW GP GQ TM PS
noncomputable section
/-! cursors; what is due of a step by the state -/
section
variable {S : Store} {h : Nat} {w : Int × Int × Int} {Q : Val → Store → Prop}
theorem cursor_c (e : S[h]? = some (pOb w)) (hQ : ∀ (c : Nat) w', c < 65536 → Q (.pd (.int (c : Nat))) (S.set h (pOb w'))) : Ok (F_law_cursor [.obj h] S) Q := by
  have hh := lt_of_get e
  rw [F_law_cursor_e, fnF_e]
  unfold G_law_cursor
  simp -implicitDefEqProofs [startD]
  refine take_ok e (by omega) fun a w1 a0 a1 => ?_
  have cm : CMul 4096 a := .inl (by decide)
  simp -implicitDefEqProofs [cm]
  refine take_set hh (by omega) fun b w2 b0 b1 => ?_
  simp -implicitDefEqProofs [uLst]
  refine take_set hh (by omega) fun c w3 c0 c1 => ?_
  refine ok_pick c0 (by simpa using c1) fun fd hf => ?_
  obtain ⟨n, rfl, hn⟩ : ∃ n : Nat, fd = .int (n : Nat) ∧ n < 65536 := by
    simp only [List.mem_cons, List.not_mem_nil, or_false] at hf
    have lit : ∀ x : Int, 0 ≤ x ∧ x < 65536 → fd = .int x → ∃ n : Nat, fd = .int (n : Nat) ∧ n < 65536 := fun x h e => ⟨x.toNat, by rw [e]; congr 1; omega, by omega⟩
    rcases hf with h | h | h | h | h | h <;> exact lit _ (by omega) h
  rw [exitF_same (by simp), ok_some]
  exact hQ n w3 hn
end
theorem two15 {k : Nat} (h : k ≤ 15) : (32768 : Int) / 2 ^ k = ((2 ^ (15 - k) : Nat) : Int) := by
  have e : ((2 ^ 15 : Nat) : Int) = 32768 := by decide +kernel
  have e2 : (2 ^ 15 : Nat) / 2 ^ k = 2 ^ (15 - k) := by rw [Nat.pow_div h (by decide)]
  rw [← e, ← e2]
  generalize (2 ^ 15 : Nat) = z
  simp
theorem lp_step {S : Store} {m k : Nat} {x : Option Val} (h : k ≤ 15) : turnG (nName 2) B1_law_point (.pd (.int (k : Nat))) [some (.pd (.int (m : Nat))), some (.pd (.int (rev k m * 2 ^ (16 - k) : Nat))), x] S = some (.nx [some (.pd (.int (m : Nat))), some (.pd (.int (rev (k + 1) m * 2 ^ (16 - (k + 1)) : Nat))), some (.pd (.int (k : Nat)))], S) := by
  have sh : ((m : Int) / 2 ^ k) % 2 = ((m / 2 ^ k % 2 : Nat) : Int) := by simp
  have cm : ∀ z : Int, CMul ((m / 2 ^ k % 2 : Nat) : Int) z := fun z => .inl (by omega)
  have rs : ((rev k m * 2 ^ (16 - k) : Nat) : Int) + ((m / 2 ^ k % 2 : Nat) : Int) * ((2 ^ (15 - k) : Nat) : Int) = ((rev (k + 1) m * 2 ^ (16 - (k + 1)) : Nat) : Int) := by
    have e1 : 2 ^ (16 - k) = 2 * 2 ^ (15 - k) := by rw [← Nat.pow_succ']; congr 1; omega
    have e2 : 16 - (k + 1) = 15 - k := by omega
    rw [← Int.natCast_mul, ← Int.natCast_add, rev_snoc, e1, e2, Nat.add_mul, ← Nat.mul_assoc, Nat.mul_comm (rev k m) 2]
  have k0 : (0 : Int) ≤ (k : Nat) := by omega
  have kt : ((k : Nat) : Int).toNat = k := by omega
  have u1 : ∀ S, uShr (.pd (.int (m : Nat))) (.pd (.int (k : Nat))) S = some (.pd (.int ((m : Int) / 2 ^ k)), S) := fun S => by simp only [uShr, if_pos k0, kt]
  have s2 := two15 h
  have u2 : ∀ S, uShr (.pd (.int 32768)) (.pd (.int (k : Nat))) S = some (.pd (.int ((2 ^ (15 - k) : Nat) : Int)), S) := fun S => by simp only [uShr, if_pos k0, kt, s2]
  have u3 : ∀ S, uBand (.pd (.int ((m : Int) / 2 ^ k))) (.pd (.int 1)) S = some (.pd (.int ((m / 2 ^ k % 2 : Nat) : Int)), S) := fun S => by simp only [uBand, bitAnd_m1, sh]
  clear s2 sh kt k0
  generalize ((rev k m * 2 ^ (16 - k) : Nat) : Int) = A at *
  generalize ((rev (k + 1) m * 2 ^ (16 - (k + 1)) : Nat) : Int) = B at *
  generalize ((2 ^ (15 - k) : Nat) : Int) = C at *
  generalize ((m / 2 ^ k % 2 : Nat) : Int) = D at *
  generalize (m : Int) / 2 ^ k = E at *
  have cm' := cm C
  unfold B1_law_point
  simp -implicitDefEqProofs [u1, u2, u3, cm', rs]
theorem lp_loop {S : Store} {m : Nat} : ∀ (n k : Nat) (x : Option Val), k + n = 16 → ∃ y, loopG (nName 2) B1_law_point ((List.range' k n).map fun i : Nat => Val.pd (.int (i : Nat))) [some (.pd (.int (m : Nat))), some (.pd (.int (rev k m * 2 ^ (16 - k) : Nat))), x] S =
    some (.nx [some (.pd (.int (m : Nat))), some (.pd (.int (rev 16 m : Nat))), y], S) := by
  intro n
  induction n with
  | zero =>
    intro k x h
    obtain rfl : k = 16 := by omega
    exact ⟨x, by simp⟩
  | succ n ih =>
    intro k x h
    obtain ⟨y, e⟩ := ih (k + 1) (some (.pd (.int (k : Nat)))) (by omega)
    refine ⟨y, ?_⟩
    rw [List.range'_succ, List.map_cons, loopG_cons, lp_step (by omega)]
    exact e
theorem law_point_eq {S : Store} {m : Nat} : F_law_point [.pd (.int (m : Nat))] S = some (.pd (.int (rev 16 m : Nat)), S) := by
  obtain ⟨y, e⟩ := lp_loop (S := S) (m := m) 16 0 none rfl
  rw [F_law_point_e, fnF_e]
  unfold G_law_point
  have er : rgI 0 16 = (List.range' 0 16).map fun i : Nat => Val.pd (.int (i : Nat)) := by
    rw [rgI0, List.range_eq_range']
  have e0 : ((rev 0 m * 2 ^ (16 - 0) : Nat) : Int) = 0 := by simp [rev]
  rw [e0] at e
  simp -implicitDefEqProofs [startD, er]
  simp -implicitDefEqProofs [e, exitF_same]
theorem rev_first {j c : Nat} (hj : j ≤ 16) : rev 16 (c / 2 ^ (16 - j) * 2 ^ (16 - j)) % 2 ^ j = rev 16 c % 2 ^ j := by
  have h := fun m => rev_low (16 - j) j m
  rw [show 16 - j + j = 16 by omega] at h
  rw [h, h, Nat.mul_div_cancel _ (Nat.two_pow_pos _)]
theorem half_place {j c b : Nat} (hj : j ≤ 15) (hb : b ≤ 1) : rev 16 (c / 2 ^ (16 - j) * 2 ^ (16 - j) + b * 2 ^ (15 - j)) % 2 ^ (j + 1) = rev 16 c % 2 ^ j + b * 2 ^ j := by
  have h := fun m => rev_low (15 - j) (j + 1) m
  have h' := fun m => rev_low (16 - j) j m
  rw [show 15 - j + (j + 1) = 16 by omega] at h
  rw [show 16 - j + j = 16 by omega] at h'
  have e1 : 2 ^ (16 - j) = 2 * 2 ^ (15 - j) := by rw [← Nat.pow_succ']; congr 1; omega
  have e2 : (c / 2 ^ (16 - j) * 2 ^ (16 - j) + b * 2 ^ (15 - j)) / 2 ^ (15 - j) = 2 * (c / 2 ^ (16 - j)) + b := by
    have e3 : c / 2 ^ (16 - j) * 2 ^ (16 - j) + b * 2 ^ (15 - j) = (2 * (c / 2 ^ (16 - j)) + b) * 2 ^ (15 - j) := by
      generalize c / 2 ^ (16 - j) = q
      rw [e1, Nat.add_mul, Nat.mul_comm 2 q, Nat.mul_assoc]
    rw [e3, Nat.mul_div_cancel _ (Nat.two_pow_pos _)]
  rw [h, h', e2]
  generalize c / 2 ^ (16 - j) = q
  show 2 ^ j * ((2 * q + b) % 2) + rev j ((2 * q + b) / 2) = rev j q + b * 2 ^ j
  have e4 : (2 * q + b) % 2 = b := by omega
  have e5 : (2 * q + b) / 2 = q := by omega
  rw [e4, e5, Nat.mul_comm b]
  omega
theorem half_point {j c b : Nat} (hj : j ≤ 15) (hb : b ≤ 1) (hc : c < 65536) : rev 16 (rev 16 c % 2 ^ j + b * 2 ^ j) = c / 2 ^ (16 - j) * 2 ^ (16 - j) + b * 2 ^ (15 - j) := by
  rw [← half_place hj hb, rev_place (by omega), show 16 - (j + 1) = 15 - j by omega]
  have e1 : 2 ^ (16 - j) = 2 * 2 ^ (15 - j) := by rw [← Nat.pow_succ']; congr 1; omega
  have hq : c / 2 ^ (16 - j) < 2 ^ j := by
    refine Nat.div_lt_of_lt_mul ?_
    rw [← Nat.pow_add, show 16 - j + j = 16 by omega]
    exact hc
  have e3 : c / 2 ^ (16 - j) * 2 ^ (16 - j) + b * 2 ^ (15 - j) = (2 * (c / 2 ^ (16 - j)) + b) * 2 ^ (15 - j) := by
    generalize c / 2 ^ (16 - j) = q
    rw [e1, Nat.add_mul, Nat.mul_comm 2 q, Nat.mul_assoc]
  have hX : c / 2 ^ (16 - j) * 2 ^ (16 - j) + b * 2 ^ (15 - j) < 65536 := by
    rw [e3]
    have h1 : 2 * (c / 2 ^ (16 - j)) + b < 2 ^ (j + 1) := by
      rw [Nat.pow_succ']
      omega
    have h2 := Nat.mul_lt_mul_of_pos_right h1 (Nat.two_pow_pos (15 - j))
    rwa [← Nat.pow_add, show j + 1 + (15 - j) = 16 by omega] at h2
  rw [rev_twice hX, e3, Nat.mul_div_cancel _ (Nat.two_pow_pos _)]
theorem first_cast {c w : Nat} : (c : Int) - (c : Int) % (w : Nat) = ((c / w * w : Nat) : Int) := by
  have := Nat.div_add_mod' c w
  have e : ((c : Int) % (w : Nat)) = ((c % w : Nat) : Int) := by simp
  rw [e]
  omega
theorem gr_row {g : Rows} {p : Nat} {S : Store} (h : p < g.length) : (bindR (uIx (.pd (rowsD g)) (.pd (.int (p : Nat))) S) fun a S => uList [a] S) = some (.pd (.list (pairs (rowAt g p))), S) := by
  rw [ix_rows h]
  rfl
theorem due_turn {g : Rows} {S : Store} {x0 x2 x3 x4 x5 x11 x12 : Option Val} {j c b : Nat} {xs : List (Int × Int)} (h2 : j ≤ 12) (hg : g.length = 2 * 2 ^ j) (hb : b ≤ 1) (hc : c < 65536) (hx : xs.length ≤ 10000000) (hgl : ∀ p, (rowAt g p).length ≤ 1000000) :
    ∃ x12', turnG (nName 11) B1_law_due (.pd (.int (b : Nat))) [x0, some (.pd (.int (c : Nat))), x2, x3, x4, x5, some (.pd (rowsD g)), some (.pd (.int (2 ^ j : Nat))), some (.pd (.int (2 ^ (16 - j) : Nat))), some (.pd (.int (c / 2 ^ (16 - j) * 2 ^ (16 - j) : Nat))), some (.pd (.list (pairs xs))), x11, x12] S =
      some (.nx [x0, some (.pd (.int (c : Nat))), x2, x3, x4, x5, some (.pd (rowsD g)), some (.pd (.int (2 ^ j : Nat))), some (.pd (.int (2 ^ (16 - j) : Nat))), some (.pd (.int (c / 2 ^ (16 - j) * 2 ^ (16 - j) : Nat))), some (.pd (.list (pairs (xs ++ wlkR g c (rev 16 c % 2 ^ j + b * 2 ^ j))))), some (.pd (.int (b : Nat))), x12'], S) := by
  have e1 : 2 ^ (16 - j) = 2 * 2 ^ (15 - j) := by rw [← Nat.pow_succ']; congr 1; omega
  obtain ⟨w1, _⟩ := wide_half (t := newT (0, 0) 0) h2 hg
  rw [show 16 - (j + 1) = 15 - j by omega] at w1
  have d2 : ((2 ^ (16 - j) : Nat) : Int) / 2 = ((2 ^ (15 - j) : Nat) : Int) := by rw [e1]; omega
  have cm : CMul ((b : Nat) : Int) ((2 ^ (15 - j) : Nat) : Int) := .inl (by omega)
  have cm2 : CMul 2 ((2 ^ j : Nat) : Int) := .inl (by decide)
  have bg : ((c / 2 ^ (16 - j) * 2 ^ (16 - j) : Nat) : Int) + ((b : Nat) : Int) * ((2 ^ (15 - j) : Nat) : Int) = ((c / 2 ^ (16 - j) * 2 ^ (16 - j) + b * 2 ^ (15 - j) : Nat) : Int) := by
    rw [← Int.natCast_mul, ← Int.natCast_add]
  have pl := half_place (j := j) (c := c) (b := b) (by omega) hb
  have pt := half_point (j := j) (c := c) (b := b) (by omega) hb hc
  have pos := Nat.two_pow_pos j
  have sz : (2 : Int) * ((2 ^ j : Nat) : Int) = ((2 ^ (j + 1) : Nat) : Int) := by rw [Nat.pow_succ']; omega
  have s0 : (0 : Int) < ((2 ^ (j + 1) : Nat) : Int) := by have := Nat.two_pow_pos (j + 1); omega
  have pm : (((rev 16 (c / 2 ^ (16 - j) * 2 ^ (16 - j) + b * 2 ^ (15 - j)) : Nat) : Int) % ((2 ^ (j + 1) : Nat) : Int)) = ((rev 16 c % 2 ^ j + b * 2 ^ j : Nat) : Int) := by rw [← pl]; simp
  have hp : rev 16 c % 2 ^ j + b * 2 ^ j < g.length := by
    rw [← pl, hg, ← Nat.pow_succ']
    exact Nat.mod_lt _ (Nat.two_pow_pos _)
  generalize rev 16 c % 2 ^ j + b * 2 ^ j = q at *
  have rw1 := hgl q
  unfold wlkR
  rw [w1, pt]
  generalize hB : c / 2 ^ (16 - j) * 2 ^ (16 - j) + b * 2 ^ (15 - j) = B at *
  generalize hF : c / 2 ^ (16 - j) * 2 ^ (16 - j) = F at *
  have l1 : xs.length + (rowAt g q).length ≤ 16777216 := by omega
  unfold B1_law_due
  refine ⟨some (.pd (.int (B : Nat))), ?_⟩
  generalize 2 ^ (15 - j) = V at *
  generalize 2 ^ (16 - j) = W at *
  generalize 2 ^ (j + 1) = M at *
  generalize 2 ^ j = N at *
  have two : (0 : Int) < 2 := by decide
  by_cases hq : c + 1 ≤ B + V
  · have hq' : (c : Int) < (B : Int) + (V : Int) := by omega
    have ul : ∀ xs, uList [.pd (.tuple xs)] S = some (.pd (.list xs), S) := fun _ => rfl
    have pa : pairs xs ++ pairs (rowAt g q) = pairs (xs ++ rowAt g q) := by simp [pairs]
    have l1' : (pairs xs).length + (pairs (rowAt g q)).length ≤ 16777216 := by simpa [pairs] using l1
    rw [if_pos hq]
    have m0 : M ≠ 0 := by omega
    simp -implicitDefEqProofs [d2, cm, bg, hq', law_point_eq, cm2, sz, s0, m0, pm, ix_rows hp, ul, l1', pa]
  · have hq' : ¬ (c : Int) < (B : Int) + (V : Int) := by omega
    rw [if_neg hq, List.append_nil]
    simp -implicitDefEqProofs [d2, cm, bg, hq']
def G_due_tail : DEnv → M Fl := (gSeq (gAsg (eA uLen (aCons (eVar 5) aNil)) (nName 7))
    (gSeq (gAsg (eO uDiv (eC (.int 65536)) (eVar 7)) (nName 8))
    (gSeq (gAsg (eO uSub (eVar 1) (eO uMod (eVar 1) (eVar 8))) (nName 9))
    (gSeq (gAsg (eA uList (aCons (eO uIx (eVar 5) (eO uMod (eCall F_law_point 1 (aCons (eVar 9) aNil)) (eVar 7))) aNil)) (nName 10))
    (gSeq (gFor (iRng1 (eO uMul (eC (.int 2)) (eA uInt (aCons (eO uIsNot (eVar 6) (eC .none)) aNil)))) (nName 11) B1_law_due)
    (gRet (eA uTup (aCons (eO uMod (eO uAdd (eVar 9) (eVar 8)) (eC (.int 65536))) (aCons (eVar 10) aNil)))))))))
theorem loopG2 {gg : Val → DEnv → M DEnv} {gb : DEnv → M Fl} {a b : Val} {ρ ρ1 ρ2 : DEnv} {S S1 S2 : Store} (h1 : turnG gg gb a ρ S = some (.nx ρ1, S1)) (h2 : turnG gg gb b ρ1 S1 = some (.nx ρ2, S2)) : loopG gg gb [a, b] ρ S = some (.nx ρ2, S2) := by
  rw [loopG_cons, h1]
  show loopG gg gb [b] ρ1 S1 = _
  rw [loopG_cons, h2]
  rfl
theorem c_wide {t : TSt} (ti : TI t) {c : Nat} : 0 < t.ls.length ∧ t.ls.length ≤ 4096 ∧ ∃ j, 2 ≤ j ∧ j ≤ 12 ∧ t.ls.length = 2 ^ j ∧ 65536 / t.ls.length = 2 ^ (16 - j) := by
  have := sz_mem ti.ls_sz
  exact ⟨by omega, by omega, sz_pow ti.ls_sz⟩
theorem due_eq {t : TSt} {S : Store} {c : Nat} (ti : TI t) (db : Db t.bn) (ln : t.pairs.length ≤ 1000000) (hc : c < 65536) : F_law_due [.pd (stateD t), .pd (.int (c : Nat))] S = some (.pd (.tuple [.int (t.stepN c : Nat), .list (pairs (t.stepP c))]), S) := by
  obtain ⟨pos, le, j, j1, j2, hn, hw⟩ := c_wide (c := c) ti
  have n1 := stepN_eq ti hc
  have hw' : t.wide = 2 ^ (16 - j) := hw
  rw [hw'] at n1
  have rf := rev_first (j := j) (c := c) (by omega)
  have wp := Nat.two_pow_pos (16 - j)
  have hp : rev 16 c % 2 ^ j < t.ls.length := by
    rw [hn]
    exact Nat.mod_lt _ (Nat.two_pow_pos j)
  have ixl := ix_rows (S := S) hp
  have lr : uLen [.pd (rowsD t.ls)] S = some (.pd (.int (2 ^ j : Nat)), S) := by rw [len_rows, hn]
  have dv : (65536 : Int) / ((2 ^ j : Nat) : Int) = ((2 ^ (16 - j) : Nat) : Int) := by rw [← hw, hn]; simp
  have rp : ((rev 16 (c / 2 ^ (16 - j) * 2 ^ (16 - j)) : Nat) : Int) % ((2 ^ j : Nat) : Int) = ((rev 16 c % 2 ^ j : Nat) : Int) := by rw [← rf]; simp
  have fc := first_cast (c := c) (w := 2 ^ (16 - j))
  have ul : ∀ xs, uList [.pd (.tuple xs)] S = some (.pd (.list xs), S) := fun _ => rfl
  have np := Nat.two_pow_pos j
  have hlt : 2 ^ j ≤ 4096 := by rw [← hn]; exact le
  -- the part behind the first three rows
  have tail : ∀ (x0 x2 x3 x4 : Option Val) (gr : Option Rows), gr = t.gr → endR (G_due_tail [x0, some (.pd (.int (c : Nat))), x2, x3, x4, some (.pd (rowsD t.ls)), some (.pd (grD gr)), none, none, none, none, none, none] S) (exitF S.length) = some (.pd (.tuple [.int (t.stepN c : Nat), .list (pairs (t.stepP c))]), S) := by
    intro x0 x2 x3 x4 gr hgr
    have nm : (((c / 2 ^ (16 - j) * 2 ^ (16 - j) : Nat) : Int) + ((2 ^ (16 - j) : Nat) : Int)) % 65536 = ((t.stepN c : Nat) : Int) := by rw [n1]; simp
    have turn := fun (g : Rows) (x11 x12 : Option Val) (b : Nat) (xs : List (Int × Int)) h1 hb h2 h3 => due_turn (g := g) (S := S) (x0 := x0) (x2 := x2) (x3 := x3) (x4 := x4) (x5 := some (.pd (rowsD t.ls))) (x11 := x11) (x12 := x12) (j := j) (c := c) (b := b) (xs := xs) j2 h1 hb hc h2 h3
    unfold TSt.stepP wlkP G_due_tail
    rw [hn]
    rw [hn] at hp
    generalize c / 2 ^ (16 - j) * 2 ^ (16 - j) = F at *
    generalize hP : rev 16 c % 2 ^ j = p at *
    generalize 2 ^ (16 - j) = W at *
    generalize hN : 2 ^ j = N at *
    have w0 : (0 : Int) < (W : Nat) := by omega
    have n0 : (0 : Int) < (N : Nat) := by omega
    have wz : W ≠ 0 := by omega
    have nz : N ≠ 0 := by omega
    have dok : ((N : Nat) : Int) < 1073741824 := by omega
    subst hgr
    cases hg : t.gr with
    | none =>
      have z : isNon (.pd (grD none)) = true := rfl
      have c20 : CMul 2 0 := .inl (by decide)
      have r0 : rgI 0 0 = [] := rfl
      simp -implicitDefEqProofs [lr, dv, w0, n0, wz, nz, dok, wp, np, c20, r0, fc, law_point_eq, rp, ixl, ul, z, nm, uTup, exitF_same]
    | some g =>
      have z : isNon (.pd (grD (some g))) = false := rfl
      have c21 : CMul 2 1 := .inl (by decide)
      obtain ⟨gl, _⟩ := db.gr ti hg
      rw [hn] at gl
      have l0 := gr_len hg
      have l1 := row_len (rows := t.ls) p
      have l2 := ls_len (t := t)
      have hgl : ∀ q, (rowAt g q).length ≤ 1000000 := fun q => by
        have := row_len (rows := g) q
        omega
      have l5 := wlkR_len (g := g) (c := c) (q := p)
      have r2 : rgI 0 2 = [.pd (.int (0 : Nat)), .pd (.int (1 : Nat))] := rfl
      obtain ⟨y1, t1⟩ := turn g none none 0 (rowAt t.ls p) gl (by omega) (by omega) hgl
      rw [Nat.zero_mul, Nat.add_zero] at t1
      obtain ⟨y2, t2⟩ := turn g (some (.pd (.int (0 : Nat)))) y1 1 (rowAt t.ls p ++ wlkR g c p) gl (by omega) (by rw [List.length_append]; omega) hgl
      rw [Nat.one_mul, List.append_assoc] at t2
      have lp : loopG (nName 11) B1_law_due (rgI 0 2) [x0, some (.pd (.int (c : Nat))), x2, x3, x4, some (.pd (rowsD t.ls)), some (.pd (grD (some g))), some (.pd (.int (N : Nat))), some (.pd (.int (W : Nat))), some (.pd (.int (F : Nat))), some (.pd (.list (pairs (rowAt t.ls p)))), none, none] S = some (.nx [x0, some (.pd (.int (c : Nat))), x2, x3, x4, some (.pd (rowsD t.ls)), some (.pd (rowsD g)), some (.pd (.int (N : Nat))), some (.pd (.int (W : Nat))), some (.pd (.int (F : Nat))), some (.pd (.list (pairs (rowAt t.ls p ++ (wlkR g c p ++ wlkR g c (p + N)))))), some (.pd (.int (1 : Nat))), y2], S) := by
        rw [r2]
        exact loopG2 t1 t2
      simp -implicitDefEqProofs [lr, dv, w0, n0, wz, nz, dok, wp, np, c21, lp, fc, law_point_eq, rp, ixl, ul, z, nm, uTup, exitF_same]
  rw [F_law_due_e, fnF_e]
  have gd : G_law_due = (gSeq (gAsg (eVar 0) (nTup 3 (nsCons (nName 2) (nsCons (nName 3) (nsCons (nName 4) nsNil)))))
    (gSeq (gAsg (eA uTup (aCons (eVar 4) (aCons (eVar 2) aNil))) (nTup 2 (nsCons (nName 5) (nsCons (nName 6) nsNil))))
    (gSeq (gIf (tAnd (tVal (eO uIsNot (eVar 2) (eC .none))) (tVal (eO (uLt fun i j => decide (i < j)) (eA uLen (aCons (eVar 2) aNil)) (eA uLen (aCons (eVar 4) aNil))))) (gAsg (eA uTup (aCons (eVar 2) (aCons (eVar 4) aNil))) (nTup 2 (nsCons (nName 5) (nsCons (nName 6) nsNil)))) gNext) G_due_tail))) := rfl
  rw [gd]
  have tl := fun x0 x2 x3 x4 => tail x0 x2 x3 x4 _ rfl
  clear tail gd
  have st : stateD t = .tuple [match t.elder with
    | none => .none
    | some r => rowsD r.1, .int t.moved, rowsD t.newer.1] := rfl
  rw [st]
  cases he : t.elder with
  | none =>
    have e1 : t.ls = t.newer.1 := by simp [TSt.ls, he]
    have e2 : t.gr = none := by simp [TSt.gr, he]
    rw [e1, e2] at tl
    have z : isNon (.pd PyData.none) = true := rfl
    have := tl (some (.pd (.tuple [.none, .int t.moved, rowsD t.newer.1]))) (some (.pd .none)) (some (.pd (.int t.moved))) (some (.pd (rowsD t.newer.1)))
    have g0 : grD none = PyData.none := rfl
    simp -implicitDefEqProofs [startD, z, uTup]
    exact this
  | some el =>
    by_cases hl : el.1.length < t.newer.1.length
    · have e1 : t.ls = el.1 := by simp [TSt.ls, he, hl]
      have e2 : t.gr = some t.newer.1 := by simp [TSt.gr, he, hl]
      rw [e1, e2] at tl
      have := tl (some (.pd (.tuple [rowsD el.1, .int t.moved, rowsD t.newer.1]))) (some (.pd (rowsD el.1))) (some (.pd (.int t.moved))) (some (.pd (rowsD t.newer.1)))
      have z : isNon (.pd (rowsD el.1)) = false := rfl
      simp -implicitDefEqProofs [startD, z, uTup, len_rows, hl]
      exact this
    · have e1 : t.ls = t.newer.1 := by simp [TSt.ls, he, hl]
      have e2 : t.gr = some el.1 := by simp [TSt.gr, he, hl]
      rw [e1, e2] at tl
      have := tl (some (.pd (.tuple [rowsD el.1, .int t.moved, rowsD t.newer.1]))) (some (.pd (rowsD el.1))) (some (.pd (.int t.moved))) (some (.pd (rowsD t.newer.1)))
      have z : isNon (.pd (rowsD el.1)) = false := rfl
      simp -implicitDefEqProofs [startD, z, uTup, len_rows, hl]
      exact this
theorem min_sz {t : TSt} {S : Store} {ρ : DEnv} {i : Nat} {β : Type} {k : Val → M β} (hi : i < ρ.length) : (bindR (seqI (.pd (sizesD t)) S) fun a S_2 => bindR (loopC (nName i) (tVal (eO uIsNot (eVar i) (eC .none))) (eVar i) ρ a.items [] S_2) fun a_1 S_3 => bindR (uMin1 [.pd (.list a_1)] (a.un S_3)) k) = k (.pd (.int t.ls.length)) S := by
  have nn : isNon (.pd PyData.none) = true := rfl
  have ni : ∀ i, isNon (.pd (PyData.int i)) = false := fun _ => rfl
  have ev : ∀ d (S : Store), eVar i (ρ.set i (some d)) S = some (d, S) := fun d S => by simp [eVar, hi]
  unfold sizesD TSt.ls
  cases he : t.elder with
  | none => simp -implicitDefEqProofs [loopC_cons, nn, ni, ev, uMin1, getL, allInt, minL]
  | some el =>
    have m2 : ∀ a b : Int, minL [a, b] = min a b := fun _ _ => rfl
    simp -implicitDefEqProofs [loopC_cons, nn, ni, ev, uMin1, getL, allInt, m2]
    congr 3
    split <;> omega
theorem allKV_pairs (r : List (Int × Int)) : allKV (pairs r) = some (kD r) := by
  induction r with
  | nil => rfl
  | cons p r ih =>
    have : pairs (p :: r) = .tuple [.int p.1, .int p.2] :: pairs r := rfl
    rw [this]
    simp [allKV, toKey, ih, kD]
theorem merge_new (acc : List (Key × PyData)) : ∀ r : List (Int × Int), (keysOf r).Nodup → (∀ k ∈ keysOf r, ∀ q ∈ acc, q.1 ≠ Sum.inl k) → mergeD acc (kD r) = acc ++ kD r := by
  intro r
  induction r generalizing acc with
  | nil => intro _ _; simp [mergeD, kD]
  | cons p r ih =>
    intro hn hd
    have hn' := List.nodup_cons.mp (show (p.1 :: keysOf r).Nodup from hn)
    have pu : ∀ (acc : List (Key × PyData)), (∀ q ∈ acc, q.1 ≠ Sum.inl p.1) → putKD acc (Sum.inl p.1) (.int p.2) = acc ++ [(Sum.inl p.1, .int p.2)] := fun acc h => by
      unfold putKD
      rw [if_neg]
      intro z
      rw [List.any_eq_true] at z
      obtain ⟨q, hq, hz⟩ := z
      exact h q hq (of_decide_eq_true hz)
    show mergeD (putKD acc (Sum.inl p.1) (.int p.2)) (kD r) = _
    rw [pu acc (hd p.1 (by simp [keysOf])), ih _ hn'.2 ?_]
    · simp [kD]
    · intro k hk q hq
      rcases List.mem_append.mp hq with hq | hq
      · exact hd k (by simp [keysOf] at hk ⊢; exact .inr hk) q hq
      · simp at hq
        subst hq
        intro z
        have : p.1 = k := by simpa using z
        subst this
        exact hn'.1 hk
theorem uDictOf_pairs {S : Store} {r : List (Int × Int)} (hn : (keysOf r).Nodup) : uDictOf [.pd (.list (pairs r))] S = some (.obj S.length, S ++ [.dK (kD r)]) := by
  simp [uDictOf, getL, allKV_pairs, merge_new [] r hn (by simp)]
end
end GC
set_option Elab.async false
set_option linter.all false
set_option maxRecDepth 100000
set_option maxHeartbeats 4000000
namespace GB
open PySem L2 PyProof.Rows DM PG PW GP GQ GC TM PS
noncomputable section
/-! what a pot tells hangs on the pot alone; a table begun -/
theorem mixed_det (c k : Int) : ∃ v : Int, ∀ S, F_law_mixed [.pd (.int c), .pd (.int k)] S = some (.pd (.int v), S) := by
  have q1 := emod_b ((c % 2147483647 + 7919 * k + 1) * 48271) (m := 2147483647) (by omega)
  have c0 : CMul 7919 k := .inl (by decide)
  have c1 : CMul (c % 2147483647 + 7919 * k + 1) 48271 := .inr (by decide)
  generalize hq : (c % 2147483647 + 7919 * k + 1) * 48271 % 2147483647 = q at q1
  have c2 : CMul q q := .inl (by omega)
  have c3 : CMul 40692 (k + 3) := .inl (by decide)
  have c4 : CMul (q * q % 2147483629 + 40692 * (k + 3)) 69621 := .inr (by decide)
  refine ⟨(q * q % 2147483629 + 40692 * (k + 3)) * 69621 % 2147483579 / 8, fun S => ?_⟩
  rw [F_law_mixed_e, fnF_e]
  unfold G_law_mixed
  simp -implicitDefEqProofs [startD, c0, c1, hq, c2, c3, c4, exitF_same]
theorem take_det (r : Int × Int × Int) {m : Int} (hm : 0 < m ∧ m < 1073741824 * 4) : ∃ v r', 0 ≤ v ∧ v < m ∧ ∀ (S : Store) h, S[h]? = some (pOb r) → F_law_take [.obj h, .pd (.int m)] S = some (.pd (.int v), S.set h (pOb r')) := by
  obtain ⟨a, b, c⟩ := r
  have hd : m < 1073741824 ∨ m.natAbs.log2 < 9000 := .inr (log2_lt hm)
  by_cases hc : 0 < a
  · refine ⟨a % m, (a / m, b, c + 1), (emod_b _ hm.1).1, (emod_b _ hm.1).2, fun S h e => ?_⟩
    have hh := lt_of_get e
    unfold pOb at e
    have e1 : (S.set h (.lst [.int a, .int b, .int (c + 1)]))[h]? = some (.lst [.int a, .int b, .int (c + 1)]) := List.getElem?_set_self hh
    rw [F_law_take_e, fnF_e]
    unfold G_law_take
    simp -implicitDefEqProofs [startD, uIx_obj e, atI, ixN, hc, hm.1, hd, uSet_obj e, uIx_set hh, uSet_obj e1, exitF_same, pOb]
  · obtain ⟨v, hv⟩ := mixed_det b (c + 1)
    refine ⟨v % m, (a, b, c + 1), (emod_b _ hm.1).1, (emod_b _ hm.1).2, fun S h e => ?_⟩
    have hh := lt_of_get e
    unfold pOb at e
    rw [F_law_take_e, fnF_e]
    unfold G_law_take
    simp -implicitDefEqProofs [startD, uIx_obj e, atI, ixN, hc, hm.1, hd, uSet_obj e, uIx_set hh, hv, exitF_same, pOb]
theorem mixer_det (u : Int × Int × Int) : ∃ mx u', mxR mx ∧ ∀ (S : Store) h, S[h]? = some (pOb u) → F_law_mixer [.obj h] S = some (.pd (pr mx), S.set h (pOb u')) := by
  obtain ⟨a, w1, a0, a1, ta⟩ := take_det u (m := 65536) (by omega)
  obtain ⟨b, w2, b0, b1, tb⟩ := take_det w1 (m := 65536) (by omega)
  obtain ⟨c, w3, c0, c1, tc⟩ := take_det w2 (m := 4) (by omega)
  have r1 := emod_b a (m := 16) (by omega)
  have cm : CMul 4096 (a % 16) := .inl (by decide)
  obtain ⟨mx, hmx, hix⟩ : ∃ mx : Int × Int, mxR mx ∧ ∀ S, uIx (.pd (.list [.tuple [.int 0, .int b], .tuple [.int 1, .int 0], .tuple [.int a, .int b], .tuple [.int (4096 * (a % 16)), .int b]])) (.pd (.int c)) S = some (.pd (pr mx), S) := by
    have : c = 0 ∨ c = 1 ∨ c = 2 ∨ c = 3 := by omega
    rcases this with rfl | rfl | rfl | rfl
    · exact ⟨(0, b), ⟨by omega, by omega⟩, fun S => by simp [uIx_list, atI, ixN, pr]⟩
    · exact ⟨(1, 0), ⟨by omega, by omega⟩, fun S => by simp [uIx_list, atI, ixN, pr]⟩
    · exact ⟨(a, b), ⟨by omega, by omega⟩, fun S => by simp [uIx_list, atI, ixN, pr]⟩
    · exact ⟨(4096 * (a % 16), b), ⟨by dsimp only; omega, by dsimp only; omega⟩, fun S => by simp [uIx_list, atI, ixN, pr]⟩
  refine ⟨mx, w3, hmx, fun S h e => ?_⟩
  have hh := lt_of_get e
  have t1 := ta S h e
  have t2 := tb (S.set h (pOb w1)) h (List.getElem?_set_self hh)
  rw [List.set_set] at t2
  have t3 := tc (S.set h (pOb w2)) h (List.getElem?_set_self hh)
  rw [List.set_set] at t3
  rw [F_law_mixer_e, fnF_e]
  unfold G_law_mixer
  have i0 : ∀ Z : Store, uIx (.pd (.list [.int a, .int b])) (.pd (.int 0)) Z = some (.pd (.int a), Z) := fun _ => rfl
  have i1 : ∀ Z : Store, uIx (.pd (.list [.int a, .int b])) (.pd (.int 1)) Z = some (.pd (.int b), Z) := fun _ => rfl
  simp -implicitDefEqProofs [startD, uTup, uLst, t1, t2, i0, i1, cm, t3, hix, exitF_same]
def SB (S : Store) (h : Nat) (w : Int × Int × Int) (t : TSt) (kn : List (Int × Int)) : Store := S.set h (pOb w) ++ [boxT t, .dK (kD kn)]
theorem sb_len {S : Store} {h : Nat} {w : Int × Int × Int} {t : TSt} {kn : List (Int × Int)} : (SB S h w t kn).length = S.length + 2 := by simp [SB]
theorem sb_h {S : Store} {h : Nat} {w : Int × Int × Int} {t : TSt} {kn : List (Int × Int)} (hh : h < S.length) : (SB S h w t kn)[h]? = some (pOb w) := by
  unfold SB
  rw [List.getElem?_append_left (by simpa using hh)]
  exact List.getElem?_set_self hh
theorem sb_t {S : Store} {h : Nat} {w : Int × Int × Int} {t : TSt} {kn : List (Int × Int)} : (SB S h w t kn)[S.length]? = some (boxT t) := by
  unfold SB
  rw [List.getElem?_append_right (by simp)]
  simp
theorem sb_k {S : Store} {h : Nat} {w : Int × Int × Int} {t : TSt} {kn : List (Int × Int)} : (SB S h w t kn)[S.length + 1]? = some (.dK (kD kn)) := by
  unfold SB
  rw [List.getElem?_append_right (by simp)]
  simp
theorem sb_sh {S : Store} {h : Nat} {w w' : Int × Int × Int} {t : TSt} {kn : List (Int × Int)} (hh : h < S.length) : (SB S h w t kn).set h (pOb w') = SB S h w' t kn := by
  unfold SB
  rw [List.set_append_left _ _ (by simpa using hh), List.set_set]
theorem sb_st {S : Store} {h : Nat} {w : Int × Int × Int} {t t' : TSt} {kn : List (Int × Int)} : (SB S h w t kn).set S.length (boxT t') = SB S h w t' kn := by
  unfold SB
  rw [List.set_append_right _ _ (by simp)]
  simp
theorem sb_sk {S : Store} {h : Nat} {w : Int × Int × Int} {t : TSt} {kn kn' : List (Int × Int)} : (SB S h w t kn).set (S.length + 1) (.dK (kD kn')) = SB S h w t kn' := by
  unfold SB
  rw [List.set_append_right _ _ (by simp)]
  simp
theorem sb_wf {S : Store} {h : Nat} {w : Int × Int × Int} {t : TSt} {kn : List (Int × Int)} (wf : Wf S) : Wf (SB S h w t kn) := by
  have := ((wf.set (h := h) (o := pOb w) rfl).app (o := boxT t) rfl).app (o := .dK (kD kn)) rfl
  simpa [SB] using this
/-- a deed on both -/
theorem both_eq {S : Store} {h : Nat} {w : Int × Int × Int} {t : TSt} {kn : List (Int × Int)} {d : Deed} (tw : Tw t kn) (hl : kn.length ≤ 90000) :
    F_law_done [.obj S.length, .pd (dD d)] (SB S h w t kn) = some (.pd (optD (valD kn d.key)), SB S h w (t.deed d) kn) ∧ F_law_plain_done [.obj (S.length + 1), .pd (dD d)] (SB S h w (t.deed d) kn) = some (.pd (optD (valD kn d.key)), SB S h w (t.deed d) (kStep kn d)) := by
  have a := law_done_eq (S := SB S h w t kn) (h := S.length) (d := d) (t := t) sb_t (tw.tw.fit (by omega))
  have b := plain_eq (S := SB S h w (t.deed d) kn) (h := S.length + 1) (kn := kn) (d := d) sb_k (by omega)
  rw [sb_st, tw.tw.eq] at a
  rw [sb_sk] at b
  exact ⟨a, b⟩
theorem begun_turn {S : Store} {h : Nat} {w : Int × Int × Int} {t : TSt} {kn : List (Int × Int)} {d : Deed} {x0 x3 : Option Val} {Q : Fl → Store → Prop} (tw : Tw t kn) (hl : kn.length ≤ 90000)
    (hQ : ∀ x3, Q (.nx [x0, some (.obj S.length), some (.obj (S.length + 1)), x3]) (SB S h w (t.deed d) (kStep kn d))) : Ok (turnG (nName 3) B1_law_begun (.pd (dD d)) [x0, some (.obj S.length), some (.obj (S.length + 1)), x3] (SB S h w t kn)) Q := by
  obtain ⟨a, b⟩ := both_eq (S := S) (h := h) (w := w) (d := d) tw hl
  unfold B1_law_begun
  simp -implicitDefEqProofs [a, b]
  exact hQ _
theorem begun_c {S : Store} {h : Nat} {u u1 : Int × Int × Int} {mx : Int × Int} {Q : Val → Store → Prop} (e : S[h]? = some (pOb u)) (hm : mxR mx) (hx : ∀ (S : Store) h, S[h]? = some (pOb u) → F_law_mixer [.obj h] S = some (.pd (pr mx), S.set h (pOb u1)))
    (hQ : ∀ w t kn, Tw t kn → t.mx = mx → kn.length ≤ 90 → Q (.obj (S.length + 2)) (SB S h w t kn ++ [.tpv [.obj S.length, .obj (S.length + 1)]])) : Ok (F_law_begun [.obj h] S) Q := by
  have hh := lt_of_get e
  obtain ⟨v, u2, v0, v1, tk⟩ := take_det u1 (m := 8) (by omega)
  have t1 := hx S h e
  have t2 := tk (S.set h (pOb u1)) h (List.getElem?_set_self hh)
  rw [List.set_set] at t2
  obtain ⟨p, rfl⟩ : ∃ p : Nat, v = p := ⟨v.toNat, by omega⟩
  have nt := fun ρ fa Z ea => newtab_eq (mx := mx) (pace := 1 + p) (ρ := ρ) (fa := fa) (S := Z) (S1 := S.set h (pOb u2)) ea
  have w0 : Tw (newT mx (1 + p)) [] := Tw.new ⟨hm.1.1, hm.1.2⟩ (by omega)
  rw [F_law_begun_e, fnF_e]
  unfold G_law_begun
  simp -implicitDefEqProofs [startD]
  rw [nt _ _ _ (by simp -implicitDefEqProofs [t1, t2])]
  simp -implicitDefEqProofs
  have s0 : ∀ (w : Int × Int × Int) (t : TSt), S.set h (pOb w) ++ [boxT t, Ob.dK []] = SB S h w t [] := fun w t => rfl
  rw [s0]
  refine ok_b (deeds_c (most := 90) (sb_h hh) fun ds u3 hl => ?_)
  rw [sb_sh hh]
  simp -implicitDefEqProofs
  refine ok_b (ok_loopQ (g := Val.pd ∘ dD) (fun r ρ S' => ∃ t kn x3, Tw t kn ∧ t.mx = mx ∧ kn.length + r.length ≤ 90 ∧ S' = SB S h u3 t kn ∧ ρ = [some (.obj h), some (.obj S.length), some (.obj (S.length + 1)), x3]) ?_ ?_ ds _ _ ⟨_, _, _, w0, rfl, by simpa using hl, rfl, rfl⟩)
  · rintro d r ρ S' P ⟨t, kn, x3, tw, hmx, hk, rfl, rfl⟩ hP
    rw [List.length_cons] at hk
    have := kStep_len tw.tw.nd d
    exact begun_turn tw (by omega) fun x3 => hP _ _ ⟨_, _, _, tw.deed d, (deed_ti tw.tw.ti d).2.2.2.trans hmx, by omega, rfl, rfl⟩
  rintro ρ S' ⟨t, kn, x3, tw, hmx, hk, rfl, rfl⟩
  have ln := sb_len (S := S) (h := h) (w := u3) (t := t) (kn := kn)
  simp -implicitDefEqProofs [uTupV, exitA, ln]
  exact hQ u3 t kn tw hmx (by simpa using hk)
/-! more of dicts -/
section
variable {S : Store} {h : Nat} {kn : List (Int × Int)} {k : Int}
theorem sortD_eq (e : S[h]? = some (.dK (kD kn))) : uSortD [.obj h] S = some (.pd (.list ((sortI (keysOf kn)).map PyData.int)), S) := by
  have a : ∀ kn : List (Int × Int), allI (kD kn) = some (keysOf kn) := fun kn => by
    induction kn with
    | nil => rfl
    | cons p r ih =>
      show (allI (kD r)).map (p.1 :: ·) = _
      rw [ih]
      rfl
  simp [uSortD, e, a]
theorem get2_eq {S0 : Store} {z : Int} (e0 : S0[h]? = some (.dK (kD kn))) (e : S[h]? = some (.dK (kD kn))) : uGet2 S0 (.obj h) (.pd (.int k)) (.pd (.int z)) S = some (.pd (.int ((valD kn k).getD z)), S) := by
  unfold uGet2
  rw [dOf_K e0, dOf_K e]
  show some (((valD (kD kn) (Sum.inl k)).map Val.pd).getD (.pd (.int z)), S) = _
  rw [kD_val]
  cases valD kn k <;> rfl
theorem dget_eq {v : Int} (e : S[h]? = some (.dK (kD kn))) (hv : valD kn k = some v) : uDGet (.obj h) (.pd (.int k)) S = some (.pd (.int v), S) := by
  unfold uDGet
  rw [dOf_K e]
  show ((valD (kD kn) (Sum.inl k)).map Val.pd).map _ = _
  rw [kD_val, hv]
  rfl
theorem notin_eq (e : S[h]? = some (.dK (kD kn))) : uDNotIn (.pd (.int k)) (.obj h) S = some (.pd (.bool (!(valD kn k).isSome)), S) := by
  rw [uDNotIn_K e, kD_val, Option.isSome_map]
theorem dput_eq {v : Int} (e : S[h]? = some (.dK (kD kn))) (hl : kn.length < 16000000) : uDPut (.pd (.int v)) (.obj h) (.pd (.int k)) S = some ((), S.set h (.dK (kD (putKD kn k v)))) := by
  rw [uDPut_K e (by rw [kD_len]; omega), kD_put]
end
theorem uNe_i {S : Store} {a b : Int} : uNe (.pd (.int a)) (.pd (.int b)) S = some (.pd (.bool (!decide (a = b))), S) :=
  uNe_D (n := 0) (m := 0) rfl rfl rfl rfl (by omega) (by omega) (by simp)
/-- a loop that goes on, or is left with an answer -/
theorem ok_loopR {α : Type} {gg : Val → DEnv → M DEnv} {gb : DEnv → M Fl} {g : α → Val} {Q : Fl → Store → Prop} (I : List α → DEnv → Store → Prop) (ht : ∀ x r ρ S (P : Fl → Store → Prop), I (x :: r) ρ S → (∀ ρ' S', I r ρ' S' → P (.nx ρ') S') → (∀ d S', Q (.rt d) S' → P (.rt d) S') → Ok (turnG gg gb (g x) ρ S) P) (he : ∀ ρ S, I [] ρ S → Q (.nx ρ) S) : ∀ (xs : List α) (ρ : DEnv) (S : Store), I xs ρ S → Ok (loopG gg gb (xs.map g) ρ S) Q
  | [], ρ, S, h => ⟨.nx ρ, S, rfl, he ρ S h⟩
  | x :: r, ρ, S, h => by
    obtain ⟨f, S1, e1, h1⟩ := ht x r ρ S (fun f S' => (∃ ρ', f = .nx ρ' ∧ I r ρ' S') ∨ ∃ d, f = .rt d ∧ Q (.rt d) S') h (fun ρ' S' q => .inl ⟨ρ', rfl, q⟩) (fun d S' q => .inr ⟨d, rfl, q⟩)
    rw [List.map_cons, loopG_cons, e1]
    rcases h1 with ⟨ρ', rfl, q⟩ | ⟨d, rfl, q⟩
    · exact ok_loopR I ht he r ρ' S1 q
    · exact ⟨.rt d, S1, rfl, q⟩
/-! three cells of a store: a pot, a table, a plain table -/
structure Trio (Z : Store) (h a b : Nat) : Prop where
  ha : h ≠ a
  hb : h ≠ b
  ab : a ≠ b
  h1 : h < Z.length
  a1 : a < Z.length
  b1 : b < Z.length
def ZS (Z : Store) (h a b : Nat) (w : Int × Int × Int) (t : TSt) (kn : List (Int × Int)) : Store := ((Z.set h (pOb w)).set a (boxT t)).set b (.dK (kD kn))
section
variable {Z T : Store} {h a b : Nat} {w w' : Int × Int × Int} {t t' : TSt} {kn kn' : List (Int × Int)}
theorem zs_len : (ZS Z h a b w t kn).length = Z.length := by simp [ZS]
theorem zs_h (o : Trio Z h a b) : (ZS Z h a b w t kn ++ T)[h]? = some (pOb w) := by
  rw [List.getElem?_append_left (by rw [zs_len]; exact o.h1)]
  unfold ZS
  rw [List.getElem?_set_ne (Ne.symm o.hb), List.getElem?_set_ne (Ne.symm o.ha), List.getElem?_set_self o.h1]
theorem zs_a (o : Trio Z h a b) : (ZS Z h a b w t kn ++ T)[a]? = some (boxT t) := by
  rw [List.getElem?_append_left (by rw [zs_len]; exact o.a1)]
  unfold ZS
  rw [List.getElem?_set_ne (Ne.symm o.ab), List.getElem?_set_self (by simpa using o.a1)]
theorem zs_b (o : Trio Z h a b) : (ZS Z h a b w t kn ++ T)[b]? = some (.dK (kD kn)) := by
  rw [List.getElem?_append_left (by rw [zs_len]; exact o.b1)]
  unfold ZS
  rw [List.getElem?_set_self (by simpa using o.b1)]
theorem zs_sh (o : Trio Z h a b) : (ZS Z h a b w t kn ++ T).set h (pOb w') = ZS Z h a b w' t kn ++ T := by
  rw [List.set_append_left _ _ (by rw [zs_len]; exact o.h1)]
  unfold ZS
  rw [List.set_comm _ _ (Ne.symm o.hb), List.set_comm _ _ (Ne.symm o.ha), List.set_set]
theorem zs_sa (o : Trio Z h a b) : (ZS Z h a b w t kn ++ T).set a (boxT t') = ZS Z h a b w t' kn ++ T := by
  rw [List.set_append_left _ _ (by rw [zs_len]; exact o.a1)]
  unfold ZS
  rw [List.set_comm _ _ (Ne.symm o.ab), List.set_set]
theorem zs_sb (o : Trio Z h a b) : (ZS Z h a b w t kn ++ T).set b (.dK (kD kn')) = ZS Z h a b w t kn' ++ T := by
  rw [List.set_append_left _ _ (by rw [zs_len]; exact o.b1)]
  unfold ZS
  rw [List.set_set]
theorem zs_wf (wf : Wf Z) : Wf (ZS Z h a b w t kn) := ((wf.set (h := h) (o := pOb w) rfl).set (h := a) (o := boxT t) rfl).set (h := b) (o := .dK (kD kn)) rfl
theorem zs_refl (o : Trio Z h a b) (e1 : Z[h]? = some (pOb w)) (e2 : Z[a]? = some (boxT t)) (e3 : Z[b]? = some (.dK (kD kn))) : ZS Z h a b w t kn = Z := by
  unfold ZS
  rw [set_same e1, set_same e2, set_same e3]
theorem zs_done (o : Trio Z h a b) {d : Deed} (tw : Tw t kn) (hl : kn.length ≤ 90000) : F_law_done [.obj a, .pd (dD d)] (ZS Z h a b w t kn ++ T) = some (.pd (optD (valD kn d.key)), ZS Z h a b w (t.deed d) kn ++ T) ∧
    F_law_plain_done [.obj b, .pd (dD d)] (ZS Z h a b w (t.deed d) kn ++ T) = some (.pd (optD (valD kn d.key)), ZS Z h a b w (t.deed d) (kStep kn d) ++ T) := by
  have x := law_done_eq (S := ZS Z h a b w t kn ++ T) (h := a) (d := d) (t := t) (zs_a o) (tw.tw.fit (by omega))
  have y := plain_eq (S := ZS Z h a b w (t.deed d) kn ++ T) (h := b) (kn := kn) (d := d) (zs_b o) (by omega)
  rw [zs_sa o, tw.tw.eq] at x
  rw [zs_sb o] at y
  exact ⟨x, y⟩
end
theorem nd_len {α : Type} [DecidableEq α] : ∀ {xs K : List α}, xs.Nodup → (∀ x ∈ xs, x ∈ K) → xs.length ≤ K.length
  | [], _, _, _ => Nat.zero_le _
  | x :: xs, K, hn, hs => by
    have hn' := List.nodup_cons.mp hn
    have hx := hs x (List.mem_cons_self ..)
    have ih := nd_len (K := K.erase x) hn'.2 fun y hy => by
      have ne : y ≠ x := fun z => hn'.1 (by rw [← z]; exact hy)
      exact (List.mem_erase_of_ne ne).mpr (hs y (List.mem_cons_of_mem _ hy))
    rw [List.length_erase_of_mem hx] at ih
    have := List.length_pos_of_mem hx
    rw [List.length_cons]
    omega
theorem ls_of_sizes {t t' : TSt} (h : sizesD t = sizesD t') : t.ls.length = t'.ls.length := by
  unfold sizesD at h
  unfold TSt.ls
  cases he : t.elder <;> cases he' : t'.elder <;> rw [he, he'] at h <;> simp at h
  · simp only
    omega
  · obtain ⟨a, b⟩ := h
    simp only
    split <;> split <;> omega
theorem pl_sz (t : TSt) : plD 1 (sizesD t) = true := by
  unfold sizesD
  cases t.elder <;> simp [plD, plA]
end
end GB
set_option Elab.async false
set_option linter.all false
set_option maxRecDepth 100000
set_option maxHeartbeats 4000000
namespace K08
open PySem L2 PyProof.Rows DM PG TM PS GS
noncomputable section
def top (i : Nat) : Stmt := PySem.Challenge.pw_slowshift_k08_whole_one_answer_on_all_sh.main.body.getD i (.Pass ⟨0, 0, 0, 0⟩)
def G_law_done : DEnv → M Fl := (gSeq (gAsg (eCall F_law_take 2 (aCons (eVar 0) (aCons (eC (.int 5)) aNil))) (nName 4))
    (gSeq (gAsg (eGet1 (eVar 2) (eVar 3)) (nName 5))
    (gSeq (gIf (tVal (eO (uLt fun i j => decide (i < j)) (eVar 4) (eC (.int 3)))) (gSeq (gAsg (eCall F_law_worth 1 (aCons (eVar 0) aNil)) (nName 6))
    (gSeq (gDPut (eVar 6) (eVar 2) (eVar 3))
    (gRet (eO uEq (eLc (iSeq (eVar 1)) (nName 8) tYesD (eMethB nz0 0 "put" F_shelf_put 3 (eVar 8) (aCons (eVar 3) (aCons (eVar 6) aNil))) [8]) (eO uMul (eA uLst (aCons (eVar 5) aNil)) (eC (.int 3))))))) gNext)
    (gSeq (gIf (tVal (eO uEq (eVar 4) (eC (.int 3)))) (gSeq (gAsg (eLc (iSeq (eVar 1)) (nName 8) tYesD (eMethB nz0 0 "cut" F_shelf_cut 2 (eVar 8) (aCons (eVar 3) aNil)) [8]) (nName 7))
    (gSeq (gIf (tVal (eO uDIn (eVar 3) (eVar 2))) (gExpr (ePop1 (eVar 2) (eVar 3))) gNext)
    (gRet (eO uEq (eVar 7) (eO uMul (eA uLst (aCons (eVar 5) aNil)) (eC (.int 3))))))) gNext)
    (gRet (eO uEq (eLc (iSeq (eVar 1)) (nName 8) tYesD (eMethB nz0 0 "look" F_shelf_look 2 (eVar 8) (aCons (eVar 3) aNil)) [8]) (eO uMul (eA uLst (aCons (eVar 5) aNil)) (eC (.int 3)))))))))
theorem F_law_done_x : ∃ F, F = fnF 9 G_law_done exitA := ⟨_, rfl⟩
def F_law_done : List Val → M Val := Classical.choose F_law_done_x
theorem F_law_done_e : F_law_done = fnF 9 G_law_done exitA := Classical.choose_spec F_law_done_x
abbrev B1_law_pairs : DEnv → M Fl := (gExpr (eBM "list" uExtend (eVar 1) (aCons (eMethB nz0 0 "row" F_shelf_row 2 (eVar 0) (aCons (eVar 2) aNil)) aNil)))
def G_law_pairs : DEnv → M Fl := (gSeq (gAsg (eA uLstM aNil) (nName 1))
    (gSeq (gFor (iRng1 (eMethB nz0 0 "size" F_shelf_size 1 (eVar 0) aNil)) (nName 2) B1_law_pairs)
    (gRet (eA uSorted (aCons (eVar 1) aNil)))))
theorem F_law_pairs_x : ∃ F, F = fnF 3 G_law_pairs exitF := ⟨_, rfl⟩
def F_law_pairs : List Val → M Val := Classical.choose F_law_pairs_x
theorem F_law_pairs_e : F_law_pairs = fnF 3 G_law_pairs exitF := Classical.choose_spec F_law_pairs_x
abbrev B1_law : DEnv → M Fl := (gSeq (gExpr (eBM "list" uAppend (eVar 5) (aCons (eCall F_law_near_key 2 (aCons (eVar 7) (aCons (eVar 5) aNil))) aNil)))
    (gSeq (gIf (tNot (tVal (eCall F_law_done 4 (aCons (eVar 7) (aCons (eVar 3) (aCons (eVar 4) (aCons (eO uIx (eVar 5) (eU uNeg (eC (.int 1)))) aNil))))))) (gRet (eC (.bool false))) gNext)
    (gIf (tVal (eO uNe (eLc (iSeq (eVar 3)) (nName 9) tYesD (eMethB nz0 0 "many" F_shelf_many 1 (eVar 9) aNil) [9]) (eO uMul (eA uLst (aCons (eA uLen (aCons (eVar 4) aNil)) aNil)) (eC (.int 3))))) (gRet (eC (.bool false))) gNext)))
abbrev B2_law : DEnv → M Fl := (gSeq (gAsg (eCall F_law_stream 1 (aCons (eVar 6) aNil)) (nName 7))
    (gFor (iRng1 (eO uAdd (eC (.int 1)) (eCall F_law_take 2 (aCons (eVar 7) (aCons (eC (.int 4)) aNil))))) (nName 8) B1_law))
def G_law : DEnv → M Fl := (gSeq (gAsg (eCall F_law_stream 1 (aCons (eO uIx (eO uAdd (eVar 0) (eA uLst (aCons (eC (.int 0)) aNil))) (eC (.int 0))) aNil)) (nName 1))
    (gSeq (gAsg (eA uLst (aCons (eC (.int 4)) (aCons (eC (.int 8)) (aCons (eC (.int 16)) (aCons (eC (.int 64)) (aCons (eC (.int 256)) (aCons (eC (.int 4096)) aNil))))))) (nName 2))
    (gSeq (gAsg (eLcV (iRng1 (eC (.int 2))) (nName 8) tYesD (eMakeB nz0 0 F_shelf_init 3 (aCons (eO uIx (eVar 2) (eCall F_law_take 2 (aCons (eVar 1) (aCons (eC (.int 6)) aNil)))) (aCons (eCall F_law_mixer 1 (aCons (eVar 1) aNil)) aNil))) [8]) (nName 3))
    (gSeq (gExpr (eBM "list" uAppend (eVar 3) (aCons (eMakeB nz0 0 F_shelf_init 3 (aCons (eO uIx (eVar 2) (eCall F_law_take 2 (aCons (eVar 1) (aCons (eC (.int 6)) aNil)))) (aCons (eA uTup (aCons (eC (.int 0)) (aCons (eCall F_law_take 2 (aCons (eVar 1) (aCons (eC (.int 65536)) aNil))) aNil))) aNil))) aNil)))
    (gSeq (gAsg eDict0 (nName 4))
    (gSeq (gAsg (eA uLstM aNil) (nName 5))
    (gSeq (gFor (iSeq (eO uAdd (eA uLst (aCons (eC (.int 0)) aNil)) (eSl uSl (eVar 0) (fPart (eC (.int 1))) (fPart (eC (.int 63)))))) (nName 6) B2_law)
    (gRet (eO uEq (eLc (iSeq (eVar 3)) (nName 9) (tVal (eO uNe (eCall F_law_pairs 1 (aCons (eVar 9) aNil)) (eU uSortIt (eVar 4)))) (eVar 9) [9]) (eA uLst aNil))))))))))
theorem F_law_x : ∃ F, F = fnF 10 G_law exitF := ⟨_, rfl⟩
def F_law : List Val → M Val := Classical.choose F_law_x
theorem F_law_e : F_law = fnF 10 G_law exitF := Classical.choose_spec F_law_x
/-- a shelf agrees with a plain dict -/
structure Agr (mx : Int × Int) (r : Rows × Int) (kn : List (Int × Int)) : Prop where
  mr : mxR mx
  sh : ShI mx r
  eq : ∀ k, shLook mx r.1 k = valD kn k
  ct : r.2 = (kn.length : Nat)
theorem Agr.ok {mx : Int × Int} {r : Rows × Int} {kn : List (Int × Int)} (h : Agr mx r kn) (hl : kn.length ≤ 100000) : ShOk mx r := ⟨⟨h.mr.1.1, h.mr.1.2⟩, h.sh, by
  have a := h.sh.ct
  rw [tot_flat, h.ct] at a
  omega⟩
theorem Agr.put {mx : Int × Int} {r : Rows × Int} {kn : List (Int × Int)} (h : Agr mx r kn) (k v : Int) : Agr mx (shPut mx r.1 k v, r.2 + newC mx r.1 k) (putKD kn k v) := by
  refine ⟨h.mr, h.sh.put k v, fun k' => ?_, ?_⟩
  · have := kStep_val kn (.put k v) k'
    simp only [kStep, Deed.val] at this
    show shLook mx (shPut mx r.1 k v) k' = _
    rw [this, look_put h.sh.pos, h.eq]
  · show r.2 + newC mx r.1 k = _
    unfold newC
    rw [putKD_len_eq, h.ct, h.eq]
    split <;> simp
theorem Agr.cut {mx : Int × Int} {r : Rows × Int} {kn : List (Int × Int)} (h : Agr mx r kn) (nd : (keysOf kn).Nodup) (k : Int) : Agr mx (cutR mx r k) (kStep kn (.cut k)) := by
  refine ⟨h.mr, h.sh.cut k, fun k' => ?_, ?_⟩
  · rw [kStep_val, look_cutR h.sh, h.eq]
    rfl
  · show (cutR mx r k).2 = ((if (valD kn k).isSome then dropKD kn k else kn).length : Nat)
    unfold cutR
    rw [h.eq]
    split
    · rename_i hs
      have := drop_len nd hs
      show r.2 - 1 = _
      rw [h.ct]
      omega
    · exact h.ct
theorem Agr.perm {mx : Int × Int} {r : Rows × Int} {kn : List (Int × Int)} (h : Agr mx r kn) (nd : (keysOf kn).Nodup) : r.1.flatten.Perm kn := by
  have n1 : kn.Nodup := by
    unfold keysOf at nd
    exact List.Pairwise.of_map _ (fun a b hab z => hab (by rw [z])) nd
  have n2 : r.1.flatten.Nodup := by
    have := h.sh.flat_nd
    unfold keysOf at this
    exact List.Pairwise.of_map _ (fun a b hab z => hab (by rw [z])) this
  refine (List.perm_ext_iff_of_nodup n2 n1).mpr fun p => ?_
  obtain ⟨k, v⟩ := p
  rw [h.sh.mem, h.eq, valD_mem nd]
def KX (ns : List Int) (w0 : Int × Int × Int) (sh : Ob) (mA mB mC : Int × Int) (A B C : Rows × Int) (kn : List (Int × Int)) (ks : List Int) (T : Store) : Store := .scr (ns.map PyData.int) :: rOb w0 :: sh :: boxS mA A :: boxS mB B :: boxS mC C :: .dK (kD kn) :: .lst (ks.map PyData.int) :: T
abbrev LS : Ob := .lsv [.obj 3, .obj 4, .obj 5]
section
variable {ns : List Int} {w0 : Int × Int × Int} {sh sh' : Ob} {mA mB mC : Int × Int} {A B C A' B' C' : Rows × Int} {kn kn' : List (Int × Int)} {ks : List Int} {T : Store}
theorem kx2 : (KX ns w0 sh mA mB mC A B C kn ks T).set 2 sh' = KX ns w0 sh' mA mB mC A B C kn ks T := rfl
theorem kx3 : (KX ns w0 sh mA mB mC A B C kn ks T).set 3 (boxS mA A') = KX ns w0 sh mA mB mC A' B C kn ks T := rfl
theorem kx4 : (KX ns w0 sh mA mB mC A B C kn ks T).set 4 (boxS mB B') = KX ns w0 sh mA mB mC A B' C kn ks T := rfl
theorem kx5 : (KX ns w0 sh mA mB mC A B C kn ks T).set 5 (boxS mC C') = KX ns w0 sh mA mB mC A B C' kn ks T := rfl
theorem kx6 : (KX ns w0 sh mA mB mC A B C kn ks T).set 6 (.dK (kD kn')) = KX ns w0 sh mA mB mC A B C kn' ks T := rfl
theorem kd6 : (KX ns w0 sh mA mB mC A B C kn ks T)[6]? = some (.dK (kD kn)) := rfl
theorem kxl {k : Int} : uIx (.obj 7) (.pd (.int (-1))) (KX ns w0 sh mA mB mC A B C kn (ks ++ [k]) T) = some (.pd (.int k), KX ns w0 sh mA mB mC A B C kn (ks ++ [k]) T) := uIx_last (xs := ks.map PyData.int) (by simp [KX])
theorem kxg {u : Int × Int × Int} : (KX ns w0 sh mA mB mC A B C kn ks (T ++ [rOb u]))[T.length + 8]? = some (rOb u) := by simp [KX]
theorem kxs {u u' : Int × Int × Int} : (KX ns w0 sh mA mB mC A B C kn ks (T ++ [rOb u])).set (T.length + 8) (rOb u') = KX ns w0 sh mA mB mC A B C kn ks (T ++ [rOb u']) := by simp [KX]
theorem kxq : seqI (.obj 2) (KX ns w0 LS mA mB mC A B C kn ks T) = some (⟨[.obj 3, .obj 4, .obj 5], some (2, LS)⟩, KX ns w0 (.lock LS) mA mB mC A B C kn ks T) := rfl
theorem kxi : isTy "list" (.obj 7) (KX ns w0 sh mA mB mC A B C kn ks T) = true := rfl
theorem kxa {k : Int} (hl : ks.length < 1000000) : uAppend (.obj 7) [.pd (.int k)] (KX ns w0 sh mA mB mC A B C kn ks T) = some (.pd .none, KX ns w0 sh mA mB mC A B C kn (ks ++ [k]) T) := by
  rw [uAppend_lst (xs := ks.map PyData.int) rfl (by simp; omega)]
  simp [KX]
theorem wf_kx (hT : ∀ o ∈ T, ∃ u, o = rOb u) : Wf (KX ns w0 LS mA mB mC A B C kn ks T) := by
  intro o ho
  simp only [KX, List.mem_cons] at ho
  rcases ho with rfl | rfl | rfl | rfl | rfl | rfl | rfl | rfl | ho
  · rfl
  · rfl
  · simp [Ob.blw, Val.blw, KX]
  · rfl
  · rfl
  · rfl
  · rfl
  · rfl
  · obtain ⟨u, rfl⟩ := hT o ho
    rfl
end
structure Inv (mA mB mC : Int × Int) (n : Nat) (A B C : Rows × Int) (kn : List (Int × Int)) (ks : List Int) : Prop where
  a : Agr mA A kn
  b : Agr mB B kn
  c : Agr mC C kn
  nd : (keysOf kn).Nodup
  ln : kn.length ≤ n
  kr : ∀ k ∈ ks, 0 ≤ k ∧ k ≤ 1000000000
  kl : ks.length ≤ n
theorem three {S : Store} {x : PyData} (hx : plD 0 x = true) : uEq (.pd (.list [x, x, x])) (.pd (.list [x, x, x])) S = some (.pd (.bool true), S) := uEq_self (n := 1) (by simp [plD, plA, hx]) (by omega)
theorem pl_optD (o : Option Int) : plD 0 (optD o) = true := by cases o <;> rfl
theorem mul3 {S : Store} {x : PyData} : uMul (.pd (.list [x])) (.pd (.int 3)) S = some (.pd (.list [x, x, x]), S) := rfl
theorem done_c {ns : List Int} {w0 u : Int × Int × Int} {mA mB mC : Int × Int} {A B C : Rows × Int} {kn : List (Int × Int)} {ks : List Int} {T : Store} {n : Nat} {k : Int} {Q : Val → Store → Prop} (h : Inv mA mB mC n A B C kn ks) (hn : n ≤ 10000) (hu : rOk u)
    (hQ : ∀ A' B' C' kn' u', Inv mA mB mC (n + 1) A' B' C' kn' ks → rOk u' → Q (.pd (.bool true)) (KX ns w0 LS mA mB mC A' B' C' kn' ks (T ++ [rOb u']))) : Ok (F_law_done [.obj (T.length + 8), .obj 2, .obj 6, .pd (.int k)] (KX ns w0 LS mA mB mC A B C kn ks (T ++ [rOb u]))) Q := by
  have ln := h.ln
  have kl := h.kl
  rw [F_law_done_e, fnF_e]
  unfold G_law_done
  simp -implicitDefEqProofs [startD]
  refine take_ok kxg hu (by omega) fun v u1 v0 v1 hu1 => ?_
  rw [kxs]
  have e6 : (KX ns w0 LS mA mB mC A B C kn ks (T ++ [rOb u1]))[6]? = some (.dK (kD kn)) := kd6
  have g := uGet1_K (k := k) e6 e6
  rw [kD_val, optD_map] at g
  by_cases c1 : v < 3
  · simp -implicitDefEqProofs [g, c1]
    refine ok_b (worth_c kxg hu1 fun x u2 _ hu2 => ?_)
    rw [kxs]
    have dp := GB.dput_eq (S := KX ns w0 LS mA mB mC A B C kn ks (T ++ [rOb u2])) (h := 6) (kn := kn) (k := k) (v := x) kd6 (by omega)
    rw [kx6] at dp
    simp -implicitDefEqProofs [dp, kxq, loopC_cons, nName]
    refine sput_ok (h := 3) (r := A) (k := k) (v := x) rfl rfl (h.a.ok (by omega)) rfl ?_
    rw [kx3]
    simp -implicitDefEqProofs [addC_pd]
    refine sput_ok (h := 4) (r := B) (k := k) (v := x) rfl rfl (h.b.ok (by omega)) rfl ?_
    rw [kx4]
    simp -implicitDefEqProofs [addC_pd]
    refine sput_ok (h := 5) (r := C) (k := k) (v := x) rfl rfl (h.c.ok (by omega)) rfl ?_
    rw [kx5, h.a.eq, h.b.eq, h.c.eq]
    simp -implicitDefEqProofs [addC_pd, Iter.un, kx2, uLst, mul3, three (pl_optD _), exitA]
    refine hQ _ _ _ _ _ ⟨h.a.put k x, h.b.put k x, h.c.put k x, kStep_nd h.nd (.put k x), ?_, h.kr, by omega⟩ hu2
    have := putKD_len kn k x
    omega
  · by_cases c3 : v = 3
    · subst c3
      simp -implicitDefEqProofs [g, kxq, loopC_cons, nName]
      refine scut_ok (h := 3) (r := A) (k := k) rfl rfl (h.a.ok (by omega)) rfl ?_
      rw [kx3]
      simp -implicitDefEqProofs [addC_pd]
      refine scut_ok (h := 4) (r := B) (k := k) rfl rfl (h.b.ok (by omega)) rfl ?_
      rw [kx4]
      simp -implicitDefEqProofs [addC_pd]
      refine scut_ok (h := 5) (r := C) (k := k) rfl rfl (h.c.ok (by omega)) rfl ?_
      rw [kx5, h.a.eq, h.b.eq, h.c.eq]
      simp -implicitDefEqProofs [addC_pd, Iter.un, kx2]
      have e7 : (KX ns w0 LS mA mB mC (cutR mA A k) (cutR mB B k) (cutR mC C k) kn ks (T ++ [rOb u1]))[6]? = some (.dK (kD kn)) := kd6
      have di := uDIn_K (k := k) e7
      rw [kD_val, Option.isSome_map] at di
      have hI : Inv mA mB mC (n + 1) (cutR mA A k) (cutR mB B k) (cutR mC C k) (kStep kn (.cut k)) ks := ⟨h.a.cut h.nd k, h.b.cut h.nd k, h.c.cut h.nd k, kStep_nd h.nd (.cut k), by
        have := kStep_len h.nd (.cut k)
        omega, h.kr, by omega⟩
      cases hv : valD kn k with
      | none =>
        rw [hv] at di
        have e8 : kStep kn (.cut k) = kn := by simp [kStep, hv]
        rw [e8] at hI
        simp -implicitDefEqProofs [di, uLst, mul3, three (pl_optD _), exitA]
        exact hQ _ _ _ _ _ hI hu1
      | some y =>
        rw [hv] at di
        have pp := uPop1_K (k := k) (y := .int y) e7 e7 (by rw [kD_val, hv]; rfl)
        have e8 : kStep kn (.cut k) = dropKD kn k := by simp [kStep, hv]
        rw [kD_drop, kx6] at pp
        rw [e8] at hI
        simp -implicitDefEqProofs [di, pp, uLst, mul3, three (pl_optD _), exitA]
        exact hQ _ _ _ _ _ hI hu1
    · simp -implicitDefEqProofs [g, c1, c3, kxq, loopC_cons, nName]
      refine slook_ok (h := 3) (r := A) (k := k) rfl rfl (h.a.ok (by omega)) rfl ?_
      simp -implicitDefEqProofs [addC_pd]
      refine slook_ok (h := 4) (r := B) (k := k) rfl rfl (h.b.ok (by omega)) rfl ?_
      simp -implicitDefEqProofs [addC_pd]
      refine slook_ok (h := 5) (r := C) (k := k) rfl rfl (h.c.ok (by omega)) rfl ?_
      rw [h.a.eq, h.b.eq, h.c.eq]
      simp -implicitDefEqProofs [addC_pd, Iter.un, kx2, uLst, mul3, three (pl_optD _), exitA]
      exact hQ _ _ _ _ _ ⟨h.a, h.b, h.c, h.nd, by omega, h.kr, by omega⟩ hu1
theorem flat_take {rows : Rows} {p : Nat} (h : p < rows.length) : (rows.take (p + 1)).flatten = (rows.take p).flatten ++ rowAt rows p := by
  have : rows.take (p + 1) = rows.take p ++ [rowAt rows p] := by
    rw [List.take_succ, rowAt_get h]
    rfl
  rw [this]
  simp
theorem pairs_c {S : Store} {a : Nat} {mx : Int × Int} {r : Rows × Int} {Q : Val → Store → Prop} (wf : Wf S) (ea : S[a]? = some (boxS mx r)) (l1 : r.1.length ≤ 4096) (l2 : r.1.flatten.length ≤ 100000) (hQ : Q (.pd (.list ((sortP r.1.flatten).map prX))) S) : Ok (F_law_pairs [.obj a] S) Q := by
  have la := lt_of_get ea
  have gx : ∀ xs, (S ++ [Ob.lst xs])[S.length]? = some (.lst xs) := fun xs => by simp
  have ga : ∀ xs, (S ++ [Ob.lst xs])[a]? = some (boxS mx r) := fun xs => by rw [List.getElem?_append_left la]; exact ea
  rw [F_law_pairs_e, fnF_e]
  unfold G_law_pairs
  simp -implicitDefEqProofs [startD, uLstM]
  refine ssize_ok (h := a) (r := r) rfl (ga []) ?_
  rw [rng_nat (by omega)]
  try simp -implicitDefEqProofs
  refine ok_b (ok_loopQ (g := fun i : Nat => Val.pd (.int (i : Int))) (fun l ρ S' => ∃ p x2, p + l.length = r.1.length ∧ l = List.range' p l.length ∧ S' = S ++ [.lst (pairs (r.1.take p).flatten)] ∧ ρ = [some (.obj a), some (.obj S.length), x2]) ?_ ?_ (List.range r.1.length) _ _ ⟨0, _, by simp, by rw [List.length_range, List.range_eq_range'], rfl, rfl⟩)
  · rintro q l ρ S' P ⟨p, x2, hl, er, rfl, rfl⟩ hP
    rw [List.length_cons, List.range'_succ] at er
    obtain ⟨rfl, er⟩ := List.cons.inj er
    rw [List.length_cons] at hl
    have it := isTy_lst (gx (pairs (r.1.take q).flatten))
    have fe := flat_take (rows := r.1) (p := q) (by omega)
    have le : ((r.1.take (q + 1)).flatten).length ≤ r.1.flatten.length := by
      have : r.1.flatten = (r.1.take (q + 1)).flatten ++ (r.1.drop (q + 1)).flatten := by
        rw [← List.flatten_append, List.take_append_drop]
      rw [this, List.length_append]
      omega
    rw [fe, List.length_append] at le
    unfold B1_law_pairs
    simp -implicitDefEqProofs [it]
    refine srow_ok (h := a) (r := r) (p := q) rfl (ga _) (by omega) rfl ?_
    have ex : uExtend (.obj S.length) [.pd (.list (pairs (rowAt r.1 q)))] (S ++ [Ob.lst (pairs (r.1.take q).flatten)]) = some (.pd .none, S ++ [Ob.lst (pairs (r.1.take (q + 1)).flatten)]) := by
      rw [uExtend_pd (gx _) (by unfold pairs; rw [List.length_map, List.length_map]; omega), fe]
      simp [pairs]
    simp -implicitDefEqProofs [ex]
    exact hP _ _ ⟨q + 1, _, by omega, er, rfl, rfl⟩
  rintro ρ S' ⟨p, x2, hl, er, rfl, rfl⟩
  have hp : p = r.1.length := by simpa using hl
  subst hp
  rw [List.take_of_length_le (Nat.le_refl _)]
  have so := uSorted_P' (S := S ++ [Ob.lst (pairs r.1.flatten)]) (a := .obj S.length) (ps := r.1.flatten) (by simp [getL, pairs]; rfl)
  simp -implicitDefEqProofs [so]
  rw [exitF_wf wf ⟨_, rfl⟩ rfl, ok_some]
  exact hQ
theorem size_ex {S : Store} {h : Nat} {u : Int × Int × Int} (e : S[h]? = some (rOb u)) (hu : rOk u) : ∃ (z : Nat) (u' : Int × Int × Int), (z : Int) ∈ SZ ∧ z ≤ 4096 ∧ rOk u' ∧ (bindR (F_law_take [.obj h, .pd (.int 6)] S) fun a S => uIx (.pd (.list [.int 4, .int 8, .int 16, .int 64, .int 256, .int 4096])) a S) = some (.pd (.int (z : Nat)), S.set h (rOb u')) := by
  obtain ⟨v, u', v0, v1, hu', et⟩ := take_ex e hu (m := 6) (by omega)
  rw [et, bindR_some]
  have lit : v = 0 ∨ v = 1 ∨ v = 2 ∨ v = 3 ∨ v = 4 ∨ v = 5 := by omega
  rcases lit with rfl | rfl | rfl | rfl | rfl | rfl
  · exact ⟨4, u', by decide, by omega, hu', rfl⟩
  · exact ⟨8, u', by decide, by omega, hu', rfl⟩
  · exact ⟨16, u', by decide, by omega, hu', rfl⟩
  · exact ⟨64, u', by decide, by omega, hu', rfl⟩
  · exact ⟨256, u', by decide, by omega, hu', rfl⟩
  · exact ⟨4096, u', by decide, by omega, hu', rfl⟩
theorem mixer_ex {S : Store} {h : Nat} {u : Int × Int × Int} (wf : Wf S) (e : S[h]? = some (rOb u)) (hu : rOk u) : ∃ (mx : Int × Int) (u' : Int × Int × Int), mxR mx ∧ rOk u' ∧ F_law_mixer [.obj h] S = some (.pd (pr mx), S.set h (rOb u')) := by
  obtain ⟨d, S', e1, mx, u', h1, h2, rfl, rfl⟩ := mixer_c (Q := fun d S' => ∃ mx u', mxR mx ∧ rOk u' ∧ d = .pd (pr mx) ∧ S' = S.set h (rOb u')) wf e hu fun mx u' h1 h2 => ⟨mx, u', h1, h2, rfl, rfl⟩
  exact ⟨mx, u', h1, h2, e1⟩
abbrev szL : Val := .pd (.list [.int 4, .int 8, .int 16, .int 64, .int 256, .int 4096])
theorem args_ex {S : Store} {u : Int × Int × Int} (wf : Wf S) (e : S[1]? = some (rOb u)) (hu : rOk u) : ∃ (z : Nat) (mx : Int × Int) (u' : Int × Int × Int), (z : Int) ∈ SZ ∧ z ≤ 4096 ∧ mxR mx ∧ rOk u' ∧ ∀ ρ : DEnv, ρ[1]? = some (some (.obj 1)) → ρ[2]? = some (some szL) →
    (aCons (eO uIx (eVar 2) (eCall F_law_take 2 (aCons (eVar 1) (aCons (eC (.int 6)) aNil)))) (aCons (eCall F_law_mixer 1 (aCons (eVar 1) aNil)) aNil)) ρ S = some ([.pd (.int (z : Nat)), .pd (pr mx)], S.set 1 (rOb u')) := by
  obtain ⟨z, u1, z1, z2, hu1, ez⟩ := size_ex e hu
  have e1 : (S.set 1 (rOb u1))[1]? = some (rOb u1) := List.getElem?_set_self (lt_of_get e)
  obtain ⟨mx, u2, hm, hu2, em⟩ := mixer_ex (wf.set rfl) e1 hu1
  refine ⟨z, mx, u2, z1, z2, hm, hu2, fun ρ h1 h2 => ?_⟩
  have v1 : ∀ S, eVar 1 ρ S = some (.obj 1, S) := fun S => eVar_at h1
  have v2 : ∀ S, eVar 2 ρ S = some (szL, S) := fun S => eVar_at h2
  obtain ⟨X, S1, ex, ez⟩ := bindR_inv ez
  simp -implicitDefEqProofs [v1, v2, ex, ez, em]
theorem args3_ex {S : Store} {u : Int × Int × Int} (wf : Wf S) (e : S[1]? = some (rOb u)) (hu : rOk u) : ∃ (z : Nat) (mx : Int × Int) (u' : Int × Int × Int), (z : Int) ∈ SZ ∧ z ≤ 4096 ∧ mxR mx ∧ rOk u' ∧ ∀ ρ : DEnv, ρ[1]? = some (some (.obj 1)) → ρ[2]? = some (some szL) →
    (aCons (eO uIx (eVar 2) (eCall F_law_take 2 (aCons (eVar 1) (aCons (eC (.int 6)) aNil)))) (aCons (eA uTup (aCons (eC (.int 0)) (aCons (eCall F_law_take 2 (aCons (eVar 1) (aCons (eC (.int 65536)) aNil))) aNil))) aNil)) ρ S = some ([.pd (.int (z : Nat)), .pd (pr mx)], S.set 1 (rOb u')) := by
  obtain ⟨z, u1, z1, z2, hu1, ez⟩ := size_ex e hu
  have e1 : (S.set 1 (rOb u1))[1]? = some (rOb u1) := List.getElem?_set_self (lt_of_get e)
  obtain ⟨v, u2, v0, v1, hu2, em⟩ := take_ex e1 hu1 (m := 65536) (by omega)
  refine ⟨z, (0, v), u2, z1, z2, ⟨⟨by simp, by simp⟩, v0, by simp only; omega⟩, hu2, fun ρ h1 h2 => ?_⟩
  have v1 : ∀ S, eVar 1 ρ S = some (.obj 1, S) := fun S => eVar_at h1
  have v2 : ∀ S, eVar 2 ρ S = some (szL, S) := fun S => eVar_at h2
  obtain ⟨X, S1, ex, ez⟩ := bindR_inv ez
  simp -implicitDefEqProofs [v1, v2, ex, ez, em, uTup]
  rfl
theorem Agr.new {mx : Int × Int} {z : Nat} (hm : mxR mx) (hz : (z : Int) ∈ SZ) : Agr mx (List.replicate z [], 0) [] := ⟨hm, ShI.new hz, fun k => rep_look, rfl⟩
theorem deed_turn {ns : List Int} {w0 u : Int × Int × Int} {mA mB mC : Int × Int} {A B C : Rows × Int} {kn : List (Int × Int)} {ks : List Int} {T : Store} {n : Nat} {d : Val} {x1 x2 x6 x8 : Option Val} {Q : Fl → Store → Prop} (h : Inv mA mB mC n A B C kn ks) (hn : n ≤ 9000) (hu : rOk u)
    (hQ : ∀ A' B' C' kn' ks' u' y8, Inv mA mB mC (n + 2) A' B' C' kn' ks' → rOk u' → Q (.nx [some (.obj 0), x1, x2, some (.obj 2), some (.obj 6), some (.obj 7), x6, some (.obj (T.length + 8)), y8, none]) (KX ns w0 LS mA mB mC A' B' C' kn' ks' (T ++ [rOb u']))) :
    Ok (turnG (nName 8) B1_law d [some (.obj 0), x1, x2, some (.obj 2), some (.obj 6), some (.obj 7), x6, some (.obj (T.length + 8)), x8, none] (KX ns w0 LS mA mB mC A B C kn ks (T ++ [rOb u]))) Q := by
  have kl := h.kl
  unfold B1_law
  simp -implicitDefEqProofs [kxi]
  refine ok_b (near_c (hk := 7) kxg hu (by omega) rfl h.kr (by omega) fun k u1 hk hu1 => ?_)
  rw [kxs]
  simp -implicitDefEqProofs [kxa (show ks.length < 1000000 by omega), kxl]
  have h2 : Inv mA mB mC (n + 1) A B C kn (ks ++ [k]) := ⟨h.a, h.b, h.c, h.nd, by have := h.ln; omega, fun q hq => by
    rcases List.mem_append.mp hq with c | c
    · exact h.kr q c
    · simp at c
      rw [c]
      exact hk, by simp; omega⟩
  refine ok_b (done_c h2 (by omega) hu1 fun A' B' C' kn' u' h3 hu' => ?_)
  have lk := uLen_K (kd6 (ns := ns) (w0 := w0) (sh := LS) (mA := mA) (mB := mB) (mC := mC) (A := A') (B := B') (C := C') (kn := kn') (ks := ks ++ [k]) (T := T ++ [rOb u']))
  rw [GQ.kD_len] at lk
  simp -implicitDefEqProofs [kxq, loopC_cons, nName]
  refine smany_ok (h := 3) (r := A') rfl rfl ?_
  simp -implicitDefEqProofs [addC_pd]
  refine smany_ok (h := 4) (r := B') rfl rfl ?_
  simp -implicitDefEqProofs [addC_pd]
  refine smany_ok (h := 5) (r := C') rfl rfl ?_
  rw [h3.a.ct, h3.b.ct, h3.c.ct]
  have un : ∀ S : Store, uNe (.pd (.list [.int (kn'.length : Nat), .int (kn'.length : Nat), .int (kn'.length : Nat)])) (.pd (.list [.int (kn'.length : Nat), .int (kn'.length : Nat), .int (kn'.length : Nat)])) S = some (.pd (.bool false), S) := fun S => uNe_self (n := 1) (by simp [plD, plA]) (by omega)
  simp -implicitDefEqProofs [addC_pd, Iter.un, kx2, uLst, lk, mul3, un]
  exact hQ _ _ _ _ _ _ _ h3 hu'
theorem cell_turn {ns : List Int} {w0 : Int × Int × Int} {mA mB mC : Int × Int} {A B C : Rows × Int} {kn : List (Int × Int)} {ks : List Int} {T : Store} {n : Nat} {c : Int} {x1 x2 x6 x7 x8 : Option Val} {Q : Fl → Store → Prop} (h : Inv mA mB mC n A B C kn ks) (hn : n ≤ 8000) (hT : ∀ o ∈ T, ∃ u, o = rOb u)
    (hQ : ∀ A' B' C' kn' ks' u' y6 y7 y8, Inv mA mB mC (n + 8) A' B' C' kn' ks' → Q (.nx [some (.obj 0), x1, x2, some (.obj 2), some (.obj 6), some (.obj 7), y6, y7, y8, none]) (KX ns w0 LS mA mB mC A' B' C' kn' ks' (T ++ [rOb u']))) :
    Ok (turnG (nName 6) B2_law (.pd (.int c)) [some (.obj 0), x1, x2, some (.obj 2), some (.obj 6), some (.obj 7), x6, x7, x8, none] (KX ns w0 LS mA mB mC A B C kn ks T)) Q := by
  unfold B2_law
  try simp -implicitDefEqProofs
  refine stream_ok (wf_kx hT) fun u hu => ?_
  have e1 : (KX ns w0 LS mA mB mC A B C kn ks T).length = T.length + 8 := by simp [KX]
  have e2 : KX ns w0 LS mA mB mC A B C kn ks T ++ [rOb u] = KX ns w0 LS mA mB mC A B C kn ks (T ++ [rOb u]) := rfl
  rw [e1, e2]
  try simp -implicitDefEqProofs
  refine take_ok kxg hu (by omega) fun v u1 v0 v1 hu1 => ?_
  rw [kxs]
  obtain ⟨j, rfl⟩ : ∃ j : Nat, v = j := ⟨v.toNat, by omega⟩
  have er : ∀ S : Store, rng1 (.pd (.int (1 + (j : Int)))) S = some (⟨(List.range (1 + j)).map fun i : Nat => Val.pd (.int (i : Int)), none⟩, S) := fun S => by
    have := rng_nat (n := 1 + j) (S := S) (by omega)
    rw [show ((1 + j : Nat) : Int) = 1 + (j : Int) by omega] at this
    exact this
  simp -implicitDefEqProofs [er]
  rw [bindR_ret]
  refine ok_loopQ (g := fun i : Nat => Val.pd (.int (i : Int))) (fun r ρ S => ∃ A' B' C' kn' ks' u' m y8, Inv mA mB mC m A' B' C' kn' ks' ∧ m + 2 * r.length ≤ n + 8 ∧ rOk u' ∧ ρ = [some (.obj 0), x1, x2, some (.obj 2), some (.obj 6), some (.obj 7), some (.pd (.int c)), some (.obj (T.length + 8)), y8, none] ∧ S = KX ns w0 LS mA mB mC A' B' C' kn' ks' (T ++ [rOb u'])) ?_ ?_ (List.range (1 + j)) _ _ ⟨A, B, C, kn, ks, u1, n, _, h, by simp; omega, hu1, rfl, rfl⟩
  · rintro i r ρ S P ⟨A', B', C', kn', ks', u', m, y8, h', hm, hu', rfl, rfl⟩ hP
    rw [List.length_cons] at hm
    exact deed_turn h' (by omega) hu' fun A2 B2 C2 kn2 ks2 u2 y8 h2 hu2 => hP _ _ ⟨A2, B2, C2, kn2, ks2, u2, m + 2, _, h2, by omega, hu2, rfl, rfl⟩
  · rintro ρ S ⟨A', B', C', kn', ks', u', m, y8, h', hm, hu', rfl, rfl⟩
    have h3 : Inv mA mB mC (n + 8) A' B' C' kn' ks' := ⟨h'.a, h'.b, h'.c, h'.nd, by have := h'.ln; simp at hm; omega, h'.kr, by have := h'.kl; simp at hm; omega⟩
    exact hQ _ _ _ _ _ _ _ _ _ h3
theorem allII_kD : ∀ kn : List (Int × Int), allII (kD kn) = some kn
  | [] => rfl
  | p :: r => by
    show (allII (kD r)).map ((p.1, p.2) :: ·) = _
    rw [allII_kD r]
    rfl
theorem plA_pr {n : Nat} : ∀ r : List (Int × Int), plA (n + 1) (r.map prX) = true
  | [] => rfl
  | p :: r => by
    rw [List.map_cons, plA, plA_pr r]
    simp [prX, plD, plA]
theorem law_true : ∀ ns : List Int, ns.length ≤ 63 → ∃ S', F_law [.obj 0] [.scr (ns.map PyData.int)] = some (.pd (.bool true), S') := by
  intro ns hn
  suffices Ok (F_law [.obj 0] [.scr (ns.map PyData.int)]) fun d _ => d = .pd (.bool true) by
    obtain ⟨d, S', e, rfl⟩ := this
    exact ⟨S', e⟩
  rw [F_law_e, fnF_e]
  unfold G_law
  have hl : ((ns.take 63).drop 1).length ≤ 62 := by simp; omega
  have ec : cutP ns (some 1) (some 63) = (ns.take 63).drop 1 := cutP_nn (a := 1) (b := 63)
  generalize (ns.take 63).drop 1 = cs at ec hl
  have l1 : 1 + cs.length ≤ 16777216 := by omega
  have er : (Val.pd (.int 0) :: List.map (Val.pd ∘ PyData.int) cs) = (0 :: cs).map (Val.pd ∘ PyData.int) := by simp
  simp -implicitDefEqProofs [startD, uLst]
  refine first_cell rfl hn fun c0 => ?_
  refine stream_ok wf_scr fun u hu => ?_
  obtain ⟨zA, mA, u1, a1, a2, hmA, hu1, eA⟩ := args_ex (S := [.scr (ns.map PyData.int), rOb u, .lsv []]) (u := u) (fun o ho => by
    simp only [List.mem_cons, List.not_mem_nil, or_false] at ho
    rcases ho with rfl | rfl | rfl <;> first | rfl | simp [Ob.blw, Val.blw]) rfl hu
  have rg2 : rgI 0 2 = [Val.pd (.int 0), Val.pd (.int 1)] := rfl
  simp -implicitDefEqProofs [eLcV, rg2, loopM, nName]
  refine newsh_ok (S := [.scr (ns.map PyData.int), rOb u1, .lsv []]) (mx := mA) (n := zA) a1 (by
    rw [eA _ rfl rfl]
    rfl) ?_
  simp -implicitDefEqProofs [uAppend]
  obtain ⟨zB, mB, u2, b1, b2, hmB, hu2, eB⟩ := args_ex (S := [.scr (ns.map PyData.int), rOb u1, .lsv [.obj 3], boxS mA (List.replicate zA [], 0)]) (u := u1) (fun o ho => by
    simp only [List.mem_cons, List.not_mem_nil, or_false] at ho
    rcases ho with rfl | rfl | rfl | rfl <;> first | rfl | simp [Ob.blw, Val.blw]) rfl hu1
  refine newsh_ok (S := [.scr (ns.map PyData.int), rOb u2, .lsv [.obj 3], boxS mA (List.replicate zA [], 0)]) (mx := mB) (n := zB) b1 (by
    rw [eB _ rfl rfl]
    rfl) ?_
  simp -implicitDefEqProofs [uAppend]
  obtain ⟨zC, mC, u3, c1, c2, hmC, hu3, eC⟩ := args3_ex (S := [.scr (ns.map PyData.int), rOb u2, .lsv [.obj 3, .obj 4], boxS mA (List.replicate zA [], 0), boxS mB (List.replicate zB [], 0)]) (u := u2) (fun o ho => by
    simp only [List.mem_cons, List.not_mem_nil, or_false] at ho
    rcases ho with rfl | rfl | rfl | rfl | rfl <;> first | rfl | simp [Ob.blw, Val.blw]) rfl hu2
  have it : isTy "list" (.obj 2) [Ob.scr (ns.map PyData.int), rOb u2, .lsv [.obj 3, .obj 4], boxS mA (List.replicate zA [], 0), boxS mB (List.replicate zB [], 0)] = true := rfl
  simp -implicitDefEqProofs [Iter.un, it]
  refine newsh_ok (S := [.scr (ns.map PyData.int), rOb u3, .lsv [.obj 3, .obj 4], boxS mA (List.replicate zA [], 0), boxS mB (List.replicate zB [], 0)]) (mx := mC) (n := zC) c1 (by
    rw [eC _ rfl rfl]
    rfl) ?_
  simp -implicitDefEqProofs [uAppend, uLstM]
  simp -implicitDefEqProofs [cutP_map, ec, l1]
  rw [er]
  refine ok_b (ok_loopQ (g := Val.pd ∘ PyData.int) (fun r ρ S => ∃ A B C kn ks n T y6 y7 y8, Inv mA mB mC n A B C kn ks ∧ n + 8 * r.length ≤ 600 ∧ (∀ o ∈ T, ∃ u, o = rOb u) ∧ S = KX ns u3 LS mA mB mC A B C kn ks T ∧ ρ = [some (.obj 0), some (.obj 1), some szL, some (.obj 2), some (.obj 6), some (.obj 7), y6, y7, y8, none]) ?_ ?_ (0 :: cs) _ _ ⟨_, _, _, [], [], 0, [], _, _, _, ⟨Agr.new hmA a1, Agr.new hmB b1, Agr.new hmC c1, List.nodup_nil, Nat.le_refl _, fun k hk => (by cases hk), Nat.le_refl _⟩, by simp; omega, fun o ho => (by cases ho), rfl, rfl⟩)
  · rintro c r ρ S P ⟨A, B, C, kn, ks, n, T, y6, y7, y8, h, hn, hT, rfl, rfl⟩ hP
    rw [List.length_cons] at hn
    refine cell_turn h (by omega) hT fun A' B' C' kn' ks' u' y6 y7 y8 h' => hP _ _ ⟨A', B', C', kn', ks', n + 8, T ++ [rOb u'], _, _, _, h', by omega, fun o ho => ?_, rfl, rfl⟩
    rcases List.mem_append.mp ho with q | q
    · exact hT o q
    · simp at q
      exact ⟨u', q⟩
  rintro ρ S ⟨A, B, C, kn, ks, n, T, y6, y7, y8, h, hn, hT, rfl, rfl⟩
  simp only [List.length_nil] at hn
  have wfL : Wf (KX ns u3 (.lock LS) mA mB mC A B C kn ks T) := fun o ho => by
    simp only [KX, List.mem_cons] at ho
    rcases ho with rfl | rfl | rfl | rfl | rfl | rfl | rfl | rfl | ho
    · rfl
    · rfl
    · simp [Ob.blw, Val.blw, KX]
    · rfl
    · rfl
    · rfl
    · rfl
    · rfl
    · obtain ⟨u, rfl⟩ := hT o ho
      rfl
  have si : uSortIt (.obj 6) (KX ns u3 (.lock LS) mA mB mC A B C kn ks T) = some (.pd (.list ((sortP kn).map prX)), KX ns u3 (.lock LS) mA mB mC A B C kn ks T) := by
    unfold uSortIt
    simp [kd6, allII_kD]
  have lnK := h.ln
  have fl : ∀ {mx : Int × Int} {r : Rows × Int}, Agr mx r kn → r.1.length ≤ 4096 ∧ r.1.flatten.length ≤ 100000 := fun ha => by
    have := sz_mem ha.sh.sz
    have := (ha.ok (by omega)).ln
    have a := ha.sh.ct
    rw [tot_flat, ha.ct] at a
    omega
  have un : ∀ S : Store, uNe (.pd (.list ((sortP kn).map prX))) (.pd (.list ((sortP kn).map prX))) S = some (.pd (.bool false), S) := fun S => uNe_self (n := 3) (by
    show plA 2 _ = true
    exact plA_pr (sortP kn)) (by omega)
  have lend : ∀ S : Store, ∀ T', S = .scr (ns.map PyData.int) :: T' → Ok (exitF 1 (.pd (.bool true)) S) fun d _ => d = .pd (.bool true) := fun S T' e => by
    subst e
    exact law_end
  simp -implicitDefEqProofs [kxq, loopC_cons, nName]
  refine ok_b (pairs_c (a := 3) (r := A) (mx := mA) wfL rfl (fl h.a).1 (fl h.a).2 ?_)
  rw [sortP_eq (h.a.perm h.nd)]
  simp -implicitDefEqProofs [si, un]
  refine ok_b (pairs_c (a := 4) (r := B) (mx := mB) wfL rfl (fl h.b).1 (fl h.b).2 ?_)
  rw [sortP_eq (h.b.perm h.nd)]
  simp -implicitDefEqProofs [si, un]
  refine ok_b (pairs_c (a := 5) (r := C) (mx := mC) wfL rfl (fl h.c).1 (fl h.c).2 ?_)
  rw [sortP_eq (h.c.perm h.nd)]
  have e0 : ∀ S : Store, uEq (.pd (.list [])) (.pd (.list [])) S = some (.pd (.bool true), S) := fun S => uEq_self (n := 1) rfl (by omega)
  simp -implicitDefEqProofs [si, un, Iter.un, kx2, uLst, e0]
  exact lend _ _ rfl
def d_mark_of : He.DefD := ⟨("mark_of", none), "mark_of", "mark_of", defArgs (top 7), defBody (top 7), defScope (top 7), [], []⟩
def d_place_of : He.DefD := ⟨("place_of", none), "place_of", "place_of", defArgs (top 8), defBody (top 8), defScope (top 8), [], []⟩
def d_is_whole : He.DefD := ⟨("is_whole", none), "is_whole", "is_whole", defArgs (top 11), defBody (top 11), defScope (top 11), [], []⟩
def d_shelf_size : He.DefD := ⟨("Shelf", some "size"), "size", "Shelf.size", defArgs (inClass (top 12) 8), defBody (inClass (top 12) 8), defScope (inClass (top 12) 8), [], []⟩
def d_shelf_many : He.DefD := ⟨("Shelf", some "many"), "many", "Shelf.many", defArgs (inClass (top 12) 9), defBody (inClass (top 12) 9), defScope (inClass (top 12) 9), [], []⟩
def d_law_stream : He.DefD := ⟨("_law_stream", none), "_law_stream", "_law_stream", defArgs (top 14), defBody (top 14), defScope (top 14), [], []⟩
def d_law_take : He.DefD := ⟨("_law_take", none), "_law_take", "_law_take", defArgs (top 15), defBody (top 15), defScope (top 15), [], []⟩
def d_shelf_init : He.DefD := ⟨("Shelf", some "__init__"), "__init__", "Shelf.__init__", defArgs (inClass (top 12) 0), defBody (inClass (top 12) 0), defScope (inClass (top 12) 0), [], []⟩
def d_shelf_row_for : He.DefD := ⟨("Shelf", some "row_for"), "row_for", "Shelf.row_for", defArgs (inClass (top 12) 1), defBody (inClass (top 12) 1), defScope (inClass (top 12) 1), [], []⟩
def d_shelf_need_place : He.DefD := ⟨("Shelf", some "need_place"), "need_place", "Shelf.need_place", defArgs (inClass (top 12) 5), defBody (inClass (top 12) 5), defScope (inClass (top 12) 5), [], []⟩
def d_law_mixer : He.DefD := ⟨("_law_mixer", none), "_law_mixer", "_law_mixer", defArgs (top 16), defBody (top 16), defScope (top 16), [], []⟩
def d_law_key : He.DefD := ⟨("_law_key", none), "_law_key", "_law_key", defArgs (top 17), defBody (top 17), defScope (top 17), [], []⟩
def d_law_worth : He.DefD := ⟨("_law_worth", none), "_law_worth", "_law_worth", defArgs (top 18), defBody (top 18), defScope (top 18), [], []⟩
def d_shelf_put : He.DefD := ⟨("Shelf", some "put"), "put", "Shelf.put", defArgs (inClass (top 12) 2), defBody (inClass (top 12) 2), defScope (inClass (top 12) 2), [], []⟩
def d_shelf_cut : He.DefD := ⟨("Shelf", some "cut"), "cut", "Shelf.cut", defArgs (inClass (top 12) 3), defBody (inClass (top 12) 3), defScope (inClass (top 12) 3), [], []⟩
def d_shelf_look : He.DefD := ⟨("Shelf", some "look"), "look", "Shelf.look", defArgs (inClass (top 12) 4), defBody (inClass (top 12) 4), defScope (inClass (top 12) 4), [], []⟩
def d_shelf_row : He.DefD := ⟨("Shelf", some "row"), "row", "Shelf.row", defArgs (inClass (top 12) 6), defBody (inClass (top 12) 6), defScope (inClass (top 12) 6), [], []⟩
def d_law_near_key : He.DefD := ⟨("_law_near_key", none), "_law_near_key", "_law_near_key", defArgs (top 19), defBody (top 19), defScope (top 19), [], []⟩
def d_law_done : He.DefD := ⟨("_law_done", none), "_law_done", "_law_done", defArgs (top 20), defBody (top 20), defScope (top 20), [], []⟩
def d_law_pairs : He.DefD := ⟨("_law_pairs", none), "_law_pairs", "_law_pairs", defArgs (top 21), defBody (top 21), defScope (top 21), [], []⟩
def d_law : He.DefD := ⟨("law", none), "law", "law", defArgs (top 22), defBody (top 22), defScope (top 22), [], []⟩
def fn : List He.DefD := [d_mark_of, d_place_of, d_is_whole, d_shelf_size, d_shelf_many, d_law_stream, d_law_take, d_shelf_init, d_shelf_row_for, d_shelf_need_place, d_law_mixer, d_law_key, d_law_worth, d_shelf_put, d_shelf_cut, d_shelf_look, d_shelf_row, d_law_near_key, d_law_done, d_law_pairs, d_law]
def exB (K : PySem.W.Frag) : Bool := He.tupB K "SIZES" [.int 4, .int 8, .int 16, .int 32, .int 64, .int 128, .int 256, .int 512, .int 1024, .int 2048, .int 4096]
theorem tup_SIZES {K : PySem.W.Frag} (h : exB K = true) : He.tupB K "SIZES" [.int 4, .int 8, .int 16, .int 32, .int 64, .int 128, .int 256, .int 512, .int 1024, .int 2048, .int 4096] = true := h
def fa : List He.Fa := [.free "sorted", .free "range", .free "len", .cls "Shelf", .noat "Shelf" "rows", .noat "Shelf" "mixed", .int "MARKS" 65536, .noat "Shelf" "count", .free "int", .glo "SIZES", .free "isinstance", .free "bool", .free "list", .glo "mark_of", .glo "place_of", .glo "is_whole", .meth "Shelf" "size", .meth "Shelf" "many", .glo "_law_stream", .glo "_law_take", .mkr "Shelf", .glo "Shelf", .meth "Shelf" "row_for", .meth "Shelf" "need_place", .glo "_law_mixer", .glo "_law_key", .glo "_law_worth", .meth "Shelf" "put", .meth "Shelf" "cut", .meth "Shelf" "look", .meth "Shelf" "row", .glo "_law_near_key", .glo "_law_done", .glo "_law_pairs", .glo "law"]
def cl (K : PySem.W.Frag) : Nat → Addr := fun n => match n with
  | 0 => He.ga K "Shelf"
  | _ => 0
theorem sc_mark_of : FnScope ["key", "mixer", "factor", "more"] ["key", "mixer"] (defScope (top 7)) := ⟨rfl, rfl, rfl, by decide +kernel, rfl, by decide +kernel, by decide +kernel⟩
theorem sc_place_of : FnScope ["mark", "size"] ["mark", "size"] (defScope (top 8)) := ⟨rfl, rfl, rfl, by decide +kernel, rfl, by decide +kernel, by decide +kernel⟩
theorem sc_is_whole : FnScope ["thing"] ["thing"] (defScope (top 11)) := ⟨rfl, rfl, rfl, by decide +kernel, rfl, by decide +kernel, by decide +kernel⟩
theorem sc_shelf_size : FnScope ["self"] ["self"] (defScope (inClass (top 12) 8)) := ⟨rfl, rfl, rfl, by decide +kernel, rfl, by decide +kernel, by decide +kernel⟩
theorem sc_shelf_many : FnScope ["self"] ["self"] (defScope (inClass (top 12) 9)) := ⟨rfl, rfl, rfl, by decide +kernel, rfl, by decide +kernel, by decide +kernel⟩
theorem sc_law_stream : FnScope ["cell", "low"] ["cell"] (defScope (top 14)) := ⟨rfl, rfl, rfl, by decide +kernel, rfl, by decide +kernel, by decide +kernel⟩
theorem sc_law_take : FnScope ["row", "many", "got"] ["row", "many"] (defScope (top 15)) := ⟨rfl, rfl, rfl, by decide +kernel, rfl, by decide +kernel, by decide +kernel⟩
theorem sc_shelf_init : FnScope ["self", "size", "mixer", "place"] ["self", "size", "mixer"] (defScope (inClass (top 12) 0)) := ⟨rfl, rfl, rfl, by decide +kernel, rfl, by decide +kernel, by decide +kernel⟩
theorem sc_shelf_row_for : FnScope ["self", "key"] ["self", "key"] (defScope (inClass (top 12) 1)) := ⟨rfl, rfl, rfl, by decide +kernel, rfl, by decide +kernel, by decide +kernel⟩
theorem sc_shelf_need_place : FnScope ["self", "place"] ["self", "place"] (defScope (inClass (top 12) 5)) := ⟨rfl, rfl, rfl, by decide +kernel, rfl, by decide +kernel, by decide +kernel⟩
theorem sc_law_mixer : FnScope ["row", "some"] ["row"] (defScope (top 16)) := ⟨rfl, rfl, rfl, by decide +kernel, rfl, by decide +kernel, by decide +kernel⟩
theorem sc_law_key : FnScope ["row", "some"] ["row"] (defScope (top 17)) := ⟨rfl, rfl, rfl, by decide +kernel, rfl, by decide +kernel, by decide +kernel⟩
theorem sc_law_worth : FnScope ["row"] ["row"] (defScope (top 18)) := ⟨rfl, rfl, rfl, by decide +kernel, rfl, by decide +kernel, by decide +kernel⟩
theorem sc_shelf_put : FnScope ["self", "key", "worth", "row", "had"] ["self", "key", "worth"] (defScope (inClass (top 12) 2)) := ⟨rfl, rfl, rfl, by decide +kernel, rfl, by decide +kernel, by decide +kernel⟩
theorem sc_shelf_cut : FnScope ["self", "key", "row"] ["self", "key"] (defScope (inClass (top 12) 3)) := ⟨rfl, rfl, rfl, by decide +kernel, rfl, by decide +kernel, by decide +kernel⟩
theorem sc_shelf_look : FnScope ["self", "key"] ["self", "key"] (defScope (inClass (top 12) 4)) := ⟨rfl, rfl, rfl, by decide +kernel, rfl, by decide +kernel, by decide +kernel⟩
theorem sc_shelf_row : FnScope ["self", "place"] ["self", "place"] (defScope (inClass (top 12) 6)) := ⟨rfl, rfl, rfl, by decide +kernel, rfl, by decide +kernel, by decide +kernel⟩
theorem sc_law_near_key : FnScope ["row", "keys"] ["row", "keys"] (defScope (top 19)) := ⟨rfl, rfl, rfl, by decide +kernel, rfl, by decide +kernel, by decide +kernel⟩
theorem sc_law_done : FnScope ["row", "shelves", "plain", "key", "kind", "due", "worth", "told", "shelf"] ["row", "shelves", "plain", "key"] (defScope (top 20)) := ⟨rfl, rfl, rfl, by decide +kernel, rfl, by decide +kernel, by decide +kernel⟩
theorem sc_law_pairs : FnScope ["shelf", "found", "place"] ["shelf"] (defScope (top 21)) := ⟨rfl, rfl, rfl, by decide +kernel, rfl, by decide +kernel, by decide +kernel⟩
theorem sc_law : FnScope ["script", "head", "sizes", "shelves", "plain", "keys", "cell", "row", "k", "shelf"] ["script"] (defScope (top 22)) := ⟨rfl, rfl, rfl, by decide +kernel, rfl, by decide +kernel, by decide +kernel⟩
section
variable {P : Program} {w : World} {K : PySem.W.Frag} {mg : Str → Option Value} {base h : Heap}
theorem bd_mark_of {fd : FuncData} (F : FunD K d_mark_of.name d_mark_of.qual d_mark_of.params d_mark_of.body d_mark_of.scope [] [] (He.fAd K d_mark_of.at_) fd) : Binds K fd ["key", "mixer"] [] := FunD.bindsN F (fun _ _ _ _ _ _ us hl => match us, hl with | [_, _], _ => rfl)
theorem ok_mark_of (X : K.In h) (G : h.Ns mainGlobals mg) (c : DM.Sy fa fn exB K) {fd : FuncData} (F : FunD K d_mark_of.name d_mark_of.qual d_mark_of.params d_mark_of.body d_mark_of.scope [] [] (He.fAd K d_mark_of.at_) fd) : FnOk P w K mg base CX0 1 (He.fAd K d_mark_of.at_) fd ["key", "mixer"] (spOf K (cl K) 2 F_mark_of) := by
  rw [F_mark_of_e]
  refine fn_okD F sc_mark_of sim_exitF (fun cdv A outer s H E hr => ?_)
  exact (ds_cons (ds_asg (de_var 1) (dg_tup rfl (dgs_cons (dg_name 2 sc_mark_of.nd rfl (by first | exact Or.inl rfl | exact Or.inr rfl)) (dgs_cons (dg_name 3 sc_mark_of.nd rfl (by first | exact Or.inl rfl | exact Or.inr rfl)) dgs_nil))))
    (ds_one (ds_ret (de_op op_mod so_mod (de_op op_addA so_add (de_op op_mulA so_mul (de_var 0) (de_var 2)) (de_var 3)) (de_globI (by rfl) (He.int_ok X G (c.fact 6 rfl)).choose_spec)))))
theorem cal_mark_of (X : K.In h) (G : h.Ns mainGlobals mg) (c : DM.Sy fa fn exB K) : CalD P w K mg base (cl K) 1 "mark_of" 2 F_mark_of := by
  obtain ⟨fd, F⟩ := c.def_ 0 (d := d_mark_of) rfl
  exact ⟨_, fd, _, rfl, (ok_mark_of (P := P) (w := w) (base := base) X G c F), He.glo_ok X G (c.fact 13 rfl), F.kp, bd_mark_of F⟩
theorem bd_place_of {fd : FuncData} (F : FunD K d_place_of.name d_place_of.qual d_place_of.params d_place_of.body d_place_of.scope [] [] (He.fAd K d_place_of.at_) fd) : Binds K fd ["mark", "size"] [] := FunD.bindsN F (fun _ _ _ _ _ _ us hl => match us, hl with | [_, _], _ => rfl)
theorem ok_place_of (X : K.In h) (G : h.Ns mainGlobals mg) (c : DM.Sy fa fn exB K) {fd : FuncData} (F : FunD K d_place_of.name d_place_of.qual d_place_of.params d_place_of.body d_place_of.scope [] [] (He.fAd K d_place_of.at_) fd) : FnOk P w K mg base CX0 1 (He.fAd K d_place_of.at_) fd ["mark", "size"] (spOf K (cl K) 2 F_place_of) := by
  rw [F_place_of_e]
  refine fn_okD F sc_place_of sim_exitF (fun cdv A outer s H E hr => ?_)
  exact (ds_one (ds_ret (de_op op_mod so_mod (de_var 0) (de_var 1))))
theorem cal_place_of (X : K.In h) (G : h.Ns mainGlobals mg) (c : DM.Sy fa fn exB K) : CalD P w K mg base (cl K) 1 "place_of" 2 F_place_of := by
  obtain ⟨fd, F⟩ := c.def_ 1 (d := d_place_of) rfl
  exact ⟨_, fd, _, rfl, (ok_place_of (P := P) (w := w) (base := base) X G c F), He.glo_ok X G (c.fact 14 rfl), F.kp, bd_place_of F⟩
theorem bd_is_whole {fd : FuncData} (F : FunD K d_is_whole.name d_is_whole.qual d_is_whole.params d_is_whole.body d_is_whole.scope [] [] (He.fAd K d_is_whole.at_) fd) : Binds K fd ["thing"] [] := FunD.bindsN F (fun _ _ _ _ _ _ us hl => match us, hl with | [_], _ => rfl)
theorem ok_is_whole (X : K.In h) (G : h.Ns mainGlobals mg) (c : DM.Sy fa fn exB K) {fd : FuncData} (F : FunD K d_is_whole.name d_is_whole.qual d_is_whole.params d_is_whole.body d_is_whole.scope [] [] (He.fAd K d_is_whole.at_) fd) : FnOk P w K mg base CX0 1 (He.fAd K d_is_whole.at_) fd ["thing"] (spOf K (cl K) 1 F_is_whole) := by
  rw [F_is_whole_e]
  refine fn_okD F sc_is_whole sim_exitF (fun cdv A outer s H E hr => ?_)
  exact (ds_one (ds_ret (de_and (de_isi (by rfl) (He.free_ok X G (c.fact 10 rfl)) (by rfl) (He.free_ok X G (c.fact 8 rfl)) (de_var 0) (by decide +kernel)) (de_one (de_not (de_isi (by rfl) (He.free_ok X G (c.fact 10 rfl)) (by rfl) (He.free_ok X G (c.fact 11 rfl)) (de_var 0) (by decide +kernel)))))))
theorem cal_is_whole (X : K.In h) (G : h.Ns mainGlobals mg) (c : DM.Sy fa fn exB K) : CalD P w K mg base (cl K) 1 "is_whole" 1 F_is_whole := by
  obtain ⟨fd, F⟩ := c.def_ 2 (d := d_is_whole) rfl
  exact ⟨_, fd, _, rfl, (ok_is_whole (P := P) (w := w) (base := base) X G c F), He.glo_ok X G (c.fact 15 rfl), F.kp, bd_is_whole F⟩
theorem bd_shelf_size {fd : FuncData} (F : FunD K d_shelf_size.name d_shelf_size.qual d_shelf_size.params d_shelf_size.body d_shelf_size.scope [] [] (He.fAd K d_shelf_size.at_) fd) : Binds K fd ["self"] [] := FunD.bindsN F (fun _ _ _ _ _ _ us hl => match us, hl with | [_], _ => rfl)
theorem ok_shelf_size (X : K.In h) (G : h.Ns mainGlobals mg) (c : DM.Sy fa fn exB K) {fd : FuncData} (F : FunD K d_shelf_size.name d_shelf_size.qual d_shelf_size.params d_shelf_size.body d_shelf_size.scope [] [] (He.fAd K d_shelf_size.at_) fd) : FnOk P w K mg base CX0 1 (He.fAd K d_shelf_size.at_) fd ["self"] (spOf K (cl K) 1 F_shelf_size) := by
  rw [F_shelf_size_e]
  refine fn_okD F sc_shelf_size sim_exitF (fun cdv A outer s H E hr => ?_)
  exact (ds_one (ds_ret (de_callB cr_lenA sc_len (by rfl) (He.free_ok X G (c.fact 2 rfl)) boot_len (da_cons (de_fld (He.cls_ok (c.fact 3 rfl)) (He.noat_ok (c.fact 4 rfl)) (de_var 0)) da_nil))))
theorem met_shelf_size (X : K.In h) (G : h.Ns mainGlobals mg) (c : DM.Sy fa fn exB K) : MetD P w K mg base (cl K) 1 0 "size" 1 F_shelf_size := by
  obtain ⟨fd, F⟩ := c.def_ 3 (d := d_shelf_size) rfl
  exact ⟨_, fd, _, rfl, (ok_shelf_size (P := P) (w := w) (base := base) X G c F), He.cls_ok (c.fact 3 rfl), He.meth_ok (c.fact 16 rfl), bd_shelf_size F⟩
theorem bd_shelf_many {fd : FuncData} (F : FunD K d_shelf_many.name d_shelf_many.qual d_shelf_many.params d_shelf_many.body d_shelf_many.scope [] [] (He.fAd K d_shelf_many.at_) fd) : Binds K fd ["self"] [] := FunD.bindsN F (fun _ _ _ _ _ _ us hl => match us, hl with | [_], _ => rfl)
theorem ok_shelf_many (X : K.In h) (G : h.Ns mainGlobals mg) (c : DM.Sy fa fn exB K) {fd : FuncData} (F : FunD K d_shelf_many.name d_shelf_many.qual d_shelf_many.params d_shelf_many.body d_shelf_many.scope [] [] (He.fAd K d_shelf_many.at_) fd) : FnOk P w K mg base CX0 1 (He.fAd K d_shelf_many.at_) fd ["self"] (spOf K (cl K) 1 F_shelf_many) := by
  rw [F_shelf_many_e]
  refine fn_okD F sc_shelf_many sim_exitF (fun cdv A outer s H E hr => ?_)
  exact (ds_one (ds_ret (de_fld (He.cls_ok (c.fact 3 rfl)) (He.noat_ok (c.fact 7 rfl)) (de_var 0))))
theorem met_shelf_many (X : K.In h) (G : h.Ns mainGlobals mg) (c : DM.Sy fa fn exB K) : MetD P w K mg base (cl K) 1 0 "many" 1 F_shelf_many := by
  obtain ⟨fd, F⟩ := c.def_ 4 (d := d_shelf_many) rfl
  exact ⟨_, fd, _, rfl, (ok_shelf_many (P := P) (w := w) (base := base) X G c F), He.cls_ok (c.fact 3 rfl), He.meth_ok (c.fact 17 rfl), bd_shelf_many F⟩
theorem bd_law_stream {fd : FuncData} (F : FunD K d_law_stream.name d_law_stream.qual d_law_stream.params d_law_stream.body d_law_stream.scope [] [] (He.fAd K d_law_stream.at_) fd) : Binds K fd ["cell"] [] := FunD.bindsN F (fun _ _ _ _ _ _ us hl => match us, hl with | [_], _ => rfl)
theorem ok_law_stream (X : K.In h) (G : h.Ns mainGlobals mg) (c : DM.Sy fa fn exB K) {fd : FuncData} (F : FunD K d_law_stream.name d_law_stream.qual d_law_stream.params d_law_stream.body d_law_stream.scope [] [] (He.fAd K d_law_stream.at_) fd) : FnOk P w K mg base CX0 1 (He.fAd K d_law_stream.at_) fd ["cell"] (spOf K (cl K) 1 F_law_stream) := by
  rw [F_law_stream_e]
  refine fn_okD F sc_law_stream sim_exitN (fun cdv A outer s H E hr => ?_)
  exact (ds_cons (ds_set 1 sc_law_stream.nd rfl (by first | exact Or.inl rfl | exact Or.inr rfl) (de_op op_mod so_mod (de_var 0) de_int))
    (ds_cons (ds_set 1 sc_law_stream.nd rfl (by first | exact Or.inl rfl | exact Or.inr rfl) (de_op op_mod so_mod (de_op op_addA so_add (de_op op_mulA so_mul (de_op op_mod so_mod (de_op op_mulA so_mul (de_var 1) (de_var 1)) de_int) (de_op op_addA so_add (de_var 1) de_int)) de_int) de_int))
    (ds_one (ds_ret (de_lstM (da_cons (de_var 0) (da_cons (de_var 1) (da_cons (de_callTy call_int1 sc_int (by rfl) (He.free_ok X G (c.fact 8 rfl)) (by decide +kernel) (da_cons (de_cmp op_ge so_lt (de_var 0) (de_op op_pow so_pow de_int de_int)) da_nil)) da_nil))))))))
theorem cal_law_stream (X : K.In h) (G : h.Ns mainGlobals mg) (c : DM.Sy fa fn exB K) : CalD P w K mg base (cl K) 1 "_law_stream" 1 F_law_stream := by
  obtain ⟨fd, F⟩ := c.def_ 5 (d := d_law_stream) rfl
  exact ⟨_, fd, _, rfl, (ok_law_stream (P := P) (w := w) (base := base) X G c F), He.glo_ok X G (c.fact 18 rfl), F.kp, bd_law_stream F⟩
theorem bd_law_take {fd : FuncData} (F : FunD K d_law_take.name d_law_take.qual d_law_take.params d_law_take.body d_law_take.scope [] [] (He.fAd K d_law_take.at_) fd) : Binds K fd ["row", "many"] [] := FunD.bindsN F (fun _ _ _ _ _ _ us hl => match us, hl with | [_, _], _ => rfl)
theorem ok_law_take (X : K.In h) (G : h.Ns mainGlobals mg) (c : DM.Sy fa fn exB K) {fd : FuncData} (F : FunD K d_law_take.name d_law_take.qual d_law_take.params d_law_take.body d_law_take.scope [] [] (He.fAd K d_law_take.at_) fd) : FnOk P w K mg base CX0 1 (He.fAd K d_law_take.at_) fd ["row", "many"] (spOf K (cl K) 2 F_law_take) := by
  rw [F_law_take_e]
  refine fn_okD F sc_law_take sim_exitF (fun cdv A outer s H E hr => ?_)
  exact (ds_cons (ds_if (dt_cmp (op_eqD hr.units) so_eq (de_ix (de_var 0) de_int) de_int) (ds_cons (ds_set 2 sc_law_take.nd rfl (by first | exact Or.inl rfl | exact Or.inr rfl) (de_op op_mod so_mod (de_ix (de_var 0) de_int) (de_var 1)))
    (ds_cons (ds_asg (de_op op_divA so_div (de_ix (de_var 0) de_int) (de_var 1)) (dg_sub set_list ss_list (de_var 0) de_int))
    (ds_one (ds_ret (de_var 2))))) ds_nil)
    (ds_cons (ds_asg (de_op op_mod so_mod (de_op op_mulA so_mul (de_op op_addA so_add (de_ix (de_var 0) de_int) de_int) (de_op op_addA so_add (de_ix (de_var 0) de_int) de_int)) de_int) (dg_sub set_list ss_list (de_var 0) de_int))
    (ds_one (ds_ret (de_op op_mod so_mod (de_op op_divA so_div (de_op op_addA so_add (de_op op_mulA so_mul (de_ix (de_var 0) de_int) de_int) de_int) de_int) (de_var 1))))))
theorem cal_law_take (X : K.In h) (G : h.Ns mainGlobals mg) (c : DM.Sy fa fn exB K) : CalD P w K mg base (cl K) 1 "_law_take" 2 F_law_take := by
  obtain ⟨fd, F⟩ := c.def_ 6 (d := d_law_take) rfl
  exact ⟨_, fd, _, rfl, (ok_law_take (P := P) (w := w) (base := base) X G c F), He.glo_ok X G (c.fact 19 rfl), F.kp, bd_law_take F⟩
theorem bd_shelf_init {fd : FuncData} (F : FunD K d_shelf_init.name d_shelf_init.qual d_shelf_init.params d_shelf_init.body d_shelf_init.scope [] [] (He.fAd K d_shelf_init.at_) fd) : Binds K fd ["self", "size", "mixer"] [] := FunD.bindsN F (fun _ _ _ _ _ _ us hl => match us, hl with | [_, _, _], _ => rfl)
theorem ok_shelf_init (X : K.In h) (G : h.Ns mainGlobals mg) (c : DM.Sy fa fn exB K) {fd : FuncData} (F : FunD K d_shelf_init.name d_shelf_init.qual d_shelf_init.params d_shelf_init.body d_shelf_init.scope [] [] (He.fAd K d_shelf_init.at_) fd) : FnOk P w K mg base CX0 2 (He.fAd K d_shelf_init.at_) fd ["self", "size", "mixer"] (spOf K (cl K) 3 F_shelf_init) := by
  rw [F_shelf_init_e]
  refine fn_okD F sc_shelf_init sim_exitA (fun cdv A outer s H E hr => ?_)
  exact (ds_cons (ds_if (DW.dt (dw_or (dt_not (dt_val (de_call (cal_is_whole X G c) hr (by decide) (by rfl) (da_cons (de_var 1) da_nil)))) (dw_or1 (dt_notinC (de_var 1) (by rfl) (He.glo_ok X G (c.fact 9 rfl)) (sqT_of (He.tupB_ok (tup_SIZES c.ex) _)))))) (ds_one ds_never) ds_nil)
    (ds_cons (ds_setF (He.cls_ok (c.fact 3 rfl)) (He.noat_ok (c.fact 5 rfl)) (de_var 0) (de_var 2))
    (ds_cons (ds_setF (He.cls_ok (c.fact 3 rfl)) (He.noat_ok (c.fact 4 rfl)) (de_var 0) (de_lcV (own := [("place", 3)]) rfl sc_shelf_init.nd (di_rng1 (by rfl) (He.free_ok X G (c.fact 1 rfl)) (de_var 1)) (blkOk_by (own := [("place", 3)]) (N := ["self", "size", "mixer", "place"]) (sc := defScope (inClass (top 12) 0)) (by decide +kernel)) (fun _ _ _ _ _ => (dc_name 3 sc_shelf_init.nd rfl (by first | exact Or.inl rfl | exact Or.inr rfl))) (fun _ _ _ _ _ => dts_nil) (fun _ _ _ _ _ => de_dict0) lk_rng1))
    (ds_one (ds_setF (He.cls_ok (c.fact 3 rfl)) (He.noat_ok (c.fact 7 rfl)) (de_var 0) de_int)))))
theorem mak_shelf_init (X : K.In h) (G : h.Ns mainGlobals mg) (c : DM.Sy fa fn exB K) : MakD P w K mg base (cl K) 2 0 "Shelf" 3 F_shelf_init := by
  obtain ⟨fd, F⟩ := c.def_ 7 (d := d_shelf_init) rfl
  exact ⟨_, fd, _, rfl, (ok_shelf_init (P := P) (w := w) (base := base) X G c F), He.mkr_ok (c.fact 20 rfl), He.glo_ok X G (c.fact 21 rfl), bd_shelf_init F⟩
theorem bd_shelf_row_for {fd : FuncData} (F : FunD K d_shelf_row_for.name d_shelf_row_for.qual d_shelf_row_for.params d_shelf_row_for.body d_shelf_row_for.scope [] [] (He.fAd K d_shelf_row_for.at_) fd) : Binds K fd ["self", "key"] [] := FunD.bindsN F (fun _ _ _ _ _ _ us hl => match us, hl with | [_, _], _ => rfl)
theorem ok_shelf_row_for (X : K.In h) (G : h.Ns mainGlobals mg) (c : DM.Sy fa fn exB K) {fd : FuncData} (F : FunD K d_shelf_row_for.name d_shelf_row_for.qual d_shelf_row_for.params d_shelf_row_for.body d_shelf_row_for.scope [] [] (He.fAd K d_shelf_row_for.at_) fd) : FnOk P w K mg base CX0 2 (He.fAd K d_shelf_row_for.at_) fd ["self", "key"] (spOf K (cl K) 2 F_shelf_row_for) := by
  rw [F_shelf_row_for_e]
  refine fn_okD F sc_shelf_row_for sim_exitF (fun cdv A outer s H E hr => ?_)
  exact (ds_one (ds_ret (de_ix (de_fld (He.cls_ok (c.fact 3 rfl)) (He.noat_ok (c.fact 4 rfl)) (de_var 0)) (de_call (cal_place_of X G c) hr (by decide) (by rfl) (da_cons (de_call (cal_mark_of X G c) hr (by decide) (by rfl) (da_cons (de_var 1) (da_cons (de_fld (He.cls_ok (c.fact 3 rfl)) (He.noat_ok (c.fact 5 rfl)) (de_var 0)) da_nil))) (da_cons (de_callB cr_lenA sc_len (by rfl) (He.free_ok X G (c.fact 2 rfl)) boot_len (da_cons (de_fld (He.cls_ok (c.fact 3 rfl)) (He.noat_ok (c.fact 4 rfl)) (de_var 0)) da_nil)) da_nil))))))
theorem met_shelf_row_for (X : K.In h) (G : h.Ns mainGlobals mg) (c : DM.Sy fa fn exB K) : MetD P w K mg base (cl K) 2 0 "row_for" 2 F_shelf_row_for := by
  obtain ⟨fd, F⟩ := c.def_ 8 (d := d_shelf_row_for) rfl
  exact ⟨_, fd, _, rfl, (ok_shelf_row_for (P := P) (w := w) (base := base) X G c F), He.cls_ok (c.fact 3 rfl), He.meth_ok (c.fact 22 rfl), bd_shelf_row_for F⟩
theorem bd_shelf_need_place {fd : FuncData} (F : FunD K d_shelf_need_place.name d_shelf_need_place.qual d_shelf_need_place.params d_shelf_need_place.body d_shelf_need_place.scope [] [] (He.fAd K d_shelf_need_place.at_) fd) : Binds K fd ["self", "place"] [] := FunD.bindsN F (fun _ _ _ _ _ _ us hl => match us, hl with | [_, _], _ => rfl)
theorem ok_shelf_need_place (X : K.In h) (G : h.Ns mainGlobals mg) (c : DM.Sy fa fn exB K) {fd : FuncData} (F : FunD K d_shelf_need_place.name d_shelf_need_place.qual d_shelf_need_place.params d_shelf_need_place.body d_shelf_need_place.scope [] [] (He.fAd K d_shelf_need_place.at_) fd) : FnOk P w K mg base CX0 2 (He.fAd K d_shelf_need_place.at_) fd ["self", "place"] (spOf K (cl K) 2 F_shelf_need_place) := by
  rw [F_shelf_need_place_e]
  refine fn_okD F sc_shelf_need_place sim_exitF (fun cdv A outer s H E hr => ?_)
  exact (ds_one (ds_if (DW.dt (dw_or (dt_not (dt_val (de_call (cal_is_whole X G c) hr (by decide) (by rfl) (da_cons (de_var 1) da_nil)))) (dw_or1 (dt_not (dt_chain op_le so_lt op_lt so_lt de_int (de_var 1) (de_callB cr_lenA sc_len (by rfl) (He.free_ok X G (c.fact 2 rfl)) boot_len (da_cons (de_fld (He.cls_ok (c.fact 3 rfl)) (He.noat_ok (c.fact 4 rfl)) (de_var 0)) da_nil))))))) (ds_one ds_never) ds_nil))
theorem met_shelf_need_place (X : K.In h) (G : h.Ns mainGlobals mg) (c : DM.Sy fa fn exB K) : MetD P w K mg base (cl K) 2 0 "need_place" 2 F_shelf_need_place := by
  obtain ⟨fd, F⟩ := c.def_ 9 (d := d_shelf_need_place) rfl
  exact ⟨_, fd, _, rfl, (ok_shelf_need_place (P := P) (w := w) (base := base) X G c F), He.cls_ok (c.fact 3 rfl), He.meth_ok (c.fact 23 rfl), bd_shelf_need_place F⟩
theorem bd_law_mixer {fd : FuncData} (F : FunD K d_law_mixer.name d_law_mixer.qual d_law_mixer.params d_law_mixer.body d_law_mixer.scope [] [] (He.fAd K d_law_mixer.at_) fd) : Binds K fd ["row"] [] := FunD.bindsN F (fun _ _ _ _ _ _ us hl => match us, hl with | [_], _ => rfl)
theorem ok_law_mixer (X : K.In h) (G : h.Ns mainGlobals mg) (c : DM.Sy fa fn exB K) {fd : FuncData} (F : FunD K d_law_mixer.name d_law_mixer.qual d_law_mixer.params d_law_mixer.body d_law_mixer.scope [] [] (He.fAd K d_law_mixer.at_) fd) : FnOk P w K mg base CX0 2 (He.fAd K d_law_mixer.at_) fd ["row"] (spOf K (cl K) 1 F_law_mixer) := by
  rw [F_law_mixer_e]
  refine fn_okD F sc_law_mixer sim_exitF (fun cdv A outer s H E hr => ?_)
  exact (ds_cons (ds_set 1 sc_law_mixer.nd rfl (by first | exact Or.inl rfl | exact Or.inr rfl) (de_lstM (da_cons (de_tup (da_cons de_int (da_cons de_int da_nil))) (da_cons (de_tup (da_cons de_int (da_cons de_int da_nil))) (da_cons (de_tup (da_cons de_int (da_cons de_int da_nil))) (da_cons (de_tup (da_cons de_int (da_cons de_int da_nil))) (da_cons (de_tup (da_cons de_int (da_cons de_int da_nil))) (da_cons (de_tup (da_cons de_int (da_cons de_int da_nil))) (da_cons (de_tup (da_cons de_int (da_cons de_int da_nil))) (da_cons (de_tup (da_cons de_int (da_cons de_int da_nil))) da_nil))))))))))
    (ds_cons (ds_expr (de_bm PySem.F.plainAttrs_list PySem.F.slot_list_append PySem.F.type_list_append mt_append sm_append (de_var 1) (da_cons (de_tup (da_cons (de_call (cal_law_take X G c) hr (by decide) (by rfl) (da_cons (de_var 0) (da_cons de_int da_nil))) (da_cons (de_call (cal_law_take X G c) hr (by decide) (by rfl) (da_cons (de_var 0) (da_cons de_int da_nil))) da_nil))) da_nil)))
    (ds_one (ds_ret (de_ix (de_var 1) (de_call (cal_law_take X G c) hr (by decide) (by rfl) (da_cons (de_var 0) (da_cons de_int da_nil))))))))
theorem cal_law_mixer (X : K.In h) (G : h.Ns mainGlobals mg) (c : DM.Sy fa fn exB K) : CalD P w K mg base (cl K) 2 "_law_mixer" 1 F_law_mixer := by
  obtain ⟨fd, F⟩ := c.def_ 10 (d := d_law_mixer) rfl
  exact ⟨_, fd, _, rfl, (ok_law_mixer (P := P) (w := w) (base := base) X G c F), He.glo_ok X G (c.fact 24 rfl), F.kp, bd_law_mixer F⟩
theorem bd_law_key {fd : FuncData} (F : FunD K d_law_key.name d_law_key.qual d_law_key.params d_law_key.body d_law_key.scope [] [] (He.fAd K d_law_key.at_) fd) : Binds K fd ["row"] [] := FunD.bindsN F (fun _ _ _ _ _ _ us hl => match us, hl with | [_], _ => rfl)
theorem ok_law_key (X : K.In h) (G : h.Ns mainGlobals mg) (c : DM.Sy fa fn exB K) {fd : FuncData} (F : FunD K d_law_key.name d_law_key.qual d_law_key.params d_law_key.body d_law_key.scope [] [] (He.fAd K d_law_key.at_) fd) : FnOk P w K mg base CX0 2 (He.fAd K d_law_key.at_) fd ["row"] (spOf K (cl K) 1 F_law_key) := by
  rw [F_law_key_e]
  refine fn_okD F sc_law_key sim_exitF (fun cdv A outer s H E hr => ?_)
  exact (ds_cons (ds_set 1 sc_law_key.nd rfl (by first | exact Or.inl rfl | exact Or.inr rfl) (de_lst (da_cons (de_call (cal_law_take X G c) hr (by decide) (by rfl) (da_cons (de_var 0) (da_cons de_int da_nil))) (da_cons (de_call (cal_law_take X G c) hr (by decide) (by rfl) (da_cons (de_var 0) (da_cons de_int da_nil))) (da_cons (de_op op_mulA so_mul de_int (de_call (cal_law_take X G c) hr (by decide) (by rfl) (da_cons (de_var 0) (da_cons de_int da_nil)))) (da_cons (de_call (cal_law_take X G c) hr (by decide) (by rfl) (da_cons (de_var 0) (da_cons (de_op op_addA so_add (de_op op_pow so_pow de_int de_int) de_int) da_nil))) (da_cons (de_op op_pow so_pow de_int de_int) da_nil)))))))
    (ds_one (ds_ret (de_ix (de_var 1) (de_call (cal_law_take X G c) hr (by decide) (by rfl) (da_cons (de_var 0) (da_cons de_int da_nil)))))))
theorem cal_law_key (X : K.In h) (G : h.Ns mainGlobals mg) (c : DM.Sy fa fn exB K) : CalD P w K mg base (cl K) 2 "_law_key" 1 F_law_key := by
  obtain ⟨fd, F⟩ := c.def_ 11 (d := d_law_key) rfl
  exact ⟨_, fd, _, rfl, (ok_law_key (P := P) (w := w) (base := base) X G c F), He.glo_ok X G (c.fact 25 rfl), F.kp, bd_law_key F⟩
theorem bd_law_worth {fd : FuncData} (F : FunD K d_law_worth.name d_law_worth.qual d_law_worth.params d_law_worth.body d_law_worth.scope [] [] (He.fAd K d_law_worth.at_) fd) : Binds K fd ["row"] [] := FunD.bindsN F (fun _ _ _ _ _ _ us hl => match us, hl with | [_], _ => rfl)
theorem ok_law_worth (X : K.In h) (G : h.Ns mainGlobals mg) (c : DM.Sy fa fn exB K) {fd : FuncData} (F : FunD K d_law_worth.name d_law_worth.qual d_law_worth.params d_law_worth.body d_law_worth.scope [] [] (He.fAd K d_law_worth.at_) fd) : FnOk P w K mg base CX0 2 (He.fAd K d_law_worth.at_) fd ["row"] (spOf K (cl K) 1 F_law_worth) := by
  rw [F_law_worth_e]
  refine fn_okD F sc_law_worth sim_exitF (fun cdv A outer s H E hr => ?_)
  exact (ds_one (ds_ret (de_ix (de_lst (da_cons de_int (da_cons (de_un un_neg su_neg de_int) (da_cons (de_op op_sub so_sub (de_call (cal_law_take X G c) hr (by decide) (by rfl) (da_cons (de_var 0) (da_cons (de_op op_addA so_add (de_op op_mulA so_mul de_int (de_op op_pow so_pow de_int de_int)) de_int) da_nil))) (de_op op_pow so_pow de_int de_int)) (da_cons (de_op op_pow so_pow de_int de_int) (da_cons (de_call (cal_law_take X G c) hr (by decide) (by rfl) (da_cons (de_var 0) (da_cons de_int da_nil))) da_nil)))))) (de_call (cal_law_take X G c) hr (by decide) (by rfl) (da_cons (de_var 0) (da_cons de_int da_nil))))))
theorem cal_law_worth (X : K.In h) (G : h.Ns mainGlobals mg) (c : DM.Sy fa fn exB K) : CalD P w K mg base (cl K) 2 "_law_worth" 1 F_law_worth := by
  obtain ⟨fd, F⟩ := c.def_ 12 (d := d_law_worth) rfl
  exact ⟨_, fd, _, rfl, (ok_law_worth (P := P) (w := w) (base := base) X G c F), He.glo_ok X G (c.fact 26 rfl), F.kp, bd_law_worth F⟩
theorem bd_shelf_put {fd : FuncData} (F : FunD K d_shelf_put.name d_shelf_put.qual d_shelf_put.params d_shelf_put.body d_shelf_put.scope [] [] (He.fAd K d_shelf_put.at_) fd) : Binds K fd ["self", "key", "worth"] [] := FunD.bindsN F (fun _ _ _ _ _ _ us hl => match us, hl with | [_, _, _], _ => rfl)
theorem ok_shelf_put (X : K.In h) (G : h.Ns mainGlobals mg) (c : DM.Sy fa fn exB K) {fd : FuncData} (F : FunD K d_shelf_put.name d_shelf_put.qual d_shelf_put.params d_shelf_put.body d_shelf_put.scope [] [] (He.fAd K d_shelf_put.at_) fd) : FnOk P w K mg base CX0 3 (He.fAd K d_shelf_put.at_) fd ["self", "key", "worth"] (spOf K (cl K) 3 F_shelf_put) := by
  rw [F_shelf_put_e]
  refine fn_okD F sc_shelf_put sim_exitF (fun cdv A outer s H E hr => ?_)
  exact (ds_cons (ds_set 3 sc_shelf_put.nd rfl (by first | exact Or.inl rfl | exact Or.inr rfl) (de_methB nz0 (met_shelf_row_for X G c) hr (by decide) (de_var 0) (da_cons (de_var 1) da_nil)))
    (ds_cons (ds_set 4 sc_shelf_put.nd rfl (by first | exact Or.inl rfl | exact Or.inr rfl) (de_get1 (hu_of hr) (de_var 3) (de_var 1)))
    (ds_cons (ds_augF (He.cls_ok (c.fact 3 rfl)) (He.noat_ok (c.fact 7 rfl)) (de_var 0) (de_callTy call_int1 sc_int (by rfl) (He.free_ok X G (c.fact 8 rfl)) (by decide +kernel) (da_cons (de_dnotin (hu_of hr) (de_var 1) (de_var 3)) da_nil)) in_add so_addI)
    (ds_cons (ds_dput (hu_of hr) (de_var 2) (de_var 3) (de_var 1))
    (ds_one (ds_ret (de_var 4)))))))
theorem met_shelf_put (X : K.In h) (G : h.Ns mainGlobals mg) (c : DM.Sy fa fn exB K) : MetD P w K mg base (cl K) 3 0 "put" 3 F_shelf_put := by
  obtain ⟨fd, F⟩ := c.def_ 13 (d := d_shelf_put) rfl
  exact ⟨_, fd, _, rfl, (ok_shelf_put (P := P) (w := w) (base := base) X G c F), He.cls_ok (c.fact 3 rfl), He.meth_ok (c.fact 27 rfl), bd_shelf_put F⟩
theorem bd_shelf_cut {fd : FuncData} (F : FunD K d_shelf_cut.name d_shelf_cut.qual d_shelf_cut.params d_shelf_cut.body d_shelf_cut.scope [] [] (He.fAd K d_shelf_cut.at_) fd) : Binds K fd ["self", "key"] [] := FunD.bindsN F (fun _ _ _ _ _ _ us hl => match us, hl with | [_, _], _ => rfl)
theorem ok_shelf_cut (X : K.In h) (G : h.Ns mainGlobals mg) (c : DM.Sy fa fn exB K) {fd : FuncData} (F : FunD K d_shelf_cut.name d_shelf_cut.qual d_shelf_cut.params d_shelf_cut.body d_shelf_cut.scope [] [] (He.fAd K d_shelf_cut.at_) fd) : FnOk P w K mg base CX0 3 (He.fAd K d_shelf_cut.at_) fd ["self", "key"] (spOf K (cl K) 2 F_shelf_cut) := by
  rw [F_shelf_cut_e]
  refine fn_okD F sc_shelf_cut sim_exitF (fun cdv A outer s H E hr => ?_)
  exact (ds_cons (ds_set 2 sc_shelf_cut.nd rfl (by first | exact Or.inl rfl | exact Or.inr rfl) (de_methB nz0 (met_shelf_row_for X G c) hr (by decide) (de_var 0) (da_cons (de_var 1) da_nil)))
    (ds_cons (ds_if (dt_dnotin (hu_of hr) (de_var 1) (de_var 2)) (ds_one (ds_ret de_non)) ds_nil)
    (ds_cons (ds_augF (He.cls_ok (c.fact 3 rfl)) (He.noat_ok (c.fact 7 rfl)) (de_var 0) de_int in_sub so_subI)
    (ds_one (ds_ret (de_pop1 (de_var 2) (de_var 1)))))))
theorem met_shelf_cut (X : K.In h) (G : h.Ns mainGlobals mg) (c : DM.Sy fa fn exB K) : MetD P w K mg base (cl K) 3 0 "cut" 2 F_shelf_cut := by
  obtain ⟨fd, F⟩ := c.def_ 14 (d := d_shelf_cut) rfl
  exact ⟨_, fd, _, rfl, (ok_shelf_cut (P := P) (w := w) (base := base) X G c F), He.cls_ok (c.fact 3 rfl), He.meth_ok (c.fact 28 rfl), bd_shelf_cut F⟩
theorem bd_shelf_look {fd : FuncData} (F : FunD K d_shelf_look.name d_shelf_look.qual d_shelf_look.params d_shelf_look.body d_shelf_look.scope [] [] (He.fAd K d_shelf_look.at_) fd) : Binds K fd ["self", "key"] [] := FunD.bindsN F (fun _ _ _ _ _ _ us hl => match us, hl with | [_, _], _ => rfl)
theorem ok_shelf_look (X : K.In h) (G : h.Ns mainGlobals mg) (c : DM.Sy fa fn exB K) {fd : FuncData} (F : FunD K d_shelf_look.name d_shelf_look.qual d_shelf_look.params d_shelf_look.body d_shelf_look.scope [] [] (He.fAd K d_shelf_look.at_) fd) : FnOk P w K mg base CX0 3 (He.fAd K d_shelf_look.at_) fd ["self", "key"] (spOf K (cl K) 2 F_shelf_look) := by
  rw [F_shelf_look_e]
  refine fn_okD F sc_shelf_look sim_exitF (fun cdv A outer s H E hr => ?_)
  exact (ds_one (ds_ret (de_get1 (hu_of hr) (de_methB nz0 (met_shelf_row_for X G c) hr (by decide) (de_var 0) (da_cons (de_var 1) da_nil)) (de_var 1))))
theorem met_shelf_look (X : K.In h) (G : h.Ns mainGlobals mg) (c : DM.Sy fa fn exB K) : MetD P w K mg base (cl K) 3 0 "look" 2 F_shelf_look := by
  obtain ⟨fd, F⟩ := c.def_ 15 (d := d_shelf_look) rfl
  exact ⟨_, fd, _, rfl, (ok_shelf_look (P := P) (w := w) (base := base) X G c F), He.cls_ok (c.fact 3 rfl), He.meth_ok (c.fact 29 rfl), bd_shelf_look F⟩
theorem bd_shelf_row {fd : FuncData} (F : FunD K d_shelf_row.name d_shelf_row.qual d_shelf_row.params d_shelf_row.body d_shelf_row.scope [] [] (He.fAd K d_shelf_row.at_) fd) : Binds K fd ["self", "place"] [] := FunD.bindsN F (fun _ _ _ _ _ _ us hl => match us, hl with | [_, _], _ => rfl)
theorem ok_shelf_row (X : K.In h) (G : h.Ns mainGlobals mg) (c : DM.Sy fa fn exB K) {fd : FuncData} (F : FunD K d_shelf_row.name d_shelf_row.qual d_shelf_row.params d_shelf_row.body d_shelf_row.scope [] [] (He.fAd K d_shelf_row.at_) fd) : FnOk P w K mg base CX0 3 (He.fAd K d_shelf_row.at_) fd ["self", "place"] (spOf K (cl K) 2 F_shelf_row) := by
  rw [F_shelf_row_e]
  refine fn_okD F sc_shelf_row sim_exitF (fun cdv A outer s H E hr => ?_)
  exact (ds_cons (ds_expr (de_methB nz0 (met_shelf_need_place X G c) hr (by decide) (de_var 0) (da_cons (de_var 1) da_nil)))
    (ds_one (ds_ret (de_items rfl (de_ix (de_fld (He.cls_ok (c.fact 3 rfl)) (He.noat_ok (c.fact 4 rfl)) (de_var 0)) (de_var 1)) (by rfl) (He.free_ok X G (c.fact 12 rfl))))))
theorem met_shelf_row (X : K.In h) (G : h.Ns mainGlobals mg) (c : DM.Sy fa fn exB K) : MetD P w K mg base (cl K) 3 0 "row" 2 F_shelf_row := by
  obtain ⟨fd, F⟩ := c.def_ 16 (d := d_shelf_row) rfl
  exact ⟨_, fd, _, rfl, (ok_shelf_row (P := P) (w := w) (base := base) X G c F), He.cls_ok (c.fact 3 rfl), He.meth_ok (c.fact 30 rfl), bd_shelf_row F⟩
theorem bd_law_near_key {fd : FuncData} (F : FunD K d_law_near_key.name d_law_near_key.qual d_law_near_key.params d_law_near_key.body d_law_near_key.scope [] [] (He.fAd K d_law_near_key.at_) fd) : Binds K fd ["row", "keys"] [] := FunD.bindsN F (fun _ _ _ _ _ _ us hl => match us, hl with | [_, _], _ => rfl)
theorem ok_law_near_key (X : K.In h) (G : h.Ns mainGlobals mg) (c : DM.Sy fa fn exB K) {fd : FuncData} (F : FunD K d_law_near_key.name d_law_near_key.qual d_law_near_key.params d_law_near_key.body d_law_near_key.scope [] [] (He.fAd K d_law_near_key.at_) fd) : FnOk P w K mg base CX0 3 (He.fAd K d_law_near_key.at_) fd ["row", "keys"] (spOf K (cl K) 2 F_law_near_key) := by
  rw [F_law_near_key_e]
  refine fn_okD F sc_law_near_key sim_exitF (fun cdv A outer s H E hr => ?_)
  exact (ds_cons (ds_if (DW.dt (dw_and (dt_cmp (op_neD hr.units) so_ne (de_var 1) (de_lst da_nil)) (dw_and1 (dt_cmp (op_eqD hr.units) so_eq (de_call (cal_law_take X G c) hr (by decide) (by rfl) (da_cons (de_var 0) (da_cons de_int da_nil))) de_int)))) (ds_one (ds_ret (de_ix (de_var 1) (de_call (cal_law_take X G c) hr (by decide) (by rfl) (da_cons (de_var 0) (da_cons (de_callB cr_lenA sc_len (by rfl) (He.free_ok X G (c.fact 2 rfl)) boot_len (da_cons (de_var 1) da_nil)) da_nil)))))) ds_nil)
    (ds_one (ds_ret (de_call (cal_law_key X G c) hr (by decide) (by rfl) (da_cons (de_var 0) da_nil)))))
theorem cal_law_near_key (X : K.In h) (G : h.Ns mainGlobals mg) (c : DM.Sy fa fn exB K) : CalD P w K mg base (cl K) 3 "_law_near_key" 2 F_law_near_key := by
  obtain ⟨fd, F⟩ := c.def_ 17 (d := d_law_near_key) rfl
  exact ⟨_, fd, _, rfl, (ok_law_near_key (P := P) (w := w) (base := base) X G c F), He.glo_ok X G (c.fact 31 rfl), F.kp, bd_law_near_key F⟩
theorem bd_law_done {fd : FuncData} (F : FunD K d_law_done.name d_law_done.qual d_law_done.params d_law_done.body d_law_done.scope [] [] (He.fAd K d_law_done.at_) fd) : Binds K fd ["row", "shelves", "plain", "key"] [] := FunD.bindsN F (fun _ _ _ _ _ _ us hl => match us, hl with | [_, _, _, _], _ => rfl)
theorem ok_law_done (X : K.In h) (G : h.Ns mainGlobals mg) (c : DM.Sy fa fn exB K) {fd : FuncData} (F : FunD K d_law_done.name d_law_done.qual d_law_done.params d_law_done.body d_law_done.scope [] [] (He.fAd K d_law_done.at_) fd) : FnOk P w K mg base CX0 4 (He.fAd K d_law_done.at_) fd ["row", "shelves", "plain", "key"] (spOf K (cl K) 4 F_law_done) := by
  rw [F_law_done_e]
  refine fn_okD F sc_law_done sim_exitA (fun cdv A outer s H E hr => ?_)
  exact (ds_cons (ds_set 4 sc_law_done.nd rfl (by first | exact Or.inl rfl | exact Or.inr rfl) (de_call (cal_law_take X G c) hr (by decide) (by rfl) (da_cons (de_var 0) (da_cons de_int da_nil))))
    (ds_cons (ds_set 5 sc_law_done.nd rfl (by first | exact Or.inl rfl | exact Or.inr rfl) (de_get1 (hu_of hr) (de_var 2) (de_var 3)))
    (ds_cons (ds_if (dt_cmp op_lt so_lt (de_var 4) de_int) (ds_cons (ds_set 6 sc_law_done.nd rfl (by first | exact Or.inl rfl | exact Or.inr rfl) (de_call (cal_law_worth X G c) hr (by decide) (by rfl) (da_cons (de_var 0) da_nil)))
    (ds_cons (ds_dput (hu_of hr) (de_var 6) (de_var 2) (de_var 3))
    (ds_one (ds_ret (de_cmp (op_eqD hr.units) so_eq (de_lc (own := [("shelf", 8)]) rfl sc_law_done.nd (di_seq (de_var 1)) (blkOk_by (own := [("shelf", 8)]) (N := ["row", "shelves", "plain", "key", "kind", "due", "worth", "told", "shelf"]) (sc := defScope (top 20)) (by decide +kernel)) (fun _ _ _ _ _ => (dc_name 8 sc_law_done.nd rfl (by first | exact Or.inl rfl | exact Or.inr rfl))) (fun _ _ _ _ _ => dts_nil) (fun _ _ _ _ _ => (de_methB nz0 (met_shelf_put X G c) hr (by decide) (de_var 8) (da_cons (de_var 3) (da_cons (de_var 6) da_nil)))) lk_seq) (de_op op_mulA so_mul (de_lst (da_cons (de_var 5) da_nil)) de_int)))))) ds_nil)
    (ds_cons (ds_if (dt_cmp (op_eqD hr.units) so_eq (de_var 4) de_int) (ds_cons (ds_setLc (i := 7) (hy := rfl) (hyl := rfl) (hsw := sw_true rfl rfl rfl (by decide +kernel)) (own := [("shelf", 8)]) rfl sc_law_done.nd (di_seq (de_var 1)) (blkOk_by (own := [("shelf", 8)]) (N := ["row", "shelves", "plain", "key", "kind", "due", "worth", "told", "shelf"]) (sc := defScope (top 20)) (by decide +kernel)) (fun _ _ _ _ _ => (dc_name 8 sc_law_done.nd rfl (by first | exact Or.inl rfl | exact Or.inr rfl))) (fun _ _ _ _ _ => dts_nil) (fun _ _ _ _ _ => (de_methB nz0 (met_shelf_cut X G c) hr (by decide) (de_var 8) (da_cons (de_var 3) da_nil))) lk_seq)
    (ds_cons (ds_if (dt_din (hu_of hr) (de_var 3) (de_var 2)) (ds_one (ds_expr (de_pop1 (de_var 2) (de_var 3)))) ds_nil)
    (ds_one (ds_ret (de_cmp (op_eqD hr.units) so_eq (de_var 7) (de_op op_mulA so_mul (de_lst (da_cons (de_var 5) da_nil)) de_int)))))) ds_nil)
    (ds_one (ds_ret (de_cmp (op_eqD hr.units) so_eq (de_lc (own := [("shelf", 8)]) rfl sc_law_done.nd (di_seq (de_var 1)) (blkOk_by (own := [("shelf", 8)]) (N := ["row", "shelves", "plain", "key", "kind", "due", "worth", "told", "shelf"]) (sc := defScope (top 20)) (by decide +kernel)) (fun _ _ _ _ _ => (dc_name 8 sc_law_done.nd rfl (by first | exact Or.inl rfl | exact Or.inr rfl))) (fun _ _ _ _ _ => dts_nil) (fun _ _ _ _ _ => (de_methB nz0 (met_shelf_look X G c) hr (by decide) (de_var 8) (da_cons (de_var 3) da_nil))) lk_seq) (de_op op_mulA so_mul (de_lst (da_cons (de_var 5) da_nil)) de_int))))))))
theorem cal_law_done (X : K.In h) (G : h.Ns mainGlobals mg) (c : DM.Sy fa fn exB K) : CalD P w K mg base (cl K) 4 "_law_done" 4 F_law_done := by
  obtain ⟨fd, F⟩ := c.def_ 18 (d := d_law_done) rfl
  exact ⟨_, fd, _, rfl, (ok_law_done (P := P) (w := w) (base := base) X G c F), He.glo_ok X G (c.fact 32 rfl), F.kp, bd_law_done F⟩
theorem bd_law_pairs {fd : FuncData} (F : FunD K d_law_pairs.name d_law_pairs.qual d_law_pairs.params d_law_pairs.body d_law_pairs.scope [] [] (He.fAd K d_law_pairs.at_) fd) : Binds K fd ["shelf"] [] := FunD.bindsN F (fun _ _ _ _ _ _ us hl => match us, hl with | [_], _ => rfl)
theorem ok_law_pairs (X : K.In h) (G : h.Ns mainGlobals mg) (c : DM.Sy fa fn exB K) {fd : FuncData} (F : FunD K d_law_pairs.name d_law_pairs.qual d_law_pairs.params d_law_pairs.body d_law_pairs.scope [] [] (He.fAd K d_law_pairs.at_) fd) : FnOk P w K mg base CX0 4 (He.fAd K d_law_pairs.at_) fd ["shelf"] (spOf K (cl K) 1 F_law_pairs) := by
  rw [F_law_pairs_e]
  refine fn_okD F sc_law_pairs sim_exitF (fun cdv A outer s H E hr => ?_)
  exact (ds_cons (ds_set 1 sc_law_pairs.nd rfl (by first | exact Or.inl rfl | exact Or.inr rfl) (de_lstM da_nil))
    (ds_cons (ds_for PassesOwn.never rfl (di_rng1 (by rfl) (He.free_ok X G (c.fact 1 rfl)) (de_methB0 nz0 (met_shelf_size X G c) hr (by decide) (de_var 0))) (dg_name 2 sc_law_pairs.nd rfl (by first | exact Or.inl rfl | exact Or.inr rfl)) (ds_one (ds_expr (de_bm PySem.F.plainAttrs_list PySem.F.slot_list_extend PySem.F.type_list_extend mt_extendL sm_extend (de_var 1) (da_cons (de_methB nz0 (met_shelf_row X G c) hr (by decide) (de_var 0) (da_cons (de_var 2) da_nil)) da_nil)))) lk_rng1)
    (ds_one (ds_ret (de_callB cr_sorted' sc_sorted (by rfl) (He.free_ok X G (c.fact 0 rfl)) (by decide +kernel) (da_cons (de_var 1) da_nil))))))
theorem cal_law_pairs (X : K.In h) (G : h.Ns mainGlobals mg) (c : DM.Sy fa fn exB K) : CalD P w K mg base (cl K) 4 "_law_pairs" 1 F_law_pairs := by
  obtain ⟨fd, F⟩ := c.def_ 19 (d := d_law_pairs) rfl
  exact ⟨_, fd, _, rfl, (ok_law_pairs (P := P) (w := w) (base := base) X G c F), He.glo_ok X G (c.fact 33 rfl), F.kp, bd_law_pairs F⟩
theorem bd_law {fd : FuncData} (F : FunD K d_law.name d_law.qual d_law.params d_law.body d_law.scope [] [] (He.fAd K d_law.at_) fd) : Binds K fd ["script"] [] := FunD.bindsN F (fun _ _ _ _ _ _ us hl => match us, hl with | [_], _ => rfl)
theorem ok_law (X : K.In h) (G : h.Ns mainGlobals mg) (c : DM.Sy fa fn exB K) {fd : FuncData} (F : FunD K d_law.name d_law.qual d_law.params d_law.body d_law.scope [] [] (He.fAd K d_law.at_) fd) : FnOk P w K mg base CX0 5 (He.fAd K d_law.at_) fd ["script"] (spOf K (cl K) 1 F_law) := by
  rw [F_law_e]
  refine fn_okD F sc_law sim_exitF (fun cdv A outer s H E hr => ?_)
  exact (ds_cons (ds_set 1 sc_law.nd rfl (by first | exact Or.inl rfl | exact Or.inr rfl) (de_call (cal_law_stream X G c) hr (by decide) (by rfl) (da_cons (de_ix (de_op op_addA so_add (de_var 0) (de_lst (da_cons de_int da_nil))) de_int) da_nil)))
    (ds_cons (ds_set 2 sc_law.nd rfl (by first | exact Or.inl rfl | exact Or.inr rfl) (de_lst (da_cons de_int (da_cons de_int (da_cons de_int (da_cons de_int (da_cons de_int (da_cons de_int da_nil))))))))
    (ds_cons (ds_setLcV (i := 3) (hy := rfl) (hyl := rfl) (hsw := sw_true rfl rfl rfl (by decide +kernel)) (own := [("k", 8)]) rfl sc_law.nd (di_rng1 (by rfl) (He.free_ok X G (c.fact 1 rfl)) de_int) (blkOk_by (own := [("k", 8)]) (N := ["script", "head", "sizes", "shelves", "plain", "keys", "cell", "row", "k", "shelf"]) (sc := defScope (top 22)) (by decide +kernel)) (fun _ _ _ _ _ => (dc_name 8 sc_law.nd rfl (by first | exact Or.inl rfl | exact Or.inr rfl))) (fun _ _ _ _ _ => dts_nil) (fun _ _ _ _ _ => (de_makeB nz0 (mak_shelf_init X G c) hr (by decide) (by rfl) (da_cons (de_ix (de_var 2) (de_call (cal_law_take X G c) hr (by decide) (by rfl) (da_cons (de_var 1) (da_cons de_int da_nil)))) (da_cons (de_call (cal_law_mixer X G c) hr (by decide) (by rfl) (da_cons (de_var 1) da_nil)) da_nil)))) lk_rng1)
    (ds_cons (ds_expr (de_bm PySem.F.plainAttrs_list PySem.F.slot_list_append PySem.F.type_list_append mt_append sm_append (de_var 3) (da_cons (de_makeB nz0 (mak_shelf_init X G c) hr (by decide) (by rfl) (da_cons (de_ix (de_var 2) (de_call (cal_law_take X G c) hr (by decide) (by rfl) (da_cons (de_var 1) (da_cons de_int da_nil)))) (da_cons (de_tup (da_cons de_int (da_cons (de_call (cal_law_take X G c) hr (by decide) (by rfl) (da_cons (de_var 1) (da_cons de_int da_nil))) da_nil))) da_nil))) da_nil)))
    (ds_cons (ds_set 4 sc_law.nd rfl (by first | exact Or.inl rfl | exact Or.inr rfl) de_dict0)
    (ds_cons (ds_set 5 sc_law.nd rfl (by first | exact Or.inl rfl | exact Or.inr rfl) (de_lstM da_nil))
    (ds_cons (ds_for PassesOwn.never rfl (di_seq (de_op op_addA so_add (de_lst (da_cons de_int da_nil)) (de_sl sl_a (de_var 0) (do_some de_int) (do_some de_int)))) (dg_name 6 sc_law.nd rfl (by first | exact Or.inl rfl | exact Or.inr rfl)) (ds_cons (ds_set 7 sc_law.nd rfl (by first | exact Or.inl rfl | exact Or.inr rfl) (de_call (cal_law_stream X G c) hr (by decide) (by rfl) (da_cons (de_var 6) da_nil)))
    (ds_one (ds_for PassesOwn.never rfl (di_rng1 (by rfl) (He.free_ok X G (c.fact 1 rfl)) (de_op op_addA so_add de_int (de_call (cal_law_take X G c) hr (by decide) (by rfl) (da_cons (de_var 7) (da_cons de_int da_nil))))) (dg_name 8 sc_law.nd rfl (by first | exact Or.inl rfl | exact Or.inr rfl)) (ds_cons (ds_expr (de_bm PySem.F.plainAttrs_list PySem.F.slot_list_append PySem.F.type_list_append mt_append sm_append (de_var 5) (da_cons (de_call (cal_law_near_key X G c) hr (by decide) (by rfl) (da_cons (de_var 7) (da_cons (de_var 5) da_nil))) da_nil)))
    (ds_cons (ds_if (dt_not (dt_val (de_call (cal_law_done X G c) hr (by decide) (by rfl) (da_cons (de_var 7) (da_cons (de_var 3) (da_cons (de_var 4) (da_cons (de_ix (de_var 5) (de_un un_neg su_neg de_int)) da_nil))))))) (ds_one (ds_ret de_bl)) ds_nil)
    (ds_one (ds_if (dt_cmp (op_neD hr.units) so_ne (de_lc (own := [("shelf", 9)]) rfl sc_law.nd (di_seq (de_var 3)) (blkOk_by (own := [("shelf", 9)]) (N := ["script", "head", "sizes", "shelves", "plain", "keys", "cell", "row", "k", "shelf"]) (sc := defScope (top 22)) (by decide +kernel)) (fun _ _ _ _ _ => (dc_name 9 sc_law.nd rfl (by first | exact Or.inl rfl | exact Or.inr rfl))) (fun _ _ _ _ _ => dts_nil) (fun _ _ _ _ _ => (de_methB0 nz0 (met_shelf_many X G c) hr (by decide) (de_var 9))) lk_seq) (de_op op_mulA so_mul (de_lst (da_cons (de_callB cr_lenA sc_len (by rfl) (He.free_ok X G (c.fact 2 rfl)) boot_len (da_cons (de_var 4) da_nil)) da_nil)) de_int)) (ds_one (ds_ret de_bl)) ds_nil)))) lk_rng1))) lk_seq)
    (ds_one (ds_ret (de_cmp (op_eqD hr.units) so_eq (de_lc (own := [("shelf", 9)]) rfl sc_law.nd (di_seq (de_var 3)) (blkOk_by (own := [("shelf", 9)]) (N := ["script", "head", "sizes", "shelves", "plain", "keys", "cell", "row", "k", "shelf"]) (sc := defScope (top 22)) (by decide +kernel)) (fun _ _ _ _ _ => (dc_name 9 sc_law.nd rfl (by first | exact Or.inl rfl | exact Or.inr rfl))) (fun _ _ _ _ _ => (dts_one (dt_cmp (op_neD hr.units) so_ne (de_call (cal_law_pairs X G c) hr (by decide) (by rfl) (da_cons (de_var 9) da_nil)) (de_sortIt rfl hr.units (de_var 4) (by rfl) (He.free_ok X G (c.fact 0 rfl)))))) (fun _ _ _ _ _ => (de_var 9)) lk_seq) (de_lst da_nil)))))))))))
theorem cal_law (X : K.In h) (G : h.Ns mainGlobals mg) (c : DM.Sy fa fn exB K) : CalD P w K mg base (cl K) 5 "law" 1 F_law := by
  obtain ⟨fd, F⟩ := c.def_ 20 (d := d_law) rfl
  exact ⟨_, fd, _, rfl, (ok_law (P := P) (w := w) (base := base) X G c F), He.glo_ok X G (c.fact 34 rfl), F.kp, bd_law F⟩
end
abbrev R : PySem.W.OpenRow := PySem.W.OpenLaw.row PySem.Challenge.rw_slowshift_k08_whole_one_answer_on_all_sh
abbrev hk : PySem.W.Hook := DM.hookY 6 fa fn exB
def ob (s : PySem.W.SharedT) : DM.AlY := DM.obsY 6 fa fn exB (HandSHeadRun.getT s)
theorem ob_eq (s : PySem.W.SharedT) : ob s = hk.obs s.abs := DM.obsY_eq (HandSHeadRun.getT_eq s)
def loose : List PySem.Str := (["_wall", "SlowError", "NoPlace", "NoSize", "MARKS", "mark_of", "place_of", "SIZES", "is_whole", "Shelf", "_law_stream", "_law_take", "_law_mixer", "_law_key", "_law_worth", "_law_near_key", "_law_done", "_law_pairs"] : List PySem.Str)
theorem run (w : World) : HandSHeadRun.RunEq R (PySem.W.view R.prog [22]) hk ob 6000 loose w := by
  intro os
  kernel_rfl
theorem facts {P : Program} {w : World} {K : PySem.W.Frag} {h : Heap} {mg : Str → Option Value} {f : Addr} (X : K.In h) (G : h.Ns mainGlobals mg) (hfa : mg ("law" : Str) = some (.ref f)) (c : DM.Sy fa fn exB K) :
    ∃ fd : FuncData, (∀ (s : Shared) (v : Value), BindsTo s fd ⟨[v], []⟩ [("script", v)]) ∧ ∀ base : Heap, K.In base → base.Ns mainGlobals mg → FnOk P w K mg base CX0 5 f fd ["script"] (spOf K (cl K) 1 F_law) := by
  have e := hfa.symm.trans (He.glo_ok X G (c.fact 34 rfl))
  cases e
  obtain ⟨fd, F⟩ := c.def_ 20 (d := d_law) rfl
  exact ⟨fd, fun s v => FunD.bindsA (ps := ["script"]) F (fun _ _ _ _ _ _ us hl => match us, hl with | [_], _ => rfl) s [v] rfl, fun base _ _ => ok_law (P := P) (w := w) (base := base) X G c F⟩
end
end K08
open PySem PySem.W PySem.Calls PyProof.Rows
set_option maxRecDepth 100000 in
set_option maxHeartbeats 0 in
theorem PySem.Challenge.cw_slowshift_k08_whole_one_answer_on_all_sh_holds : PySem.Challenge.rw_slowshift_k08_whole_one_answer_on_all_sh.Holds := by
  w_on; o_law
  refine HandSHeadRun.head_any (r := OpenLaw.row PySem.Challenge.rw_slowshift_k08_whole_one_answer_on_all_sh) (q := view (OpenLaw.row PySem.Challenge.rw_slowshift_k08_whole_one_answer_on_all_sh).prog [22]) (H := K08.hk) (ob := K08.ob) (M := 6000) (loose := K08.loose) (d := HandSHeadRun.topDef (OpenLaw.row PySem.Challenge.rw_slowshift_k08_whole_one_answer_on_all_sh).prog 22) (kwd := []) K08.ob_eq
    (by kernel_rfl) (fun s => by kernel_rfl) K08.run (by kernel_rfl) (by kernel_rfl) (by kernel_rfl) (by rfl) (by first | assumption | decide +kernel) (by decide +kernel) ⟨rfl, rfl, rfl, rfl, rfl, by decide +kernel⟩ ?hw ?hc
  case hw => w_witness2
  case hc =>
    refine L2.walk_ofE (l := PySem.Challenge.rw_slowshift_k08_whole_one_answer_on_all_sh) (n := 63) (k := 5) (x := "script") (CX := L2.CX0) rfl (by decide) (by kernel_rfl) ⟨rfl, by decide, by decide⟩ ?F (fun _ _ _ _ z => z)
    intro w mg fa h Y G hmg0
    obtain ⟨K, KX, c⟩ := Y
    have hmg : mg ("law" : PySem.Str) = some (.ref fa) := by
      have e : (HandSHeadRun.topDef (OpenLaw.row PySem.Challenge.rw_slowshift_k08_whole_one_answer_on_all_sh).prog 22).name = ("law" : PySem.Str) := by kernel_rfl
      rw [← e]
      exact hmg0
    obtain ⟨fd, hb, hF⟩ := K08.facts (P := (PySem.Challenge.rw_slowshift_k08_whole_one_answer_on_all_sh).prog) (w := w) KX G hmg c
    exact ⟨K, fd, _, KX, hb, fun H a ns hl _ hS => DM.law_sp (n := 63) K08.law_true H a ns hl hS, hF⟩
