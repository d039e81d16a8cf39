import PyProof.Rows.All
import Wide.All
import OpenK.AllK
import Wide.FinOn
import HandS.ForMost
import HandS.ForExc
import HandS.IsInst
import HandS.Wide
import HandS.Flow
import HandS.Deep
import HandS.Defaults
import HandS.Head0
import HandS.Head1
import HandS.Head2
import HandS.HeadEnd
import HandS.HeadHook1
import HandS.HeadHook2
import HandS.HeadHook3
import HandS.HeadHook4
import HandS.IntHex
import KE.KStateDown
import PySem.Challenge.RW_slowshift_k02_stretches_told
set_option Elab.async false
set_option linter.all false
set_option maxRecDepth 100000
/-! DM: an abstract store of objects over the hand layer: values as plain data, one simulation lemma a construct. -/
namespace DM
open PySem L2
/-- a value: plain data (frozen), or an object of the store -/
inductive Val where
  | pd (d : PyData)
  | obj (h : Nat)
/-- an object of the store -/
inductive Ob where
  | lst (xs : List PyData)
  | lsv (xs : List Val)
  | dK (kvs : List (Key × PyData))
  | dT (kvs : List (List Key × PyData))
  | dV (kvs : List (Key × Val))
  | ins (c : Nat) (fs : List (Str × Val))
  | lock (o : Ob)
  | scr (xs : List PyData)
  | dead
abbrev Store := List Ob
/-- where the objects stand, and the cells that each owns -/
structure Wd where
  ad : Nat → Addr
  fp : Nat → Addr → Prop
  hid : Addr → Prop
def Own (wd : Wd) (n : Nat) (b : Addr) : Prop := wd.hid b ∨ ∃ i, i < n ∧ wd.fp i b
/-- a list that nobody owns; a tuple that nobody owns, or one of the text's own -/
def FzL (K : PySem.W.Frag) (H : Hp) (O : Addr → Prop) (a : Addr) (xs : List V) : Prop := Rd H a (.lst xs) ∧ ¬ O a
/-- the law's script -/
def FzS (K : PySem.W.Frag) (H : Hp) (O : Addr → Prop) (a : Addr) (xs : List V) : Prop := FzL K H O a xs ∨
  ∃ (o : Obj) (its : Array Value) (n : Nat), K.lookup a = some o ∧ o.cls = .type "list" ∧ o.dict = none ∧ o.data = .seq its n ∧ its.size ≤ sizeLine ∧ Vals xs its.toList
def FzT (K : PySem.W.Frag) (H : Hp) (O : Addr → Prop) (a : Addr) (xs : List V) : Prop :=
  (H a = some (.tup xs) ∧ ¬ O a) ∨
    ∃ (o : Obj) (its : Array Value) (n : Nat), K.lookup a = some o ∧ o.cls = .type "tuple" ∧ o.data = .seq its n ∧ its.size ≤ sizeLine ∧ Vals xs its.toList
theorem FzL.sq {K : PySem.W.Frag} {H : Hp} {O : Addr → Prop} {a : Addr} {xs : List V} (h : FzL K H O a xs) : SqL K H a xs := .inl h.1
theorem FzS.sq {K : PySem.W.Frag} {H : Hp} {O : Addr → Prop} {a : Addr} {xs : List V} (h : FzS K H O a xs) : SqL K H a xs := by
  rcases h with h | h
  · exact h.sq
  · exact .inr h
theorem FzT.sq {K : PySem.W.Frag} {H : Hp} {O : Addr → Prop} {a : Addr} {xs : List V} (h : FzT K H O a xs) : SqT K H a xs := by
  rcases h with h | h
  · exact .inl (.inl h.1)
  · exact .inr h
theorem FzL.mono {K : PySem.W.Frag} {H H' : Hp} {O O' : Addr → Prop} {a : Addr} {xs : List V} (k : ∀ b o, H b = some o → ¬ O b → H' b = some o ∧ ¬ O' b) (h : FzL K H O a xs) : FzL K H' O' a xs := by
  obtain ⟨h1 | ⟨o, h1⟩, h2⟩ := h
  · exact ⟨.inl (k _ _ h1 h2).1, (k _ _ h1 h2).2⟩
  · exact ⟨.inr ⟨o, (k _ _ h1 h2).1⟩, (k _ _ h1 h2).2⟩
theorem FzS.mono {K : PySem.W.Frag} {H H' : Hp} {O O' : Addr → Prop} {a : Addr} {xs : List V} (k : ∀ b o, H b = some o → ¬ O b → H' b = some o ∧ ¬ O' b) (h : FzS K H O a xs) : FzS K H' O' a xs := by
  rcases h with h | h
  · exact .inl (h.mono k)
  · exact .inr h
theorem FzT.mono {K : PySem.W.Frag} {H H' : Hp} {O O' : Addr → Prop} {a : Addr} {xs : List V} (k : ∀ b o, H b = some o → ¬ O b → H' b = some o ∧ ¬ O' b) (h : FzT K H O a xs) : FzT K H' O' a xs := by
  rcases h with ⟨h1, h2⟩ | h
  · exact .inl (k _ _ h1 h2)
  · exact .inr h
mutual
inductive Rp (K : PySem.W.Frag) (H : Hp) (O : Addr → Prop) : V → PyData → Prop
  | non : Rp K H O .non .none
  | bl (b : Bool) : Rp K H O (.bl b) (.bool b)
  | int (i : Int) : Rp K H O (.int i) (.int i)
  | str (x : Str) : Rp K H O (.str x) (.str x)
  | lst {a : Addr} {xs : List V} {ds : List PyData} : FzL K H O a xs → RpAll K H O xs ds → Rp K H O (.ref a) (.list ds)
  | tup {a : Addr} {xs : List V} {ds : List PyData} : FzT K H O a xs → RpAll K H O xs ds → Rp K H O (.ref a) (.tuple ds)
inductive RpAll (K : PySem.W.Frag) (H : Hp) (O : Addr → Prop) : List V → List PyData → Prop
  | nil : RpAll K H O [] []
  | cons {v : V} {vs : List V} {d : PyData} {ds : List PyData} : Rp K H O v d → RpAll K H O vs ds → RpAll K H O (v :: vs) (d :: ds)
end
section
variable {K : PySem.W.Frag} {H H' : Hp} {O O' : Addr → Prop}
mutual
theorem Rp.mono (k : ∀ b o, H b = some o → ¬ O b → H' b = some o ∧ ¬ O' b) : ∀ (d : PyData) (v : V), Rp K H O v d → Rp K H' O' v d
  | .none, _, h => by cases h; exact .non
  | .bool b, _, h => by cases h; exact .bl b
  | .int i, _, h => by cases h; exact .int i
  | .str x, _, h => by cases h; exact .str x
  | .list ds, _, h => by
    cases h with
    | lst h1 h2 => exact .lst (h1.mono k) (RpAll.mono k ds _ h2)
  | .tuple ds, _, h => by
    cases h with
    | tup h1 h2 => exact .tup (h1.mono k) (RpAll.mono k ds _ h2)
  | .dict _, _, h => by cases h
theorem RpAll.mono (k : ∀ b o, H b = some o → ¬ O b → H' b = some o ∧ ¬ O' b) : ∀ (ds : List PyData) (vs : List V), RpAll K H O vs ds → RpAll K H' O' vs ds
  | [], _, h => by cases h; exact .nil
  | d :: ds, _, h => by
    cases h with
    | cons h1 h2 => exact .cons (Rp.mono k d _ h1) (RpAll.mono k ds _ h2)
end
mutual
theorem Rp.dp : ∀ (d : PyData) (v : V), Rp K H O v d → Dp K H v d
  | .none, _, h => by cases h; exact .non
  | .bool b, _, h => by cases h; exact .bl b
  | .int i, _, h => by cases h; exact .int i
  | .str x, _, h => by cases h; exact .str x
  | .list ds, _, h => by
    cases h with
    | lst h1 h2 => exact .lst h1.sq (RpAll.dp ds _ h2)
  | .tuple ds, _, h => by
    cases h with
    | tup h1 h2 => exact .tup h1.sq (RpAll.dp ds _ h2)
  | .dict _, _, h => by cases h
theorem RpAll.dp : ∀ (ds : List PyData) (vs : List V), RpAll K H O vs ds → DpAll K H vs ds
  | [], _, h => by cases h; exact .nil
  | d :: ds, _, h => by
    cases h with
    | cons h1 h2 => exact .cons (Rp.dp d _ h1) (RpAll.dp ds _ h2)
end
theorem RpAll.length : ∀ {ds : List PyData} {vs : List V}, RpAll K H O vs ds → vs.length = ds.length
  | _, _, .nil => rfl
  | _, _, .cons _ t => congrArg (· + 1) (RpAll.length t)
theorem RpAll.get : ∀ {ds : List PyData} {vs : List V} {i : Nat} {d : PyData}, RpAll K H O vs ds → ds[i]? = some d → ∃ v, vs[i]? = some v ∧ Rp K H O v d
  | _, _, _, _, .nil, e => by simp at e
  | _, _, 0, _, .cons r _, e => by simp at e; subst e; exact ⟨_, rfl, r⟩
  | _, _, i + 1, _, .cons _ t, e => by
    obtain ⟨v, h1, h2⟩ := RpAll.get (i := i) t (by simpa using e)
    exact ⟨v, by simpa using h1, h2⟩
theorem RpAll.get' : ∀ {ds : List PyData} {vs : List V} {i : Nat} {v : V}, RpAll K H O vs ds → vs[i]? = some v → ∃ d, ds[i]? = some d ∧ Rp K H O v d
  | _, _, _, _, .nil, e => by simp at e
  | _, _, 0, _, .cons r _, e => by simp at e; subst e; exact ⟨_, rfl, r⟩
  | _, _, i + 1, _, .cons _ t, e => by
    obtain ⟨v, h1, h2⟩ := RpAll.get' (i := i) t (by simpa using e)
    exact ⟨v, by simpa using h1, h2⟩
theorem RpAll.append : ∀ {ds es : List PyData} {vs us : List V}, RpAll K H O vs ds → RpAll K H O us es → RpAll K H O (vs ++ us) (ds ++ es)
  | _, _, _, _, .nil, s => s
  | _, _, _, _, .cons r t, s => .cons r (RpAll.append t s)
theorem RpAll.take : ∀ {ds : List PyData} {vs : List V} (n : Nat), RpAll K H O vs ds → RpAll K H O (vs.take n) (ds.take n)
  | _, _, 0, _ => by simp; exact .nil
  | _, _, _ + 1, .nil => .nil
  | _, _, n + 1, .cons r t => .cons r (RpAll.take n t)
theorem RpAll.drop : ∀ {ds : List PyData} {vs : List V} (n : Nat), RpAll K H O vs ds → RpAll K H O (vs.drop n) (ds.drop n)
  | _, _, 0, r => r
  | _, _, _ + 1, .nil => .nil
  | _, _, n + 1, .cons r t => RpAll.drop n t
theorem RpAll.set : ∀ {ds : List PyData} {vs : List V} (i : Nat) {v : V} {d : PyData}, RpAll K H O vs ds → Rp K H O v d → RpAll K H O (vs.set i v) (ds.set i d)
  | _, _, _, _, _, .nil, _ => .nil
  | _, _, 0, _, _, .cons _ t, r => .cons r t
  | _, _, i + 1, _, _, .cons q t, r => .cons q (RpAll.set i t r)
theorem RpAll.eraseIdx : ∀ {ds : List PyData} {vs : List V} (i : Nat), RpAll K H O vs ds → RpAll K H O (vs.eraseIdx i) (ds.eraseIdx i)
  | _, _, _, .nil => .nil
  | _, _, 0, .cons _ t => t
  | _, _, i + 1, .cons q t => .cons q (RpAll.eraseIdx i t)
theorem RpAll.reverse : ∀ {ds : List PyData} {vs : List V}, RpAll K H O vs ds → RpAll K H O vs.reverse ds.reverse
  | _, _, .nil => .nil
  | _, _, .cons r t => by
    rw [List.reverse_cons, List.reverse_cons]
    exact (RpAll.reverse t).append (.cons r .nil)
end
/-- a value's likeness -/
def RV (K : PySem.W.Frag) (wd : Wd) (n : Nat) (H : Hp) (v : V) : Val → Prop
  | .pd d => Rp K H (Own wd n) v d
  | .obj h => h < n ∧ v = .ref (wd.ad h)
inductive RVs (K : PySem.W.Frag) (wd : Wd) (n : Nat) (H : Hp) : List V → List Val → Prop
  | nil : RVs K wd n H [] []
  | cons {v : V} {vs : List V} {d : Val} {ds : List Val} : RV K wd n H v d → RVs K wd n H vs ds → RVs K wd n H (v :: vs) (d :: ds)
def PKV {κ : Type} (R : V → PyData → Prop) : List (κ × V) → List (κ × PyData) → Prop := Paired fun p q => p.1 = q.1 ∧ R p.2 q.2
def PKW {κ : Type} (R : V → Val → Prop) : List (κ × V) → List (κ × Val) → Prop := Paired fun p q => p.1 = q.1 ∧ R p.2 q.2
/-- an object's likeness: at a, owning fp -/
def OR (K : PySem.W.Frag) (cl : Nat → Addr) (wd : Wd) (n : Nat) (H : Hp) (a : Addr) (fp : Addr → Prop) : Ob → Prop
  | .lst xs => (∀ b, fp b ↔ b = a) ∧ ∃ vs, H a = some (.lst vs) ∧ RpAll K H (Own wd n) vs xs
  | .lsv xs => (∀ b, fp b ↔ b = a) ∧ ∃ vs, H a = some (.lst vs) ∧ RVs K wd n H vs xs
  | .dK kvs => (∀ b, fp b ↔ b = a) ∧ ∃ ks, H a = some (.dK ks) ∧ PKV (Rp K H (Own wd n)) ks kvs
  | .dT kvs => (∀ b, fp b ↔ b = a) ∧ ∃ ks, H a = some (.dT ks) ∧ PKV (Rp K H (Own wd n)) ks kvs
  | .dV kvs => (∀ b, fp b ↔ b = a) ∧ ∃ ks, H a = some (.dK ks) ∧ PKW (RV K wd n H) ks kvs
  | .ins c fs => ∃ dx, (∀ b, fp b ↔ b = a ∨ b = dx) ∧ H dx = some (.own a) ∧ ∃ gs, H a = some (.ins (cl c) dx gs) ∧ PKW (RV K wd n H) gs fs
  | .lock (.lst xs) => (∀ b, fp b ↔ b = a) ∧ ∃ vs, H a = some (.lst vs) ∧ RpAll K H (Own wd n) vs xs
  | .lock (.lsv xs) => (∀ b, fp b ↔ b = a) ∧ ∃ vs, H a = some (.lst vs) ∧ RVs K wd n H vs xs
  | .lock (.dK kvs) => (∀ b, fp b ↔ b = a) ∧ ∃ od ks, H a = some (.frz od (.dK ks)) ∧ PKV (Rp K H (Own wd n)) ks kvs
  | .lock _ => False
  | .scr xs => (∀ b, ¬ fp b) ∧ ∃ vs, FzS K H (Own wd n) a vs ∧ RpAll K H (Own wd n) vs xs
  | .dead => ∀ b, ¬ fp b
structure WR (K : PySem.W.Frag) (cl : Nat → Addr) (wd : Wd) (S : Store) (H : Hp) : Prop where
  ob : ∀ i o, S[i]? = some o → OR K cl wd S.length H (wd.ad i) (wd.fp i) o
  dj : ∀ i j b, i < S.length → j < S.length → wd.fp i b → wd.fp j b → i = j
  lv : ∀ i b, i < S.length → wd.fp i b → ∃ o, H b = some o
  hd : ∀ b, wd.hid b → (∃ o, H b = some o) ∧ ∀ i, i < S.length → ¬ wd.fp i b
structure Ext (wd : Wd) (S : Store) (H : Hp) (wd' : Wd) (S' : Store) (H' : Hp) : Prop where
  len : S.length ≤ S'.length
  ad : ∀ i, i < S.length → wd'.ad i = wd.ad i
  keep : ∀ b o, H b = some o → ¬ Own wd S.length b → H' b = some o ∧ ¬ Own wd' S'.length b
  lock : ∀ i o, S[i]? = some (.lock o) → S'[i]? = some (.lock o) ∧ H' (wd.ad i) = H (wd.ad i)
  hid : ∀ b, wd.hid b → wd'.hid b ∧ H' b = H b
section
variable {K : PySem.W.Frag} {cl : Nat → Addr} {wd wd' wd'' : Wd} {S S' S'' : Store} {H H' H'' : Hp}
theorem Ext.refl : Ext wd S H wd S H := ⟨Nat.le_refl _, fun _ _ => rfl, fun _ _ h n => ⟨h, n⟩, fun _ _ h => ⟨h, rfl⟩, fun _ h => ⟨h, rfl⟩⟩
theorem lt_of_get {α : Type} {xs : List α} {i : Nat} {x : α} (h : xs[i]? = some x) : i < xs.length := by
  rw [List.getElem?_eq_some_iff] at h
  exact h.1
theorem Ext.trans (x : Ext wd S H wd' S' H') (y : Ext wd' S' H' wd'' S'' H'') : Ext wd S H wd'' S'' H'' where
  len := Nat.le_trans x.len y.len
  ad := fun i h => (y.ad i (Nat.lt_of_lt_of_le h x.len)).trans (x.ad i h)
  keep := fun b o h n => by
    obtain ⟨h1, n1⟩ := x.keep b o h n
    exact y.keep b o h1 n1
  lock := fun i o h => by
    obtain ⟨h1, e1⟩ := x.lock i o h
    obtain ⟨h2, e2⟩ := y.lock i o h1
    rw [x.ad i (lt_of_get h)] at e2
    exact ⟨h2, e2.trans e1⟩
  hid := fun b h => by
    obtain ⟨h1, e1⟩ := x.hid b h
    obtain ⟨h2, e2⟩ := y.hid b h1
    exact ⟨h2, e2.trans e1⟩
theorem RV.mono {v : V} {d : Val} (len : S.length ≤ S'.length) (ad : ∀ i, i < S.length → wd'.ad i = wd.ad i) (keep : ∀ b o, H b = some o → ¬ Own wd S.length b → H' b = some o ∧ ¬ Own wd' S'.length b)
    (r : RV K wd S.length H v d) : RV K wd' S'.length H' v d := by
  cases d with
  | pd d => exact Rp.mono keep d v r
  | obj h => exact ⟨Nat.lt_of_lt_of_le r.1 len, by rw [ad h r.1]; exact r.2⟩
theorem RV.ext {v : V} {d : Val} (x : Ext wd S H wd' S' H') (r : RV K wd S.length H v d) : RV K wd' S'.length H' v d := r.mono x.len x.ad x.keep
theorem RVs.ext : ∀ {vs : List V} {ds : List Val}, Ext wd S H wd' S' H' → RVs K wd S.length H vs ds → RVs K wd' S'.length H' vs ds
  | _, _, _, .nil => .nil
  | _, _, x, .cons r t => .cons (r.ext x) (RVs.ext x t)
theorem RVs.length {n : Nat} : ∀ {ds : List Val} {vs : List V}, RVs K wd n H vs ds → vs.length = ds.length
  | _, _, .nil => rfl
  | _, _, .cons _ t => congrArg (· + 1) (RVs.length t)
theorem RVs.get {n : Nat} : ∀ {ds : List Val} {vs : List V} {i : Nat} {d : Val}, RVs K wd n H vs ds → ds[i]? = some d → ∃ v, vs[i]? = some v ∧ RV K wd n H v d
  | _, _, _, _, .nil, e => by simp at e
  | _, _, 0, _, .cons r _, e => by simp at e; subst e; exact ⟨_, rfl, r⟩
  | _, _, i + 1, _, .cons _ t, e => by
    obtain ⟨v, h1, h2⟩ := RVs.get (i := i) t (by simpa using e)
    exact ⟨v, by simpa using h1, h2⟩
theorem RVs.get' {n : Nat} : ∀ {ds : List Val} {vs : List V} {i : Nat} {v : V}, RVs K wd n H vs ds → vs[i]? = some v → ∃ d, ds[i]? = some d ∧ RV K wd n H v d
  | _, _, _, _, .nil, e => by simp at e
  | _, _, 0, _, .cons r _, e => by simp at e; subst e; exact ⟨_, rfl, r⟩
  | _, _, i + 1, _, .cons _ t, e => by
    obtain ⟨v, h1, h2⟩ := RVs.get' (i := i) t (by simpa using e)
    exact ⟨v, by simpa using h1, h2⟩
theorem RVs.set {n : Nat} : ∀ {ds : List Val} {vs : List V} (i : Nat) {v : V} {d : Val}, RVs K wd n H vs ds → RV K wd n H v d → RVs K wd n H (vs.set i v) (ds.set i d)
  | _, _, _, _, _, .nil, _ => .nil
  | _, _, 0, _, _, .cons _ t, r => .cons r t
  | _, _, i + 1, _, _, .cons q t, r => .cons q (RVs.set i t r)
theorem RVs.append {n : Nat} : ∀ {ds es : List Val} {vs us : List V}, RVs K wd n H vs ds → RVs K wd n H us es → RVs K wd n H (vs ++ us) (ds ++ es)
  | _, _, _, _, .nil, s => s
  | _, _, _, _, .cons r t, s => .cons r (RVs.append t s)
/-- all plain -/
theorem RVs.pds {n : Nat} : ∀ {ds : List PyData} {vs : List V}, RVs K wd n H vs (ds.map Val.pd) → RpAll K H (Own wd n) vs ds
  | [], _, h => by cases h; exact .nil
  | d :: ds, _, h => by
    cases h with
    | cons r t => exact .cons r (RVs.pds t)
theorem RpAll.rvs {n : Nat} : ∀ {ds : List PyData} {vs : List V}, RpAll K H (Own wd n) vs ds → RVs K wd n H vs (ds.map Val.pd)
  | [], _, h => by cases h; exact .nil
  | d :: ds, _, h => by
    cases h with
    | cons r t => exact .cons r (RpAll.rvs t)
theorem PKV.mono {κ : Type} {R R' : V → PyData → Prop} (k : ∀ v d, R v d → R' v d) {ks : List (κ × V)} {kvs : List (κ × PyData)} (h : PKV R ks kvs) : PKV R' ks kvs :=
  Paired.mapP h fun _ _ ⟨a, b⟩ => ⟨a, k _ _ b⟩
theorem PKW.mono {κ : Type} {R R' : V → Val → Prop} (k : ∀ v d, R v d → R' v d) {ks : List (κ × V)} {kvs : List (κ × Val)} (h : PKW R ks kvs) : PKW R' ks kvs :=
  Paired.mapP h fun _ _ ⟨a, b⟩ => ⟨a, k _ _ b⟩
/-- an object's likeness stays when its cells stay and the frozen things stay -/
theorem OR.mono {a : Addr} {fp : Addr → Prop} {o : Ob} (len : S.length ≤ S'.length) (ad : ∀ i, i < S.length → wd'.ad i = wd.ad i) (keep : ∀ b o, H b = some o → ¬ Own wd S.length b → H' b = some o ∧ ¬ Own wd' S'.length b)
    (hfp : ∀ b, fp b → H' b = H b) (r : OR K cl wd S.length H a fp o) : OR K cl wd' S'.length H' a fp o := by
  have kR : ∀ v d, Rp K H (Own wd S.length) v d → Rp K H' (Own wd' S'.length) v d := fun v d => Rp.mono keep d v
  have kV : ∀ v d, RV K wd S.length H v d → RV K wd' S'.length H' v d := fun v d h => h.mono len ad keep
  have kVs : ∀ vs ds, RVs K wd S.length H vs ds → RVs K wd' S'.length H' vs ds := fun vs ds h => by
    induction h with
    | nil => exact .nil
    | cons r _ ih => exact .cons (kV _ _ r) ih
  cases o with
  | lst xs => obtain ⟨f, vs, e, q⟩ := r; exact ⟨f, vs, by rw [hfp a ((f a).mpr rfl)]; exact e, RpAll.mono keep _ _ q⟩
  | lsv xs => obtain ⟨f, vs, e, q⟩ := r; exact ⟨f, vs, by rw [hfp a ((f a).mpr rfl)]; exact e, kVs _ _ q⟩
  | dK xs => obtain ⟨f, vs, e, q⟩ := r; exact ⟨f, vs, by rw [hfp a ((f a).mpr rfl)]; exact e, PKV.mono kR q⟩
  | dT xs => obtain ⟨f, vs, e, q⟩ := r; exact ⟨f, vs, by rw [hfp a ((f a).mpr rfl)]; exact e, PKV.mono kR q⟩
  | dV xs => obtain ⟨f, vs, e, q⟩ := r; exact ⟨f, vs, by rw [hfp a ((f a).mpr rfl)]; exact e, PKW.mono kV q⟩
  | ins c fs =>
    obtain ⟨dx, f, e1, gs, e2, q⟩ := r
    exact ⟨dx, f, by rw [hfp dx ((f dx).mpr (.inr rfl))]; exact e1, gs, by rw [hfp a ((f a).mpr (.inl rfl))]; exact e2, PKW.mono kV q⟩
  | lock u =>
    cases u with
    | lst xs => obtain ⟨f, vs, e, q⟩ := r; exact ⟨f, vs, by rw [hfp a ((f a).mpr rfl)]; exact e, RpAll.mono keep _ _ q⟩
    | lsv xs => obtain ⟨f, vs, e, q⟩ := r; exact ⟨f, vs, by rw [hfp a ((f a).mpr rfl)]; exact e, kVs _ _ q⟩
    | dK xs => obtain ⟨f, od, vs, e, q⟩ := r; exact ⟨f, od, vs, by rw [hfp a ((f a).mpr rfl)]; exact e, PKV.mono kR q⟩
    | _ => exact r.elim
  | scr xs => obtain ⟨f, vs, e, q⟩ := r; exact ⟨f, vs, e.mono keep, RpAll.mono keep _ _ q⟩
  | dead => exact r
theorem WR.mono_all (w : WR K cl wd S H) (hk : ∀ b o, H b = some o → H' b = some o) : WR K cl wd S H' where
  ob := fun i o e => OR.mono (Nat.le_refl _) (fun _ _ => rfl) (fun b o h n => ⟨hk b o h, n⟩) (fun b hb => by
    obtain ⟨u, hu⟩ := w.lv i b (lt_of_get e) hb
    rw [hu]; exact hk b u hu) (w.ob i o e)
  dj := w.dj
  lv := fun i b hi hb => by
    obtain ⟨u, hu⟩ := w.lv i b hi hb
    exact ⟨u, hk b u hu⟩
  hd := fun b h => by
    obtain ⟨⟨u, hu⟩, z⟩ := w.hd b h
    exact ⟨⟨u, hk b u hu⟩, z⟩
theorem Ext.all (w : WR K cl wd S H) (hk : ∀ b o, H b = some o → H' b = some o) : Ext wd S H wd S H' :=
  ⟨Nat.le_refl _, fun _ _ => rfl, fun b o h n => ⟨hk b o h, n⟩, fun i o e => ⟨e, by
    have r := w.ob i _ e
    cases o with
    | lst xs => obtain ⟨f, vs, e, q⟩ := r; rw [e]; exact hk _ _ e
    | lsv xs => obtain ⟨f, vs, e, q⟩ := r; rw [e]; exact hk _ _ e
    | dK xs => obtain ⟨f, od, vs, e, q⟩ := r; rw [e]; exact hk _ _ e
    | _ => exact r.elim⟩, fun b h => ⟨h, by
    obtain ⟨⟨u, hu⟩, _⟩ := w.hd b h
    rw [hu]
    exact hk b u hu⟩⟩
/-- a new frozen thing -/
theorem upd_keeps {p : Addr} {o : HO} (hp : H p = none) : ∀ b u, H b = some u → upd H p o b = some u := fun b u e => by
  rw [upd_ne (ne_of_none e hp)]; exact e
theorem WR.fresh (w : WR K cl wd S H) {p : Addr} (hp : H p = none) : ¬ Own wd S.length p := by
  rintro (h | ⟨i, hi, hf⟩)
  · obtain ⟨⟨u, hu⟩, _⟩ := w.hd p h
    rw [hu] at hp; cases hp
  · obtain ⟨u, hu⟩ := w.lv i p hi hf
    rw [hu] at hp; cases hp
/-- a new object of the store -/
def Wd.push (wd : Wd) (n : Nat) (p : Addr) (f : Addr → Prop) : Wd := ⟨fun i => if i = n then p else wd.ad i, fun i => if i = n then f else wd.fp i, wd.hid⟩
theorem push_own {n : Nat} {p : Addr} {f : Addr → Prop} {b : Addr} : Own (wd.push n p f) (n + 1) b ↔ Own wd n b ∨ f b := by
  constructor
  · rintro (h | ⟨i, hi, hf⟩)
    · exact .inl (.inl h)
    by_cases e : i = n
    · subst e
      right
      simpa [Wd.push] using hf
    · left
      exact .inr ⟨i, by omega, by simpa [Wd.push, e] using hf⟩
  · rintro ((h | ⟨i, hi, hf⟩) | hf)
    · exact .inl h
    · have ne : i ≠ n := by omega
      exact .inr ⟨i, by omega, by simpa [Wd.push, ne] using hf⟩
    · exact .inr ⟨n, by omega, by simpa [Wd.push] using hf⟩
theorem WR.push (w : WR K cl wd S H) {o : Ob} {p : Addr} {f : Addr → Prop} (hk : ∀ b u, H b = some u → H' b = some u) (hf : ∀ b, f b → H b = none ∧ ∃ u, H' b = some u)
    (new : OR K cl (wd.push S.length p f) (S.length + 1) H' p f o) : WR K cl (wd.push S.length p f) (S ++ [o]) H' ∧ Ext wd S H (wd.push S.length p f) (S ++ [o]) H' := by
  have len : (S ++ [o]).length = S.length + 1 := by simp
  have ad : ∀ i, i < S.length → (wd.push S.length p f).ad i = wd.ad i := fun i hi => by
    have : i ≠ S.length := by omega
    simp [Wd.push, this]
  have fpo : ∀ i, i < S.length → (wd.push S.length p f).fp i = wd.fp i := fun i hi => by
    have : i ≠ S.length := by omega
    simp [Wd.push, this]
  have fpn : (wd.push S.length p f).fp S.length = f := by simp [Wd.push]
  have adn : (wd.push S.length p f).ad S.length = p := by simp [Wd.push]
  have keep : ∀ b u, H b = some u → ¬ Own wd S.length b → H' b = some u ∧ ¬ Own (wd.push S.length p f) (S ++ [o]).length b := fun b u e n => ⟨hk b u e, by
    rw [len, push_own]
    rintro (h | h)
    · exact n h
    · rw [(hf b h).1] at e; cases e⟩
  have wE : Ext wd S H (wd.push S.length p f) (S ++ [o]) H' := ⟨by omega, ad, keep, fun i u e => ⟨by rw [List.getElem?_append_left (lt_of_get e)]; exact e, ((Ext.all w hk).lock i u e).2⟩, fun b h => ⟨h, ((Ext.all w hk).hid b h).2⟩⟩
  refine ⟨⟨fun i u e => ?_, fun i j b hi hj h1 h2 => ?_, fun i b hi hb => ?_, fun b hb => ?_⟩, wE⟩
  · by_cases hi : i < S.length
    · rw [List.getElem?_append_left hi] at e
      rw [ad i hi, fpo i hi]
      exact OR.mono wE.len ad keep (fun b hb => by
        obtain ⟨v, hv⟩ := w.lv i b hi hb
        rw [hv]; exact hk b v hv) (w.ob i u e)
    · have hi2 : i < (S ++ [o]).length := lt_of_get e
      have : i = S.length := by omega
      subst this
      rw [List.getElem?_append_right (Nat.le_refl _)] at e
      simp at e
      subst e
      rw [adn, fpn, len]
      exact new
  · rw [len] at hi hj
    by_cases ei : i = S.length
    · by_cases ej : j = S.length
      · rw [ei, ej]
      · rw [ei, fpn] at h1
        rw [fpo j (by omega)] at h2
        obtain ⟨u, hu⟩ := w.lv j b (by omega) h2
        rw [(hf b h1).1] at hu; cases hu
    · by_cases ej : j = S.length
      · rw [ej, fpn] at h2
        rw [fpo i (by omega)] at h1
        obtain ⟨u, hu⟩ := w.lv i b (by omega) h1
        rw [(hf b h2).1] at hu; cases hu
      · rw [fpo i (by omega)] at h1
        rw [fpo j (by omega)] at h2
        exact w.dj i j b (by omega) (by omega) h1 h2
  · rw [len] at hi
    by_cases ei : i = S.length
    · rw [ei, fpn] at hb
      exact (hf b hb).2
    · rw [fpo i (by omega)] at hb
      obtain ⟨u, hu⟩ := w.lv i b (by omega) hb
      exact ⟨u, hk b u hu⟩
  · obtain ⟨⟨u, hu⟩, z⟩ := w.hd b hb
    refine ⟨⟨u, hk b u hu⟩, fun i hi q => ?_⟩
    rw [len] at hi
    by_cases ei : i = S.length
    · rw [ei, fpn] at q
      rw [(hf b q).1] at hu; cases hu
    · rw [fpo i (by omega)] at q
      exact z i (by omega) q
/-- an object is changed; it may own new cells -/
def Wd.own (wd : Wd) (h : Nat) (f : Addr → Prop) : Wd := ⟨wd.ad, fun i => if i = h then f else wd.fp i, wd.hid⟩
theorem WR.set (w : WR K cl wd S H) {h : Nat} {o o' : Ob} {f : Addr → Prop} (e : S[h]? = some o) (nl : ∀ u, o ≠ .lock u) (hk : ∀ b, ¬ wd.fp h b → ∀ u, H b = some u → H' b = some u)
    (hf : ∀ b, f b → (wd.fp h b ∨ H b = none) ∧ ∃ u, H' b = some u) (new : OR K cl (wd.own h f) S.length H' (wd.ad h) f o') :
    WR K cl (wd.own h f) (S.set h o') H' ∧ Ext wd S H (wd.own h f) (S.set h o') H' := by
  have hh : h < S.length := lt_of_get e
  have len : (S.set h o').length = S.length := by simp
  have fpo : ∀ i, i ≠ h → (wd.own h f).fp i = wd.fp i := fun i hi => by simp [Wd.own, hi]
  have fpn : (wd.own h f).fp h = f := by simp [Wd.own]
  have keep : ∀ b u, H b = some u → ¬ Own wd S.length b → H' b = some u ∧ ¬ Own (wd.own h f) (S.set h o').length b := fun b u eb n => by
    refine ⟨hk b (fun q => n (.inr ⟨h, hh, q⟩)) u eb, ?_⟩
    rw [len]
    rintro (q | ⟨i, hi, q⟩)
    · exact n (.inl q)
    by_cases ei : i = h
    · subst ei
      rw [fpn] at q
      rcases (hf b q).1 with z | z
      · exact n (.inr ⟨i, hi, z⟩)
      · rw [z] at eb; cases eb
    · rw [fpo i ei] at q
      exact n (.inr ⟨i, hi, q⟩)
  have oth : ∀ i b, i < S.length → i ≠ h → wd.fp i b → H' b = H b := fun i b hi ne hb => by
    obtain ⟨u, hu⟩ := w.lv i b hi hb
    rw [hu]
    exact hk b (fun q => ne (w.dj i h b hi hh hb q)) u hu
  have hh2 : ∀ b, wd.hid b → H' b = H b := fun b hb => by
    obtain ⟨⟨u, hu⟩, z⟩ := w.hd b hb
    rw [hu]
    exact hk b (z h hh) u hu
  refine ⟨⟨fun i u eu => ?_, fun i j b hi hj h1 h2 => ?_, fun i b hi hb => ?_, fun b hb => ?_⟩, ⟨by omega, fun _ _ => rfl, keep, fun i u eu => ?_, fun b h => ⟨h, hh2 b h⟩⟩⟩
  · by_cases ei : i = h
    · subst ei
      rw [List.getElem?_set_self hh] at eu
      cases eu
      rw [fpn, len]
      exact new
    · rw [List.getElem?_set_ne (Ne.symm ei)] at eu
      rw [fpo i ei]
      exact OR.mono (S := S) (wd := wd) (S' := S.set h o') (wd' := wd.own h f) (by omega) (fun _ _ => rfl) keep (fun b hb => oth i b (lt_of_get eu) ei hb) (w.ob i u eu)
  · rw [len] at hi hj
    by_cases ei : i = h
    · by_cases ej : j = h
      · rw [ei, ej]
      · rw [ei, fpn] at h1
        rw [fpo j ej] at h2
        rcases (hf b h1).1 with z | z
        · exact absurd (w.dj j h b hj hh h2 z) ej
        · obtain ⟨u, hu⟩ := w.lv j b hj h2
          rw [z] at hu; cases hu
    · by_cases ej : j = h
      · rw [ej, fpn] at h2
        rw [fpo i ei] at h1
        rcases (hf b h2).1 with z | z
        · exact absurd (w.dj i h b hi hh h1 z) ei
        · obtain ⟨u, hu⟩ := w.lv i b hi h1
          rw [z] at hu; cases hu
      · rw [fpo i ei] at h1
        rw [fpo j ej] at h2
        exact w.dj i j b hi hj h1 h2
  · rw [len] at hi
    by_cases ei : i = h
    · rw [ei, fpn] at hb
      exact (hf b hb).2
    · rw [fpo i ei] at hb
      obtain ⟨u, hu⟩ := w.lv i b hi hb
      exact ⟨u, by rw [oth i b hi ei hb]; exact hu⟩
  · obtain ⟨⟨u, hu⟩, z⟩ := w.hd b hb
    refine ⟨⟨u, by rw [hh2 b hb]; exact hu⟩, fun i hi q => ?_⟩
    rw [len] at hi
    by_cases ei : i = h
    · rw [ei, fpn] at q
      rcases (hf b q).1 with y | y
      · exact z h hh y
      · rw [y] at hu; cases hu
    · rw [fpo i ei] at q
      exact z i hi q
  · have ne : i ≠ h := by
      rintro rfl
      rw [e] at eu
      cases eu
      exact nl u rfl
    refine ⟨by rw [List.getElem?_set_ne (Ne.symm ne)]; exact eu, ?_⟩
    have r := w.ob i _ eu
    refine oth i _ (lt_of_get eu) ne ?_
    cases u with
    | lst xs => obtain ⟨f, _⟩ := r; exact (f _).mpr rfl
    | lsv xs => obtain ⟨f, _⟩ := r; exact (f _).mpr rfl
    | dK xs => obtain ⟨f, _⟩ := r; exact (f _).mpr rfl
    | _ => exact r.elim
end
end DM
set_option Elab.async false
set_option linter.all false
set_option maxRecDepth 100000
namespace DM
open PySem L2
/-! ### the judgements -/
abbrev DEnv := List (Option Val)
abbrev M (α : Type) := Store → Option (α × Store)
inductive Fl where
  | nx (ρ : DEnv) | rt (d : Val) | bk (ρ : DEnv) | ct (ρ : DEnv)
def bindR {α β : Type} (r : Option (α × Store)) (k : α → M β) : Option (β × Store) := match r with
  | none => none
  | some (a, S) => k a S
@[simp] theorem bindR_none {α β : Type} (k : α → M β) : bindR none k = none := rfl
@[simp] theorem bindR_some {α β : Type} (a : α) (S : Store) (k : α → M β) : bindR (some (a, S)) k = k a S := rfl
theorem bindR_inv {α β : Type} {r : Option (α × Store)} {k : α → M β} {y : β × Store} (h : bindR r k = some y) : ∃ a S, r = some (a, S) ∧ k a S = some y := by
  cases r with
  | none => cases h
  | some p => exact ⟨p.1, p.2, rfl, h⟩
structure ER (K : PySem.W.Frag) (wd : Wd) (n : Nat) (H : Hp) (σ : St) (ρ : DEnv) : Prop where
  len : σ.length = ρ.length
  at' : ∀ (i : Nat) (d : Val), ρ[i]? = some (some d) → ∃ v, σ[i]? = some (some v) ∧ RV K wd n H v d
section
variable {K : PySem.W.Frag} {cl : Nat → Addr} {wd wd' : Wd} {S S' : Store} {H H' : Hp} {σ : St} {ρ : DEnv}
theorem ER.ext (x : Ext wd S H wd' S' H') (r : ER K wd S.length H σ ρ) : ER K wd' S'.length H' σ ρ :=
  ⟨r.len, fun i d e => by
    obtain ⟨v, h1, h2⟩ := r.at' i d e
    exact ⟨v, h1, h2.ext x⟩⟩
theorem ER.set {n : Nat} (r : ER K wd n H σ ρ) (i : Nat) {v : V} {d : Val} (q : RV K wd n H v d) : ER K wd n H (σ.set i (some v)) (ρ.set i (some d)) :=
  ⟨by simp [r.len], fun j e h => by
    by_cases ij : i = j
    · subst ij
      have hi : i < ρ.length := by have := lt_of_get h; simpa using this
      rw [List.getElem?_set_self hi] at h
      cases h
      exact ⟨v, by rw [List.getElem?_set_self (by rw [r.len]; exact hi)], q⟩
    · rw [List.getElem?_set_ne ij] at h
      obtain ⟨w, h1, h2⟩ := r.at' j e h
      exact ⟨w, by rw [List.getElem?_set_ne ij]; exact h1, h2⟩⟩
end
section
variable (K : PySem.W.Frag) (cl : Nat → Addr)
def SimE (t : TE) (f : DEnv → M Val) : Prop := ∀ (wd : Wd) (σ : St) (ρ : DEnv) (S : Store) (H : Hp) (Q : VK) (d : Val) (S' : Store), WR K cl wd S H → ER K wd S.length H σ ρ → f ρ S = some (d, S') →
  (∀ wd' v H', WR K cl wd' S' H' → Ext wd S H wd' S' H' → RV K wd' S'.length H' v d → Q v H') → t σ H Q
def SimT (t : TT) (f : DEnv → M Bool) : Prop := ∀ (wd : Wd) (σ : St) (ρ : DEnv) (S : Store) (H : Hp) (Q : Bool → Hp → Prop) (b : Bool) (S' : Store), WR K cl wd S H → ER K wd S.length H σ ρ → f ρ S = some (b, S') →
  (∀ wd' H', WR K cl wd' S' H' → Ext wd S H wd' S' H' → Q b H') → t σ H Q
def SimA (t : TA) (f : DEnv → M (List Val)) : Prop := ∀ (wd : Wd) (σ : St) (ρ : DEnv) (S : Store) (H : Hp) (Q : List V → Hp → Prop) (ds : List Val) (S' : Store), WR K cl wd S H → ER K wd S.length H σ ρ → f ρ S = some (ds, S') →
  (∀ wd' vs H', WR K cl wd' S' H' → Ext wd S H wd' S' H' → RVs K wd' S'.length H' vs ds → Q vs H') → t σ H Q
def EndOk (D : Ends) (wd : Wd) (S : Store) (H : Hp) (S' : Store) : Fl → Prop
  | .nx ρ' => ∀ wd' σ' H', WR K cl wd' S' H' → Ext wd S H wd' S' H' → ER K wd' S'.length H' σ' ρ' → D.nx σ' H'
  | .rt d => ∀ wd' v H', WR K cl wd' S' H' → Ext wd S H wd' S' H' → RV K wd' S'.length H' v d → D.rt v H'
  | .bk ρ' => ∀ wd' σ' H', WR K cl wd' S' H' → Ext wd S H wd' S' H' → ER K wd' S'.length H' σ' ρ' → D.bk σ' H'
  | .ct ρ' => ∀ wd' σ' H', WR K cl wd' S' H' → Ext wd S H wd' S' H' → ER K wd' S'.length H' σ' ρ' → D.ct σ' H'
def SimS (t : TS) (g : DEnv → M Fl) : Prop := ∀ (wd : Wd) (σ : St) (ρ : DEnv) (S : Store) (H : Hp) (D : Ends) (fl : Fl) (S' : Store), WR K cl wd S H → ER K wd S.length H σ ρ → g ρ S = some (fl, S') →
  EndOk K cl D wd S H S' fl → t D σ H
/-- an assignment's target: the value, the environment behind -/
def SimG (t : TG) (g : Val → DEnv → M DEnv) : Prop := ∀ (wd : Wd) (σ : St) (ρ : DEnv) (S : Store) (H : Hp) (v : V) (d : Val) (Q : St → Hp → Prop) (ρ' : DEnv) (S' : Store), WR K cl wd S H → ER K wd S.length H σ ρ → RV K wd S.length H v d → g d ρ S = some (ρ', S') →
  (∀ wd' σ' H', WR K cl wd' S' H' → Ext wd S H wd' S' H' → ER K wd' S'.length H' σ' ρ' → Q σ' H') → t v σ H Q
def SimGs (t : TGs) (g : List Val → DEnv → M DEnv) : Prop := ∀ (wd : Wd) (σ : St) (ρ : DEnv) (S : Store) (H : Hp) (vs : List V) (ds : List Val) (Q : St → Hp → Prop) (ρ' : DEnv) (S' : Store), WR K cl wd S H → ER K wd S.length H σ ρ → RVs K wd S.length H vs ds → g ds ρ S = some (ρ', S') →
  (∀ wd' σ' H', WR K cl wd' S' H' → Ext wd S H wd' S' H' → ER K wd' S'.length H' σ' ρ' → Q σ' H') → t vs σ H Q
/-- an operation on values -/
def SimU (r : V → Hp → VK → Prop) (u : Val → M Val) : Prop := ∀ (wd : Wd) (S : Store) (H : Hp) (x : V) (dx : Val) (Q : VK) (d : Val) (S' : Store), WR K cl wd S H → RV K wd S.length H x dx → u dx S = some (d, S') →
  (∀ wd' v H', WR K cl wd' S' H' → Ext wd S H wd' S' H' → RV K wd' S'.length H' v d → Q v H') → r x H Q
def SimO (r : R2) (u : Val → Val → M Val) : Prop := ∀ (wd : Wd) (S : Store) (H : Hp) (x y : V) (dx dy : Val) (Q : VK) (d : Val) (S' : Store), WR K cl wd S H → RV K wd S.length H x dx → RV K wd S.length H y dy → u dx dy S = some (d, S') →
  (∀ wd' v H', WR K cl wd' S' H' → Ext wd S H wd' S' H' → RV K wd' S'.length H' v d → Q v H') → r x y H Q
def SimC (r : List V → Hp → VK → Prop) (u : List Val → M Val) : Prop := ∀ (wd : Wd) (S : Store) (H : Hp) (xs : List V) (ds : List Val) (Q : VK) (d : Val) (S' : Store), WR K cl wd S H → RVs K wd S.length H xs ds → u ds S = some (d, S') →
  (∀ wd' v H', WR K cl wd' S' H' → Ext wd S H wd' S' H' → RV K wd' S'.length H' v d → Q v H') → r xs H Q
end
def DE (X : Cx) (cl : Nat → Addr) (e : Expr) (f : DEnv → M Val) : Prop := ∃ t, PE X e t ∧ SimE X.K cl t f
def DT (X : Cx) (cl : Nat → Addr) (e : Expr) (f : DEnv → M Bool) : Prop := ∃ t, PT X e t ∧ SimT X.K cl t f
def DW (X : Cx) (cl : Nat → Addr) (e : Expr) (f : DEnv → M Bool) : Prop := ∃ t, PW X e t ∧ SimT X.K cl t f
def DA (X : Cx) (cl : Nat → Addr) (es : List Expr) (f : DEnv → M (List Val)) : Prop := ∃ t, PA X es t ∧ SimA X.K cl t f
def DS (X : Cx) (cl : Nat → Addr) (st : Stmt) (g : DEnv → M Fl) : Prop := ∃ t, PS X st t ∧ SimS X.K cl t g
def DSs (X : Cx) (cl : Nat → Addr) (sts : List Stmt) (g : DEnv → M Fl) : Prop := ∃ t, PSs X sts t ∧ SimS X.K cl t g
def DG (X : Cx) (cl : Nat → Addr) (tg : Expr) (g : Val → DEnv → M DEnv) : Prop := ∃ t, PG X tg t ∧ SimG X.K cl t g
def DGs (X : Cx) (cl : Nat → Addr) (tgs : List Expr) (g : List Val → DEnv → M DEnv) : Prop := ∃ t, PGs X tgs t ∧ SimGs X.K cl t g
/-! ### expressions -/
def eVar (i : Nat) : DEnv → M Val := fun ρ S => match ρ[i]? with
  | some (some d) => some (d, S)
  | _ => none
def eC (d : PyData) : DEnv → M Val := fun _ S => some (.pd d, S)
def eU (u : Val → M Val) (fa : DEnv → M Val) : DEnv → M Val := fun ρ S => bindR (fa ρ S) fun a S1 => u a S1
def eO (u : Val → Val → M Val) (fa fb : DEnv → M Val) : DEnv → M Val := fun ρ S => bindR (fa ρ S) fun a S1 => bindR (fb ρ S1) fun b S2 => u a b S2
def aNil : DEnv → M (List Val) := fun _ S => some ([], S)
def aCons (fa : DEnv → M Val) (fr : DEnv → M (List Val)) : DEnv → M (List Val) := fun ρ S => bindR (fa ρ S) fun a S1 => bindR (fr ρ S1) fun r S2 => some (a :: r, S2)
def eA (u : List Val → M Val) (fa : DEnv → M (List Val)) : DEnv → M Val := fun ρ S => bindR (fa ρ S) fun a S1 => u a S1
/-- a test by a truth -/
def tVal (fa : DEnv → M Val) : DEnv → M Bool := fun ρ S => bindR (fa ρ S) fun a S1 => match a with
  | .pd (.bool b) => some (b, S1)
  | _ => none
def tAnd (fa fb : DEnv → M Bool) : DEnv → M Bool := fun ρ S => bindR (fa ρ S) fun a S1 => if a = true then fb ρ S1 else some (false, S1)
def tOr (fa fb : DEnv → M Bool) : DEnv → M Bool := fun ρ S => bindR (fa ρ S) fun a S1 => if a = true then some (true, S1) else fb ρ S1
def tNot (fa : DEnv → M Bool) : DEnv → M Bool := fun ρ S => bindR (fa ρ S) fun a S1 => some (!a, S1)
def eAnd (fa fb : DEnv → M Val) : DEnv → M Val := fun ρ S => bindR (fa ρ S) fun a S1 => match a with
  | .pd (.bool true) => fb ρ S1
  | .pd (.bool false) => some (.pd (.bool false), S1)
  | _ => none
def eOr (fa fb : DEnv → M Val) : DEnv → M Val := fun ρ S => bindR (fa ρ S) fun a S1 => match a with
  | .pd (.bool true) => some (.pd (.bool true), S1)
  | .pd (.bool false) => fb ρ S1
  | _ => none
def eNot (fa : DEnv → M Val) : DEnv → M Val := fun ρ S => bindR (fa ρ S) fun a S1 => match a with
  | .pd (.bool b) => some (.pd (.bool (!b)), S1)
  | _ => none
def eIf (c : DEnv → M Bool) (fa fb : DEnv → M Val) : DEnv → M Val := fun ρ S => bindR (c ρ S) fun b S1 => if b = true then fa ρ S1 else fb ρ S1
section
variable {X : Cx} {cl : Nat → Addr} {pos : Pos}
theorem de_var (i : Nat) {x : Str} (hN : X.N[i]? = some x := by rfl) (hv : Vis X.env.scope x := by first | exact Or.inl rfl | exact Or.inr (Or.inl rfl) | exact Or.inr (Or.inr rfl)) (hd : (x == ("__debug__" : Str)) = false := by decide)
    (hcd : (x == ("__classdict__" : Str)) = false := by decide) : DE X cl (.Name x pos) (eVar i) := by
  refine ⟨_, pe_var hN hv hd hcd, fun wd σ ρ S H Q d S' w r h k => ?_⟩
  unfold eVar at h
  split at h
  · rename_i d' e
    cases h
    obtain ⟨v, h1, h2⟩ := r.at' i _ e
    exact ⟨v, h1, k wd v H w .refl h2⟩
  · cases h
theorem de_int {i j} : DE X cl (.Constant (.int i) j pos) (eC (.int i)) := ⟨_, pe_int, fun wd σ ρ S H Q d S' w r h k => by cases h; exact k wd _ H w .refl (.int i)⟩
theorem de_bl {b j} : DE X cl (.Constant (.bool b) j pos) (eC (.bool b)) := ⟨_, pe_bl, fun wd σ ρ S H Q d S' w r h k => by cases h; exact k wd _ H w .refl (.bl b)⟩
theorem de_non {j} : DE X cl (.Constant .none j pos) (eC .none) := ⟨_, pe_non, fun wd σ ρ S H Q d S' w r h k => by cases h; exact k wd _ H w .refl .non⟩
theorem de_str {x j} : DE X cl (.Constant (.str x) j pos) (eC (.str x)) := ⟨_, pe_str, fun wd σ ρ S H Q d S' w r h k => by cases h; exact k wd _ H w .refl (.str x)⟩
/-- a module's constant -/
theorem de_globI {x : Str} {i : Int} {t : Tok} (hg : Gl X x) (hm : X.mg x = some (.int i t)) (hd : (x == ("__debug__" : Str)) = false := by decide) : DE X cl (.Name x pos) (eC (.int i)) :=
  ⟨_, pe_glob (v := .int i) hg hm ⟨t, rfl⟩ hd, fun wd σ ρ S H Q d S' w r h k => by cases h; exact k wd _ H w .refl (.int i)⟩
theorem de_globS {x : Str} {i : Str} {t : Tok} (hg : Gl X x) (hm : X.mg x = some (.str i t)) (hd : (x == ("__debug__" : Str)) = false := by decide) : DE X cl (.Name x pos) (eC (.str i)) :=
  ⟨_, pe_glob (v := .str i) hg hm ⟨t, rfl⟩ hd, fun wd σ ρ S H Q d S' w r h k => by cases h; exact k wd _ H w .refl (.str i)⟩
/-- data of the text's own top -/
theorem de_globD {x : Str} {v : V} {u : Value} {d0 : PyData} (hg : Gl X x) (hm : X.mg x = some u) (r : RelV v u) (hr : ∀ H O, Rp X.K H O v d0) (hd : (x == ("__debug__" : Str)) = false := by decide) : DE X cl (.Name x pos) (eC d0) :=
  ⟨_, pe_glob (v := v) hg hm r hd, fun wd σ ρ S H Q d S' w r h k => by cases h; exact k wd _ H w .refl (hr _ _)⟩
variable {a b c : Expr} {fa fb : DEnv → M Val} {es : List Expr} {fs : DEnv → M (List Val)}
theorem sim_o {K : PySem.W.Frag} {r : R2} {u : Val → Val → M Val} {ta tb : TE} (hu : SimO K cl r u) (ha : SimE K cl ta fa) (hb : SimE K cl tb fb) : SimE K cl (tOp r ta tb) (eO u fa fb) := fun wd σ ρ S H Q d S' w q h k => by
  obtain ⟨x, S1, h1, h⟩ := bindR_inv h
  obtain ⟨y, S2, h2, h⟩ := bindR_inv h
  refine ha wd σ ρ S H _ x S1 w q h1 fun wd1 v1 H1 w1 x1 r1 => ?_
  refine hb wd1 σ ρ S1 H1 _ y S2 w1 (q.ext x1) h2 fun wd2 v2 H2 w2 x2 r2 => ?_
  exact hu wd2 S2 H2 v1 v2 x y Q d S' w2 (r1.ext x2) r2 h fun wd3 v3 H3 w3 x3 r3 => k wd3 v3 H3 w3 ((x1.trans x2).trans x3) r3
theorem de_op {op : Operator} {r : R2} {u : Val → Val → M Val} (ho : OpR X (binaryOp op) r) (hu : SimO X.K cl r u) (ha : DE X cl a fa) (hb : DE X cl b fb) : DE X cl (.BinOp a op b pos) (eO u fa fb) := by
  obtain ⟨ta, pa, sa⟩ := ha
  obtain ⟨tb, pb, sb⟩ := hb
  exact ⟨_, pe_op ho pa pb, sim_o hu sa sb⟩
theorem de_cmp {op : CmpOp} {r : R2} {u : Val → Val → M Val} (ho : OpR X (compareOp op) r) (hu : SimO X.K cl r u) (ha : DE X cl a fa) (hb : DE X cl b fb) (hm : behindInMarks op b = false := by first | exact nobehind _ (by decide) (by decide) | rfl) : DE X cl (.Compare a [op] [b] pos) (eO u fa fb) := by
  obtain ⟨ta, pa, sa⟩ := ha
  obtain ⟨tb, pb, sb⟩ := hb
  exact ⟨_, pe_cmpR ho pa pb hm, sim_o hu sa sb⟩
theorem sim_tB {K : PySem.W.Frag} {ta : TE} (ha : SimE K cl ta fa) : SimT K cl (tB ta) (tVal fa) := fun wd σ ρ S H Q d S' w q h k => by
  obtain ⟨x, S1, h1, h⟩ := bindR_inv h
  refine ha wd σ ρ S H _ x S1 w q h1 fun wd1 v1 H1 w1 x1 r1 => ?_
  split at h
  · cases h
    cases r1
    exact ⟨_, rfl, k wd1 H1 w1 x1⟩
  · cases h
theorem dt_val (ha : DE X cl a fa) (he : ∀ whole, isTrue a X.env whole = (do let v ← whole; standAt a.pos; holding [v] (truthy v)) := by intro _; rfl) : DT X cl a (tVal fa) := by
  obtain ⟨ta, pa, sa⟩ := ha
  exact ⟨_, pt_val pa he, sim_tB sa⟩
theorem dt_cmp {op : CmpOp} {r : R2} {u : Val → Val → M Val} (ho : OpR X (compareOp op) r) (hu : SimO X.K cl r u) (ha : DE X cl a fa) (hb : DE X cl b fb) (hm : behindInMarks op b = false := by first | exact nobehind _ (by decide) (by decide) | rfl) : DT X cl (.Compare a [op] [b] pos) (tVal (eO u fa fb)) := by
  obtain ⟨ta, pa, sa⟩ := ha
  obtain ⟨tb, pb, sb⟩ := hb
  exact ⟨_, pt_cmpR ho pa pb hm, sim_tB (sim_o hu sa sb)⟩
/-- a < b < c -/
def eChain (u u' : Val → Val → M Val) (fa fb fc : DEnv → M Val) : DEnv → M Val := fun ρ S => bindR (fa ρ S) fun a S1 => bindR (fb ρ S1) fun b S2 => bindR (u a b S2) fun z S3 => match z with
  | .pd (.bool true) => bindR (fc ρ S3) fun c S4 => u' b c S4
  | .pd (.bool false) => some (.pd (.bool false), S3)
  | _ => none
theorem sim_chain {K : PySem.W.Frag} {r r' : R2} {u u' : Val → Val → M Val} {fc : DEnv → M Val} {ta tb tc : TE} (hu : SimO K cl r u) (hu' : SimO K cl r' u') (ha : SimE K cl ta fa) (hb : SimE K cl tb fb) (hc : SimE K cl tc fc) : SimE K cl (tChain r r' ta tb tc) (eChain u u' fa fb fc) := fun wd σ ρ S H Q d S' w q h k => by
  obtain ⟨x, S1, h1, h⟩ := bindR_inv h
  obtain ⟨y, S2, h2, h⟩ := bindR_inv h
  obtain ⟨z, S3, h3, h⟩ := bindR_inv h
  refine ha wd σ ρ S H _ x S1 w q h1 fun wd1 v1 H1 w1 x1 r1 => ?_
  refine hb wd1 σ ρ S1 H1 _ y S2 w1 (q.ext x1) h2 fun wd2 v2 H2 w2 x2 r2 => ?_
  refine hu wd2 S2 H2 v1 v2 x y _ z S3 w2 (r1.ext x2) r2 h3 fun wd3 v3 H3 w3 x3 r3 => ?_
  split at h
  · cases r3
    refine ⟨true, rfl, iteT ?_⟩
    obtain ⟨t, S4, h4, h⟩ := bindR_inv h
    refine hc wd3 σ ρ S3 H3 _ t S4 w3 (((q.ext x1).ext x2).ext x3) h4 fun wd4 v4 H4 w4 x4 r4 => ?_
    exact hu' wd4 S4 H4 v2 v4 y t Q d S' w4 ((r2.ext x3).ext x4) r4 h fun wd5 v5 H5 w5 x5 r5 => k wd5 v5 H5 w5 ((((x1.trans x2).trans x3).trans x4).trans x5) r5
  · cases r3
    cases h
    exact ⟨false, rfl, iteF (k wd3 _ H3 w3 ((x1.trans x2).trans x3) (.bl false))⟩
  · cases h
theorem de_chain {op op' : CmpOp} {r r' : R2} {u u' : Val → Val → M Val} {fc : DEnv → M Val} (ho : OpR X (compareOp op) r) (hu : SimO X.K cl r u) (ho' : OpR X (compareOp op') r') (hu' : SimO X.K cl r' u') (ha : DE X cl a fa) (hb : DE X cl b fb) (hc : DE X cl c fc)
    (hm : lastMarks [op, op'] [b, c] = false := by with_unfolding_all rfl) : DE X cl (.Compare a [op, op'] [b, c] pos) (eChain u u' fa fb fc) := by
  obtain ⟨ta, pa, sa⟩ := ha
  obtain ⟨tb, pb, sb⟩ := hb
  obtain ⟨tc, pc, sc⟩ := hc
  exact ⟨_, pe_chain ho ho' pa pb pc hm, sim_chain hu hu' sa sb sc⟩
theorem dt_chain {op op' : CmpOp} {r r' : R2} {u u' : Val → Val → M Val} {fc : DEnv → M Val} (ho : OpR X (compareOp op) r) (hu : SimO X.K cl r u) (ho' : OpR X (compareOp op') r') (hu' : SimO X.K cl r' u') (ha : DE X cl a fa) (hb : DE X cl b fb) (hc : DE X cl c fc)
    (hm : lastMarks [op, op'] [b, c] = false := by with_unfolding_all rfl) : DT X cl (.Compare a [op, op'] [b, c] pos) (tVal (eChain u u' fa fb fc)) := by
  obtain ⟨ta, pa, sa⟩ := ha
  obtain ⟨tb, pb, sb⟩ := hb
  obtain ⟨tc, pc, sc⟩ := hc
  exact ⟨_, pt_chain ho ho' pa pb pc hm, sim_tB (sim_chain hu hu' sa sb sc)⟩
/-! and, or, not -/
variable {tx ty : DEnv → M Bool} {rest : List Expr}
theorem DW.dt (h : DW X cl a tx) : DT X cl a tx := by
  obtain ⟨t, p, s⟩ := h
  exact ⟨t, p.pt, s⟩
theorem dw_and1 (ha : DT X cl a tx) : DW X cl (.BoolOp .And [a] pos) tx := by
  obtain ⟨t, p, s⟩ := ha
  exact ⟨t, pw_and1 p, s⟩
theorem dw_or1 (ha : DT X cl a tx) : DW X cl (.BoolOp .Or [a] pos) tx := by
  obtain ⟨t, p, s⟩ := ha
  exact ⟨t, pw_or1 p, s⟩
theorem dw_and (ha : DT X cl a tx) (hb : DW X cl (.BoolOp .And (b :: rest) pos) ty) : DW X cl (.BoolOp .And (a :: b :: rest) pos) (tAnd tx ty) := by
  obtain ⟨t, p, s⟩ := ha
  obtain ⟨t', p', s'⟩ := hb
  refine ⟨_, pw_and p p', fun wd σ ρ S H Q d S' w q h k => ?_⟩
  obtain ⟨x, S1, h1, h⟩ := bindR_inv h
  refine s wd σ ρ S H _ x S1 w q h1 fun wd1 H1 w1 x1 => ?_
  cases x with
  | true => exact iteT (s' wd1 σ ρ S1 H1 Q d S' w1 (q.ext x1) h fun wd2 H2 w2 x2 => k wd2 H2 w2 (x1.trans x2))
  | false =>
    cases h
    exact iteF (k wd1 H1 w1 x1)
theorem dw_or (ha : DT X cl a tx) (hb : DW X cl (.BoolOp .Or (b :: rest) pos) ty) : DW X cl (.BoolOp .Or (a :: b :: rest) pos) (tOr tx ty) := by
  obtain ⟨t, p, s⟩ := ha
  obtain ⟨t', p', s'⟩ := hb
  refine ⟨_, pw_or p p', fun wd σ ρ S H Q d S' w q h k => ?_⟩
  obtain ⟨x, S1, h1, h⟩ := bindR_inv h
  refine s wd σ ρ S H _ x S1 w q h1 fun wd1 H1 w1 x1 => ?_
  cases x with
  | true =>
    cases h
    exact iteT (k wd1 H1 w1 x1)
  | false => exact iteF (s' wd1 σ ρ S1 H1 Q d S' w1 (q.ext x1) h fun wd2 H2 w2 x2 => k wd2 H2 w2 (x1.trans x2))
theorem dt_not (ha : DT X cl a tx) : DT X cl (.UnaryOp .Not a pos) (tNot tx) := by
  obtain ⟨t, p, s⟩ := ha
  refine ⟨_, pt_not p, fun wd σ ρ S H Q d S' w q h k => ?_⟩
  obtain ⟨x, S1, h1, h⟩ := bindR_inv h
  cases h
  exact s wd σ ρ S H _ x _ w q h1 fun wd1 H1 w1 x1 => k wd1 H1 w1 x1
theorem de_one {op} (ha : DE X cl a fa) : DE X cl (.BoolOp op [a] pos) fa := by
  obtain ⟨t, p, s⟩ := ha
  exact ⟨t, pe_one p, s⟩
theorem de_and (ha : DE X cl a fa) (hb : DE X cl (.BoolOp .And (b :: rest) pos) fb) : DE X cl (.BoolOp .And (a :: b :: rest) pos) (eAnd fa fb) := by
  obtain ⟨t, p, s⟩ := ha
  obtain ⟨t', p', s'⟩ := hb
  refine ⟨_, pe_and p p', fun wd σ ρ S H Q d S' w q h k => ?_⟩
  obtain ⟨x, S1, h1, h⟩ := bindR_inv h
  refine s wd σ ρ S H _ x S1 w q h1 fun wd1 v1 H1 w1 x1 r1 => ?_
  split at h
  · cases r1
    exact ⟨true, rfl, iteT (s' wd1 σ ρ S1 H1 Q d S' w1 (q.ext x1) h fun wd2 v2 H2 w2 x2 r2 => k wd2 v2 H2 w2 (x1.trans x2) r2)⟩
  · cases r1
    cases h
    exact ⟨false, rfl, iteF (k wd1 _ H1 w1 x1 (.bl false))⟩
  · cases h
theorem de_or (ha : DE X cl a fa) (hb : DE X cl (.BoolOp .Or (b :: rest) pos) fb) : DE X cl (.BoolOp .Or (a :: b :: rest) pos) (eOr fa fb) := by
  obtain ⟨t, p, s⟩ := ha
  obtain ⟨t', p', s'⟩ := hb
  refine ⟨_, pe_or p p', fun wd σ ρ S H Q d S' w q h k => ?_⟩
  obtain ⟨x, S1, h1, h⟩ := bindR_inv h
  refine s wd σ ρ S H _ x S1 w q h1 fun wd1 v1 H1 w1 x1 r1 => ?_
  split at h
  · cases r1
    cases h
    exact ⟨true, rfl, iteT (k wd1 _ H1 w1 x1 (.bl true))⟩
  · cases r1
    exact ⟨false, rfl, iteF (s' wd1 σ ρ S1 H1 Q d S' w1 (q.ext x1) h fun wd2 v2 H2 w2 x2 r2 => k wd2 v2 H2 w2 (x1.trans x2) r2)⟩
  · cases h
theorem de_not (ha : DE X cl a fa) : DE X cl (.UnaryOp .Not a pos) (eNot fa) := by
  obtain ⟨t, p, s⟩ := ha
  refine ⟨_, pe_not p, fun wd σ ρ S H Q d S' w q h k => ?_⟩
  obtain ⟨x, S1, h1, h⟩ := bindR_inv h
  refine s wd σ ρ S H _ x S1 w q h1 fun wd1 v1 H1 w1 x1 r1 => ?_
  split at h
  · cases r1
    cases h
    exact ⟨_, rfl, k wd1 _ H1 w1 x1 (.bl _)⟩
  · cases h
theorem de_if (hc : DT X cl c tx) (ha : DE X cl a fa) (hb : DE X cl b fb) : DE X cl (.IfExp c a b pos) (eIf tx fa fb) := by
  obtain ⟨tc, pc, sc⟩ := hc
  obtain ⟨ta, pa, sa⟩ := ha
  obtain ⟨tb, pb, sb⟩ := hb
  refine ⟨_, pe_ifExp pc pa pb, fun wd σ ρ S H Q d S' w q h k => ?_⟩
  obtain ⟨x, S1, h1, h⟩ := bindR_inv h
  refine sc wd σ ρ S H _ x S1 w q h1 fun wd1 H1 w1 x1 => ?_
  cases x with
  | true => exact iteT (sa wd1 σ ρ S1 H1 Q d S' w1 (q.ext x1) h fun wd2 v2 H2 w2 x2 r2 => k wd2 v2 H2 w2 (x1.trans x2) r2)
  | false => exact iteF (sb wd1 σ ρ S1 H1 Q d S' w1 (q.ext x1) h fun wd2 v2 H2 w2 x2 r2 => k wd2 v2 H2 w2 (x1.trans x2) r2)
theorem de_un {op : UnaryOp} {r : V → Hp → VK → Prop} {u : Val → M Val} (ho : UnR X (unaryOp op) r) (hu : SimU X.K cl r u) (ha : DE X cl a fa) : DE X cl (.UnaryOp op a pos) (eU u fa) := by
  obtain ⟨ta, pa, sa⟩ := ha
  refine ⟨_, pe_un ho pa, fun wd σ ρ S H Q d S' w q h k => ?_⟩
  obtain ⟨x, S1, h1, h⟩ := bindR_inv h
  refine sa wd σ ρ S H _ x S1 w q h1 fun wd1 v1 H1 w1 x1 r1 => ?_
  exact hu wd1 S1 H1 v1 x Q d S' w1 r1 h fun wd2 v2 H2 w2 x2 r2 => k wd2 v2 H2 w2 (x1.trans x2) r2
/-! arguments -/
theorem da_nil : DA X cl [] aNil := ⟨_, pa_nil, fun wd σ ρ S H Q d S' w q h k => by cases h; exact k wd [] H w .refl .nil⟩
theorem da_cons (ha : DE X cl a fa) (hr : DA X cl es fs) (hs : starEach (a :: es) X.env = (false, eval a X.env) :: starEach es X.env := by rfl) : DA X cl (a :: es) (aCons fa fs) := by
  obtain ⟨ta, pa, sa⟩ := ha
  obtain ⟨tr, pr, sr⟩ := hr
  refine ⟨_, pa_cons pa pr hs, fun wd σ ρ S H Q d S' w q h k => ?_⟩
  obtain ⟨x, S1, h1, h⟩ := bindR_inv h
  obtain ⟨y, S2, h2, h⟩ := bindR_inv h
  cases h
  refine sa wd σ ρ S H _ x S1 w q h1 fun wd1 v1 H1 w1 x1 r1 => ?_
  refine sr wd1 σ ρ S1 H1 _ y _ w1 (q.ext x1) h2 fun wd2 v2 H2 w2 x2 r2 => ?_
  exact k wd2 _ H2 w2 (x1.trans x2) (.cons (r1.ext x2) r2)
theorem sim_a {K : PySem.W.Frag} {r : List V → Hp → VK → Prop} {u : List Val → M Val} {t : TA} (hu : SimC K cl r u) (ha : SimA K cl t fs) : SimE K cl (fun σ H Q => t σ H fun vs H1 => r vs H1 Q) (eA u fs) := fun wd σ ρ S H Q d S' w q h k => by
  obtain ⟨x, S1, h1, h⟩ := bindR_inv h
  refine ha wd σ ρ S H _ x S1 w q h1 fun wd1 v1 H1 w1 x1 r1 => ?_
  exact hu wd1 S1 H1 v1 x Q d S' w1 r1 h fun wd2 v2 H2 w2 x2 r2 => k wd2 v2 H2 w2 (x1.trans x2) r2
end
end DM
set_option Elab.async false
set_option linter.all false
set_option maxRecDepth 100000
namespace DM
open PySem L2
/-! ### statements -/
def gNext : DEnv → M Fl := fun ρ S => some (.nx ρ, S)
def gSeq (g1 g2 : DEnv → M Fl) : DEnv → M Fl := fun ρ S => match g1 ρ S with
  | none => none
  | some (.nx ρ', S') => g2 ρ' S'
  | some (.rt d, S') => some (.rt d, S')
  | some (.bk ρ', S') => some (.bk ρ', S')
  | some (.ct ρ', S') => some (.ct ρ', S')
def gAsg (fe : DEnv → M Val) (gg : Val → DEnv → M DEnv) : DEnv → M Fl := fun ρ S => bindR (fe ρ S) fun d S1 => bindR (gg d ρ S1) fun ρ' S2 => some (.nx ρ', S2)
def gRet (fe : DEnv → M Val) : DEnv → M Fl := fun ρ S => bindR (fe ρ S) fun d S1 => some (.rt d, S1)
def gRetN : DEnv → M Fl := fun _ S => some (.rt (.pd .none), S)
def gIf (c : DEnv → M Bool) (g1 g2 : DEnv → M Fl) : DEnv → M Fl := fun ρ S => bindR (c ρ S) fun b S1 => if b = true then g1 ρ S1 else g2 ρ S1
def gExpr (fe : DEnv → M Val) : DEnv → M Fl := fun ρ S => bindR (fe ρ S) fun _ S1 => some (.nx ρ, S1)
def gNever : DEnv → M Fl := fun _ _ => none
def gBreak : DEnv → M Fl := fun ρ S => some (.bk ρ, S)
def gCont : DEnv → M Fl := fun ρ S => some (.ct ρ, S)
/-- targets -/
def nName (i : Nat) : Val → DEnv → M DEnv := fun d ρ S => some (ρ.set i (some d), S)
def nsNil : List Val → DEnv → M DEnv := fun ds ρ S => match ds with
  | [] => some (ρ, S)
  | _ => none
def nsCons (g : Val → DEnv → M DEnv) (gs : List Val → DEnv → M DEnv) : List Val → DEnv → M DEnv := fun ds ρ S => match ds with
  | [] => none
  | d :: r => bindR (g d ρ S) fun ρ1 S1 => gs r ρ1 S1
def nTup (n : Nat) (gs : List Val → DEnv → M DEnv) : Val → DEnv → M DEnv := fun d ρ S => match d with
  | .pd (.tuple ds) => if ds.length = n then gs (ds.map Val.pd) ρ S else none
  | _ => none
section
variable {X : Cx} {cl : Nat → Addr} {pos : Pos} {st : Stmt} {rest : List Stmt} {e : Expr} {fe : DEnv → M Val} {g1 g2 : DEnv → M Fl} {gg : Val → DEnv → M DEnv} {ggs : List Val → DEnv → M DEnv}
theorem EndOk.mono {K : PySem.W.Frag} {D D' : Ends} {wd wd1 : Wd} {S S1 S' : Store} {H H1 : Hp} {fl : Fl} (x : Ext wd S H wd1 S1 H1) (h : EndOk K cl D wd S H S' fl) (h1 : D'.nx = D.nx) (h2 : D'.rt = D.rt) (h3 : D'.bk = D.bk) (h4 : D'.ct = D.ct) : EndOk K cl D' wd1 S1 H1 S' fl := by
  cases fl with
  | nx ρ' => intro wd' σ' H' w y r; rw [h1]; exact h wd' σ' H' w (x.trans y) r
  | rt d => intro wd' v H' w y r; rw [h2]; exact h wd' v H' w (x.trans y) r
  | bk ρ' => intro wd' σ' H' w y r; rw [h3]; exact h wd' σ' H' w (x.trans y) r
  | ct ρ' => intro wd' σ' H' w y r; rw [h4]; exact h wd' σ' H' w (x.trans y) r
theorem ds_nil : DSs X cl [] gNext := ⟨_, pss_nil, fun wd σ ρ S H D fl S' w q h k => by cases h; exact k wd σ H w .refl q⟩
theorem sim_seq {K : PySem.W.Frag} {t u : TS} (h1 : SimS K cl t g1) (h2 : SimS K cl u g2) : SimS K cl (tSeq t u) (gSeq g1 g2) := fun wd σ ρ S H D fl S' w q h k => by
  unfold gSeq at h
  split at h
  · cases h
  · rename_i ρ' S1 e1
    exact h1 wd σ ρ S H _ _ S1 w q e1 fun wd1 σ1 H1 w1 x1 q1 => h2 wd1 σ1 ρ' S1 H1 D fl S' w1 q1 h (k.mono x1 rfl rfl rfl rfl)
  · rename_i d S1 e1
    cases h
    exact h1 wd σ ρ S H _ _ _ w q e1 k
  · rename_i d S1 e1
    cases h
    exact h1 wd σ ρ S H _ _ _ w q e1 k
  · rename_i d S1 e1
    cases h
    exact h1 wd σ ρ S H _ _ _ w q e1 k
theorem ds_cons (h1 : DS X cl st g1) (h2 : DSs X cl rest g2) : DSs X cl (st :: rest) (gSeq g1 g2) := by
  obtain ⟨t, p, s⟩ := h1
  obtain ⟨t', p', s'⟩ := h2
  exact ⟨_, pss_cons p p', sim_seq s s'⟩
theorem ds_one (h1 : DS X cl st g1) : DSs X cl [st] g1 := by
  obtain ⟨t, p, s⟩ := h1
  exact ⟨_, pss_one p, s⟩
theorem ds_never : DS X cl st gNever := ⟨_, ps_never, fun wd σ ρ S H D fl S' w q h k => by cases h⟩
theorem dss_never {sts : List Stmt} : DSs X cl sts gNever := ⟨_, pss_never, fun wd σ ρ S H D fl S' w q h k => by cases h⟩
theorem ds_pass : DS X cl (.Pass pos) gNext := ⟨_, ps_pass, fun wd σ ρ S H D fl S' w q h k => by cases h; exact k wd σ H w .refl q⟩
theorem ds_break : DS X cl (.Break pos) gBreak := ⟨_, ps_break, fun wd σ ρ S H D fl S' w q h k => by cases h; exact k wd σ H w .refl q⟩
theorem ds_cont : DS X cl (.Continue pos) gCont := ⟨_, ps_continue, fun wd σ ρ S H D fl S' w q h k => by cases h; exact k wd σ H w .refl q⟩
theorem ds_ret (he : DE X cl e fe) : DS X cl (.Return (some e) pos) (gRet fe) := by
  obtain ⟨t, p, s⟩ := he
  refine ⟨_, ps_ret p, fun wd σ ρ S H D fl S' w q h k => ?_⟩
  obtain ⟨x, S1, h1, h⟩ := bindR_inv h
  cases h
  exact s wd σ ρ S H _ x _ w q h1 k
theorem ds_retN : DS X cl (.Return none pos) gRetN := ⟨_, ps_retN, fun wd σ ρ S H D fl S' w q h k => by cases h; exact k wd .non H w .refl .non⟩
theorem ds_expr (he : DE X cl e fe) (hs : swapsWith e none pos.line X.env = pure false := by rfl) : DS X cl (.Expr e pos) (gExpr fe) := by
  obtain ⟨t, p, s⟩ := he
  refine ⟨_, ps_expr p hs, fun wd σ ρ S H D fl S' w q h k => ?_⟩
  obtain ⟨x, S1, h1, h⟩ := bindR_inv h
  cases h
  exact s wd σ ρ S H _ x _ w q h1 fun wd1 v1 H1 w1 x1 r1 => k wd1 σ H1 w1 x1 (q.ext x1)
theorem ds_if {c : Expr} {a b : List Stmt} {fc : DEnv → M Bool} (hc : DT X cl c fc) (ha : DSs X cl a g1) (hb : DSs X cl b g2) : DS X cl (.If c a b pos) (gIf fc g1 g2) := by
  obtain ⟨t, p, s⟩ := hc
  obtain ⟨t1, p1, s1⟩ := ha
  obtain ⟨t2, p2, s2⟩ := hb
  refine ⟨_, ps_if p p1 p2, fun wd σ ρ S H D fl S' w q h k => ?_⟩
  obtain ⟨x, S1, h1, h⟩ := bindR_inv h
  refine s wd σ ρ S H _ x S1 w q h1 fun wd1 H1 w1 x1 => ?_
  cases x with
  | true => exact iteT (s1 wd1 σ ρ S1 H1 D fl S' w1 (q.ext x1) h (k.mono x1 rfl rfl rfl rfl))
  | false => exact iteF (s2 wd1 σ ρ S1 H1 D fl S' w1 (q.ext x1) h (k.mono x1 rfl rfl rfl rfl))
/-! targets -/
theorem dg_name (i : Nat) {x : Str} (hN : X.N.Nodup) (hi : X.N[i]? = some x) (hx : Loc X.env.scope x) (hf : X.fn x = true ∨ X.env.scope.names.lookup x = some .local := by first | exact .inl rfl | exact .inr rfl | assumption) : DG X cl (.Name x pos) (nName i) :=
  ⟨_, pg_name hN hi hx hf, fun wd σ ρ S H v d Q ρ' S' w q r h k => by cases h; exact k wd _ H w .refl (q.set i r)⟩
theorem dgs_nil : DGs X cl [] nsNil := ⟨_, pgs_nil, fun wd σ ρ S H vs ds Q ρ' S' w q r h k => by
  cases r with
  | nil => cases h; exact ⟨rfl, k wd σ H w .refl q⟩
  | cons r t => cases h⟩
theorem dgs_cons {tg : Expr} {tgs : List Expr} (h1 : DG X cl tg gg) (h2 : DGs X cl tgs ggs) (hs : (assignEach (tg :: tgs) X.env).map (·.2) = assign tg X.env :: (assignEach tgs X.env).map (·.2) := by rfl) : DGs X cl (tg :: tgs) (nsCons gg ggs) := by
  obtain ⟨t, p, s⟩ := h1
  obtain ⟨t', p', s'⟩ := h2
  refine ⟨_, pgs_cons p p' hs, fun wd σ ρ S H vs ds Q ρ' S' w q r h k => ?_⟩
  cases r with
  | nil => cases h
  | cons r rs =>
    obtain ⟨x, S1, h1, h⟩ := bindR_inv h
    refine ⟨_, _, rfl, s wd σ ρ S H _ _ _ x S1 w q r h1 fun wd1 σ1 H1 w1 x1 q1 => ?_⟩
    exact s' wd1 σ1 x S1 H1 _ _ Q ρ' S' w1 q1 (rs.ext x1) h fun wd2 σ2 H2 w2 x2 q2 => k wd2 σ2 H2 w2 (x1.trans x2) q2
theorem dg_tup {es : List Expr} {kk n : Nat} (hc : X.calm = true) (h : DGs X cl es ggs) (hn : (assignEach es X.env).length = n := by rfl) (hst : (assignEach es X.env).findIdx? (·.1) = none := by rfl) : DG X cl (.Tuple es kk pos) (nTup n ggs) := by
  obtain ⟨t, p, s⟩ := h
  refine ⟨_, pg_tup hc p hn hst, fun wd σ ρ S H v d Q ρ' S' w q r h k => ?_⟩
  unfold nTup at h
  split at h
  · rename_i ds
    split at h
    · rename_i hl
      cases r with
      | tup h1 h2 => exact ⟨_, _, rfl, h1.sq, by rw [h2.length]; exact hl, s wd σ ρ S H _ _ Q ρ' S' w q h2.rvs h k⟩
    · cases h
  · cases h
theorem ds_asg {tg : Expr} (he : DE X cl e fe) (hg : DG X cl tg gg) (hs : swapsWithSole [tg] e pos.line X.env = pure false := by rfl) (hw : swappedStores [tg] e X.env = pure none := by rfl)
    (h1 : (assignEach [tg] X.env).map (·.2) = [assign tg X.env] := by rfl) : DS X cl (.Assign [tg] e pos) (gAsg fe gg) := by
  obtain ⟨t, p, s⟩ := he
  obtain ⟨t', p', s'⟩ := hg
  refine ⟨_, ps_asg p p' hs hw h1, fun wd σ ρ S H D fl S' w q h k => ?_⟩
  obtain ⟨x, S1, h1, h⟩ := bindR_inv h
  obtain ⟨y, S2, h2, h⟩ := bindR_inv h
  cases h
  refine s wd σ ρ S H _ x S1 w q h1 fun wd1 v1 H1 w1 x1 r1 => ?_
  exact s' wd1 σ ρ S1 H1 v1 x _ y _ w1 (q.ext x1) r1 h2 fun wd2 σ2 H2 w2 x2 q2 => k wd2 σ2 H2 w2 (x1.trans x2) q2
theorem ds_set (i : Nat) {x : Str} {pos' : Pos} (hN : X.N.Nodup) (hi : X.N[i]? = some x) (hx : Loc X.env.scope x) (he : DE X cl e fe) (hs : swapsWith e (some (.Name x pos')) pos.line X.env = pure false := by rfl)
    (hf : X.fn x = true ∨ X.env.scope.names.lookup x = some .local := by first | exact .inl rfl | exact .inr rfl | assumption) : DS X cl (.Assign [.Name x pos'] e pos) (gAsg fe (nName i)) := by
  obtain ⟨t, p, s⟩ := he
  refine ⟨_, ps_set hN hi hx p hs hf, fun wd σ ρ S H D fl S' w q h k => ?_⟩
  obtain ⟨x, S1, h1, h⟩ := bindR_inv h
  cases h
  exact s wd σ ρ S H _ x _ w q h1 fun wd1 v1 H1 w1 x1 r1 => k wd1 _ H1 w1 x1 ((q.ext x1).set i r1)
/-- x op= e -/
def gAug (i : Nat) (u : Val → Val → M Val) (fe : DEnv → M Val) : DEnv → M Fl := fun ρ S => match ρ[i]? with
  | some (some a) => bindR (fe ρ S) fun b S1 => bindR (u a b S1) fun z S2 => some (.nx (ρ.set i (some z)), S2)
  | _ => none
theorem ds_aug (i : Nat) {x : Str} {op : Operator} {ti : TIp} {u : Val → Val → M Val} {pos' : Pos} (hN : X.N.Nodup) (hi : X.N[i]? = some x) (hx : Loc X.env.scope x) (he : DE X cl e fe) (ho : PIp X op ti) (hu : SimO X.K cl ti u)
    (hf : X.fn x = true ∨ X.env.scope.names.lookup x = some .local := by first | exact .inl rfl | exact .inr rfl | assumption) : DS X cl (.AugAssign (.Name x pos') op e pos) (gAug i u fe) := by
  obtain ⟨t, p, s⟩ := he
  refine ⟨_, ps_aug hN hi hx p ho hf, fun wd σ ρ S H D fl S' w q h k => ?_⟩
  unfold gAug at h
  split at h
  · rename_i a ea
    obtain ⟨va, ev, ra⟩ := q.at' _ _ ea
    obtain ⟨y, S1, h1, h⟩ := bindR_inv h
    obtain ⟨z, S2, h2, h⟩ := bindR_inv h
    cases h
    refine ⟨va, ev, s wd σ ρ S H _ y S1 w q h1 fun wd1 v1 H1 w1 x1 r1 => ?_⟩
    exact hu wd1 S1 H1 va v1 a y _ z _ w1 (ra.ext x1) r1 h2 fun wd2 v2 H2 w2 x2 r2 => k wd2 _ H2 w2 (x1.trans x2) (((q.ext x1).ext x2).set i r2)
  · cases h
end
/-! ### loops -/
structure Iter where
  items : List Val
  lk : Option (Nat × Ob)
def Iter.un (it : Iter) (S : Store) : Store := match it.lk with
  | none => S
  | some (h, o) => S.set h o
/-- what an iterator yields, whatever the store becomes -/
def ItOk (K : PySem.W.Frag) (cl : Nat → Addr) (J : It) (items : List Val) (wd : Wd) (S : Store) (H : Hp) : Prop := ∀ wd' S' H', WR K cl wd' S' H' → Ext wd S H wd' S' H' →
  J.stop items.length H' ∧ ∀ i, i < items.length → J.go i H' ∧ ∀ x H'', J.yld i H' x H'' → ∃ d, items[i]? = some d ∧ WR K cl wd' S' H'' ∧ Ext wd' S' H' wd' S' H'' ∧ RV K wd' S'.length H'' x d
/-- the store of a loop: the walked object is locked -/
def LkOk (S S1 : Store) (it : Iter) : Prop := match it.lk with
  | none => S1 = S
  | some (h, o) => S[h]? = some o ∧ (∀ u, o ≠ .lock u) ∧ S1 = S.set h (.lock o)
def SimI (K : PySem.W.Frag) (cl : Nat → Addr) (t : TI) (fi : DEnv → M Iter) : Prop := ∀ (wd : Wd) (σ : St) (ρ : DEnv) (S : Store) (H : Hp) (R : It → Hp → Prop) (it : Iter) (S' : Store), WR K cl wd S H → ER K wd S.length H σ ρ → fi ρ S = some (it, S') →
  (∀ wd' S1 H' J, WR K cl wd' S1 H' → Ext wd S H wd' S1 H' → LkOk S1 S' it → WR K cl wd' S' H' → ItOk K cl J it.items wd' S' H' → R J H') → t σ H R
def DI (X : Cx) (cl : Nat → Addr) (tg iter : Expr) (fi : DEnv → M Iter) : Prop := ∃ t, PI X tg iter t ∧ SimI X.K cl t fi
def loopG (gg : Val → DEnv → M DEnv) (gb : DEnv → M Fl) : List Val → DEnv → M Fl
  | [], ρ, S => some (.nx ρ, S)
  | d :: ds, ρ, S => bindR (gg d ρ S) fun ρ1 S1 => match gb ρ1 S1 with
    | none => none
    | some (.nx ρ2, S2) => loopG gg gb ds ρ2 S2
    | some (.ct ρ2, S2) => loopG gg gb ds ρ2 S2
    | some (.bk ρ2, S2) => some (.nx ρ2, S2)
    | some (.rt d, S2) => some (.rt d, S2)
def gFor (fi : DEnv → M Iter) (gg : Val → DEnv → M DEnv) (gb : DEnv → M Fl) : DEnv → M Fl := fun ρ S => bindR (fi ρ S) fun it S1 => bindR (loopG gg gb it.items ρ S1) fun fl S2 => some (fl, it.un S2)
def loopW (c : DEnv → M Bool) (gb : DEnv → M Fl) : Nat → DEnv → M Fl
  | 0, _, _ => none
  | n + 1, ρ, S => bindR (c ρ S) fun b S1 => if b = true then match gb ρ S1 with
    | none => none
    | some (.nx ρ2, S2) => loopW c gb n ρ2 S2
    | some (.ct ρ2, S2) => loopW c gb n ρ2 S2
    | some (.bk ρ2, S2) => some (.nx ρ2, S2)
    | some (.rt d, S2) => some (.rt d, S2)
    else some (.nx ρ, S1)
section
variable {K : PySem.W.Frag} {cl : Nat → Addr} {wd wd' : Wd} {S S' : Store} {H H' : Hp}
theorem OR.lock_iff {n : Nat} {a : Addr} {fp : Addr → Prop} {o : Ob} (ho : (∃ xs, o = .lst xs) ∨ ∃ xs, o = .lsv xs) : OR K cl wd n H a fp (.lock o) ↔ OR K cl wd n H a fp o := by
  rcases ho with ⟨xs, rfl⟩ | ⟨xs, rfl⟩ <;> exact Iff.rfl
theorem WR.swap (w : WR K cl wd S H) {h : Nat} {o o' : Ob} (e : S[h]? = some o) (k : OR K cl wd S.length H (wd.ad h) (wd.fp h) o → OR K cl wd S.length H (wd.ad h) (wd.fp h) o') : WR K cl wd (S.set h o') H := by
  have hh := lt_of_get e
  have len : (S.set h o').length = S.length := by simp
  refine ⟨fun i u eu => ?_, fun i j b hi hj => w.dj i j b (by omega) (by omega), fun i b hi => w.lv i b (by omega), fun b hb => ⟨(w.hd b hb).1, fun i hi => (w.hd b hb).2 i (by omega)⟩⟩
  rw [len]
  by_cases ei : i = h
  · subst ei
    rw [List.getElem?_set_self hh] at eu
    cases eu
    exact k (w.ob i o e)
  · rw [List.getElem?_set_ne (Ne.symm ei)] at eu
    exact w.ob i u eu
/-- a list is locked -/
theorem WR.lockL (w : WR K cl wd S H) {h : Nat} {o : Ob} (e : S[h]? = some o) (ho : (∃ xs, o = .lst xs) ∨ ∃ xs, o = .lsv xs) : WR K cl wd (S.set h (.lock o)) H ∧ Ext wd S H wd (S.set h (.lock o)) H := by
  refine ⟨w.swap e (OR.lock_iff ho).mpr, ⟨by simp, fun _ _ => rfl, fun b u e n => ⟨e, by simpa using n⟩, fun i u eu => ⟨?_, rfl⟩, fun _ h => ⟨h, rfl⟩⟩⟩
  have ne : h ≠ i := by
    rintro rfl
    rw [e] at eu
    cases eu
    rcases ho with ⟨xs, z⟩ | ⟨xs, z⟩ <;> cases z
  rw [List.getElem?_set_ne ne]
  exact eu
theorem WR.unlock (w : WR K cl wd' S' H') {h : Nat} {o : Ob} (e : S[h]? = some o) (nl : ∀ u, o ≠ .lock u) (x : Ext wd (S.set h (.lock o)) H wd' S' H') (ho : OR K cl wd' S'.length H' (wd'.ad h) (wd'.fp h) (.lock o) → OR K cl wd' S'.length H' (wd'.ad h) (wd'.fp h) o) :
    WR K cl wd' (S'.set h o) H' ∧ Ext wd S H wd' (S'.set h o) H' := by
  have hh := lt_of_get e
  have l0 := x.len
  have e1 : (S.set h (.lock o))[h]? = some (.lock o) := List.getElem?_set_self hh
  obtain ⟨e2, _⟩ := x.lock h o e1
  refine ⟨w.swap e2 ho, ⟨by simp at l0 ⊢; exact l0, fun i hi => x.ad i (by simpa using hi), fun b u eb n => ?_, fun i u eu => ?_, x.hid⟩⟩
  · have := x.keep b u eb (by simpa using n)
    simpa using this
  · have ne : h ≠ i := by
      rintro rfl
      rw [e] at eu
      cases eu
      exact nl u rfl
    have := x.lock i u (by rw [List.getElem?_set_ne ne]; exact eu)
    rw [List.getElem?_set_ne ne]
    exact this
end
section
variable {X : Cx} {cl : Nat → Addr} {pos : Pos} {gg : Val → DEnv → M DEnv} {gb : DEnv → M Fl}
theorem drop_get {α : Type} {xs : List α} {i : Nat} {x : α} (h : xs[i]? = some x) : xs.drop i = x :: xs.drop (i + 1) := by
  have hi := lt_of_get h
  rw [List.drop_eq_getElem_cons hi]
  rw [List.getElem?_eq_getElem hi] at h
  cases h
  rfl
theorem sim_for {K : PySem.W.Frag} {ti : TI} {tg : TG} {tb : TS} {fi : DEnv → M Iter} (hi : SimI K cl ti fi) (hg : SimG K cl tg gg) (hb : SimS K cl tb gb) (hk : ∀ ρ S it S', fi ρ S = some (it, S') → ∀ h o, it.lk = some (h, o) → (∃ xs, o = .lst xs) ∨ ∃ xs, o = .lsv xs) :
    SimS K cl (tFor ti tg tb) (gFor fi gg gb) := fun wd σ ρ S H D fl S' w q h k => by
  obtain ⟨it, S1, h1, h⟩ := bindR_inv h
  obtain ⟨fl', S2, h2, h⟩ := bindR_inv h
  cases h
  have hk1 := hk ρ S it S1 h1
  refine hi wd σ ρ S H _ it S1 w q h1 fun wd1 S0 H1 J w0 x0 lk w1 jo => ?_
  -- behind the loop the object is unlocked
  have un : ∀ {wd2 S2 H2}, WR K cl wd2 S2 H2 → Ext wd1 S1 H1 wd2 S2 H2 → WR K cl wd2 (it.un S2) H2 ∧ Ext wd S H wd2 (it.un S2) H2 := fun {wd2 S2 H2} w2 x2 => by
    unfold LkOk at lk
    unfold Iter.un
    cases hl : it.lk with
    | none =>
      rw [hl] at lk
      dsimp only at lk ⊢
      subst lk
      exact ⟨w2, x0.trans x2⟩
    | some p =>
      obtain ⟨hh, o⟩ := p
      rw [hl] at lk
      dsimp only at lk ⊢
      obtain ⟨l1, l2, rfl⟩ := lk
      obtain ⟨y1, y2⟩ := w2.unlock l1 l2 x2 (OR.lock_iff (hk1 hh o hl)).mp
      exact ⟨y1, x0.trans y2⟩
  have ulen : ∀ S2, (it.un S2).length = S2.length := fun S2 => by
    unfold Iter.un
    cases it.lk <;> simp
  have ern : ∀ {wd2 S2 H2 σ2 ρ2}, ER K wd2 S2.length H2 σ2 ρ2 → ER K wd2 (it.un S2).length H2 σ2 ρ2 := fun {wd2 S2 H2 σ2 ρ2} q => by rw [ulen]; exact q
  have q1 : ER K wd1 S1.length H1 σ ρ := by
    have z := q.ext x0
    have : S1.length = S0.length := by
      unfold LkOk at lk
      split at lk
      · rw [lk]
      · rw [lk.2.2]; simp
    rw [this]
    exact z
  refine ⟨fun i m σ' H' => m = it.items.length - i ∧ i ≤ it.items.length ∧ ∃ wd' S' ρ', WR K cl wd' S' H' ∧ ER K wd' S'.length H' σ' ρ' ∧ Ext wd1 S1 H1 wd' S' H' ∧ loopG gg gb (it.items.drop i) ρ' S' = some (fl, S2), ⟨_, rfl, Nat.zero_le _, wd1, S1, ρ, w1, q1, .refl, by simpa using h2⟩, ?_⟩
  rintro i m σ' H' ⟨rfl, hle, wd', S', ρ', w', q', x', hl⟩
  obtain ⟨jst, jgo⟩ := jo wd' S' H' w' x'
  by_cases hlt : i < it.items.length
  · obtain ⟨go, yl⟩ := jgo i hlt
    refine .inr ⟨go, fun σ3 H3 => ∃ m', m' < it.items.length - i ∧ (m' = it.items.length - (i + 1) ∧ i + 1 ≤ it.items.length ∧ ∃ wd' S' ρ', WR K cl wd' S' H3 ∧ ER K wd' S'.length H3 σ3 ρ' ∧ Ext wd1 S1 H1 wd' S' H3 ∧ loopG gg gb (it.items.drop (i + 1)) ρ' S' = some (fl, S2)), fun σ3 H3 ⟨m', hm, z⟩ => ⟨m', hm, z⟩, fun x H'' y => ?_⟩
    obtain ⟨d, hd, w2, x2, r2⟩ := yl x H'' y
    rw [drop_get hd] at hl
    obtain ⟨ρ3, S3, h3, hl⟩ := bindR_inv hl
    refine hg wd' σ' ρ' S' H'' x d _ ρ3 S3 w2 (q'.ext x2) r2 h3 fun wd3 σ3 H3 w3 x3 q3 => ?_
    split at hl
    · cases hl
    · rename_i ρ4 S4 h4
      refine hb wd3 σ3 ρ3 S3 H3 _ _ S4 w3 q3 h4 fun wd4 σ4 H4 w4 x4 q4 => ⟨_, by omega, rfl, hlt, wd4, S4, ρ4, w4, q4, ((x'.trans x2).trans x3).trans x4, hl⟩
    · rename_i ρ4 S4 h4
      refine hb wd3 σ3 ρ3 S3 H3 _ _ S4 w3 q3 h4 fun wd4 σ4 H4 w4 x4 q4 => ⟨_, by omega, rfl, hlt, wd4, S4, ρ4, w4, q4, ((x'.trans x2).trans x3).trans x4, hl⟩
    · rename_i ρ4 S4 h4
      cases hl
      refine hb wd3 σ3 ρ3 S3 H3 _ _ _ w3 q3 h4 fun wd4 σ4 H4 w4 x4 q4 => ?_
      obtain ⟨y1, y2⟩ := un w4 (((x'.trans x2).trans x3).trans x4)
      exact k wd4 σ4 H4 y1 y2 (ern q4)
    · rename_i d4 S4 h4
      cases hl
      refine hb wd3 σ3 ρ3 S3 H3 _ _ _ w3 q3 h4 fun wd4 v4 H4 w4 x4 r4 => ?_
      obtain ⟨y1, y2⟩ := un w4 (((x'.trans x2).trans x3).trans x4)
      exact k wd4 v4 H4 y1 y2 (by rw [ulen]; exact r4)
  · have e : i = it.items.length := by omega
    subst e
    rw [List.drop_length] at hl
    cases hl
    obtain ⟨y1, y2⟩ := un w' x'
    exact .inl ⟨jst, k wd' σ' H' y1 y2 (ern q')⟩
theorem ds_for {tg iter : Expr} {body : List Stmt} {fi : DEnv → M Iter} (hp : PassesOwn (model X.prog X.w) X.A X.env X.xe) (hc : X.calm = true) (hi : DI X cl tg iter fi) (hg : DG X cl tg gg) (hb : DSs X cl body gb)
    (hk : ∀ ρ S it S', fi ρ S = some (it, S') → ∀ h o, it.lk = some (h, o) → (∃ xs, o = .lst xs) ∨ ∃ xs, o = .lsv xs) (hs : ∀ x, foldedSetIterable iter X.env x = pure x := by intro _; rfl) : DS X cl (.For tg iter body [] pos) (gFor fi gg gb) := by
  obtain ⟨t1, p1, s1⟩ := hi
  obtain ⟨t2, p2, s2⟩ := hg
  obtain ⟨t3, p3, s3⟩ := hb
  exact ⟨_, ps_for hp hc p1 p2 p3 hs, sim_for s1 s2 s3 hk⟩
theorem ds_while (n : Nat) {c : Expr} {body : List Stmt} {fc : DEnv → M Bool} (hp : PassesOwn (model X.prog X.w) X.A X.env X.xe) (hc : DT X cl c fc) (hb : DSs X cl body gb) : DS X cl (.While c body [] pos) (loopW fc gb n) := by
  obtain ⟨t1, p1, s1⟩ := hc
  obtain ⟨t2, p2, s2⟩ := hb
  refine ⟨_, ps_while hp p1 p2, fun wd σ ρ S H D fl S' w q h k => ?_⟩
  refine ⟨fun m σ' H' => ∃ wd' S1 ρ', WR X.K cl wd' S1 H' ∧ ER X.K wd' S1.length H' σ' ρ' ∧ Ext wd S H wd' S1 H' ∧ loopW fc gb m ρ' S1 = some (fl, S'), ⟨n, wd, S, ρ, w, q, .refl, h⟩, ?_⟩
  rintro m σ' H' ⟨wd', S1, ρ', w1, q1, x1, hl⟩
  cases m with
  | zero => cases hl
  | succ m =>
    obtain ⟨b, S2, h2, hl⟩ := bindR_inv hl
    refine s1 wd' σ' ρ' S1 H' _ b S2 w1 q1 h2 fun wd2 H2 w2 x2 => ?_
    cases b with
    | false =>
      cases hl
      exact iteF (k wd2 σ' H2 w2 (x1.trans x2) (q1.ext x2))
    | true =>
      refine iteT ⟨fun σ3 H3 => ∃ m', m' < m + 1 ∧ ∃ wd' S1 ρ', WR X.K cl wd' S1 H3 ∧ ER X.K wd' S1.length H3 σ3 ρ' ∧ Ext wd S H wd' S1 H3 ∧ loopW fc gb m' ρ' S1 = some (fl, S'), fun _ _ z => z, ?_⟩
      rw [if_pos rfl] at hl
      split at hl
      · cases hl
      · rename_i ρ4 S4 h4
        exact s2 wd2 σ' ρ' S2 H2 _ _ S4 w2 (q1.ext x2) h4 fun wd4 σ4 H4 w4 x4 q4 => ⟨m, by omega, wd4, S4, ρ4, w4, q4, (x1.trans x2).trans x4, hl⟩
      · rename_i ρ4 S4 h4
        exact s2 wd2 σ' ρ' S2 H2 _ _ S4 w2 (q1.ext x2) h4 fun wd4 σ4 H4 w4 x4 q4 => ⟨m, by omega, wd4, S4, ρ4, w4, q4, (x1.trans x2).trans x4, hl⟩
      · rename_i ρ4 S4 h4
        cases hl
        exact s2 wd2 σ' ρ' S2 H2 _ _ _ w2 (q1.ext x2) h4 fun wd4 σ4 H4 w4 x4 q4 => k wd4 σ4 H4 w4 ((x1.trans x2).trans x4) q4
      · rename_i d4 S4 h4
        cases hl
        exact s2 wd2 σ' ρ' S2 H2 _ _ _ w2 (q1.ext x2) h4 fun wd4 v4 H4 w4 x4 r4 => k wd4 v4 H4 w4 ((x1.trans x2).trans x4) r4
end
end DM
set_option Elab.async false
set_option linter.all false
set_option maxRecDepth 100000
namespace DM
open PySem L2 PyProof.Rows
/-! ### functions -/
def Val.blw (n : Nat) : Val → Bool
  | .pd _ => true
  | .obj h => decide (h < n)
def Ob.blw (n : Nat) : Ob → Bool
  | .lst _ => true
  | .dK _ => true
  | .dT _ => true
  | .lsv xs => xs.all (Val.blw n)
  | .dV kvs => kvs.all fun p => p.2.blw n
  | .ins _ fs => fs.all fun p => p.2.blw n
  | .lock (.lst _) => true
  | .lock (.dK _) => true
  | .lock (.lsv xs) => xs.all (Val.blw n)
  | .lock _ => true
  | .scr _ => true
  | .dead => true
/-- how a call ends: new objects are forgotten (a new list that is handed back is frozen) -/
def exitF (n : Nat) (d : Val) : M Val := fun S => if S.length = n then some (d, S) else if (S.take n).all (Ob.blw n) = true ∧ n ≤ S.length then match d with
  | .pd d => some (.pd d, S.take n)
  | .obj h => if h < n then some (.obj h, S.take n) else match S[h]? with
    | some (.lst xs) => some (.pd (.list xs), S.take n)
    | _ => none
  else none
instance (o : Ob) : Decidable (∀ u, o ≠ .lock u) := match o with
  | .lock u => .isFalse fun h => h u rfl
  | .lst _ | .lsv _ | .dK _ | .dT _ | .dV _ | .ins _ _ | .scr _ | .dead => .isTrue fun u h => nomatch h
/-- .. or the one new object that is handed back is kept -/
def exitN (n : Nat) (d : Val) : M Val := fun S => if (S.take n).all (Ob.blw n) = true ∧ n ≤ S.length then match d with
  | .pd d => some (.pd d, S.take n)
  | .obj h => if h < n then some (.obj h, S.take n) else match S[h]? with
    | some o => if o.blw n = true ∧ (∀ u, o ≠ .lock u) then some (.obj n, S.take n ++ [o]) else none
    | _ => none
  else none
def exitA (_ : Nat) (d : Val) : M Val := fun S => some (d, S)
def startD (n : Nat) (ds : List Val) : DEnv := ds.map some ++ List.replicate (n - ds.length) none
def fnF (n : Nat) (g : DEnv → M Fl) (ex : Nat → Val → M Val) : List Val → M Val := fun ds S => match g (startD n ds) S with
  | some (.nx _, S') => ex S.length (.pd .none) S'
  | some (.rt d, S') => ex S.length d S'
  | _ => none
def SimX (K : PySem.W.Frag) (cl : Nat → Addr) (ex : Nat → Val → M Val) : Prop := ∀ (wd : Wd) (S : Store) (H : Hp) (wd1 : Wd) (S1 : Store) (H1 : Hp) (v : V) (d d' : Val) (S' : Store), WR K cl wd S H → WR K cl wd1 S1 H1 → Ext wd S H wd1 S1 H1 → RV K wd1 S1.length H1 v d → ex S.length d S1 = some (d', S') →
  ∃ wd', WR K cl wd' S' H1 ∧ Ext wd S H wd' S' H1 ∧ RV K wd' S'.length H1 v d'
section
variable {K : PySem.W.Frag} {cl : Nat → Addr} {wd wd1 : Wd} {S S1 : Store} {H H1 : Hp}
theorem own_less {n m : Nat} (h : n ≤ m) {b : Addr} (q : ¬ Own wd m b) : ¬ Own wd n b := by
  rintro (z | ⟨i, hi, hf⟩)
  · exact q (.inl z)
  · exact q (.inr ⟨i, by omega, hf⟩)
theorem RV.less {n m : Nat} (h : n ≤ m) {v : V} {d : Val} (hb : d.blw n = true) (r : RV K wd m H v d) : RV K wd n H v d := by
  cases d with
  | pd d => exact Rp.mono (fun b o e q => ⟨e, own_less h q⟩) d v r
  | obj i => exact ⟨by simpa [Val.blw] using hb, r.2⟩
theorem OR.less {n m : Nat} (h : n ≤ m) {a : Addr} {fp : Addr → Prop} {o : Ob} (hb : o.blw n = true) (r : OR K cl wd m H a fp o) : OR K cl wd n H a fp o := by
  have kR : ∀ v d, Rp K H (Own wd m) v d → Rp K H (Own wd n) v d := fun v d => Rp.mono (fun b o e q => ⟨e, own_less h q⟩) d v
  have kRs : ∀ vs ds, RpAll K H (Own wd m) vs ds → RpAll K H (Own wd n) vs ds := fun vs ds => RpAll.mono (fun b o e q => ⟨e, own_less h q⟩) ds vs
  have kVs : ∀ vs ds, (ds.all (Val.blw n)) = true → RVs K wd m H vs ds → RVs K wd n H vs ds := fun vs ds hb q => by
    induction q with
    | nil => exact .nil
    | cons r _ ih =>
      simp only [List.all_cons, Bool.and_eq_true] at hb
      exact .cons (r.less h hb.1) (ih hb.2)
  have kP : ∀ {κ : Type} (ks : List (κ × V)) (kvs : List (κ × Val)), (kvs.all fun p => p.2.blw n) = true → PKW (RV K wd m H) ks kvs → PKW (RV K wd n H) ks kvs := fun ks kvs hb q => by
    unfold PKW at q ⊢
    induction q with
    | nil => exact .nil
    | cons r _ ih =>
      simp only [List.all_cons, Bool.and_eq_true] at hb
      exact .cons ⟨r.1, r.2.less h hb.1⟩ (ih hb.2)
  cases o with
  | lst xs => obtain ⟨f, vs, e, q⟩ := r; exact ⟨f, vs, e, kRs _ _ q⟩
  | lsv xs => obtain ⟨f, vs, e, q⟩ := r; exact ⟨f, vs, e, kVs _ _ hb q⟩
  | dK xs => obtain ⟨f, vs, e, q⟩ := r; exact ⟨f, vs, e, PKV.mono kR q⟩
  | dT xs => obtain ⟨f, vs, e, q⟩ := r; exact ⟨f, vs, e, PKV.mono kR q⟩
  | dV xs => obtain ⟨f, vs, e, q⟩ := r; exact ⟨f, vs, e, kP _ _ hb q⟩
  | ins c fs => obtain ⟨dx, f, e1, gs, e2, q⟩ := r; exact ⟨dx, f, e1, gs, e2, kP _ _ hb q⟩
  | lock u =>
    cases u with
    | lst xs => obtain ⟨f, vs, e, q⟩ := r; exact ⟨f, vs, e, kRs _ _ q⟩
    | lsv xs => obtain ⟨f, vs, e, q⟩ := r; exact ⟨f, vs, e, kVs _ _ hb q⟩
    | dK xs => obtain ⟨f, od, vs, e, q⟩ := r; exact ⟨f, od, vs, e, PKV.mono kR q⟩
    | _ => exact r.elim
  | scr xs => obtain ⟨f, vs, e, q⟩ := r; exact ⟨f, vs, e.mono (fun b o e z => ⟨e, own_less h z⟩), kRs _ _ q⟩
  | dead => exact r
theorem WR.take (w : WR K cl wd S H) {n : Nat} (hn : n ≤ S.length) (hb : (S.take n).all (Ob.blw n) = true) : WR K cl wd (S.take n) H := by
  have len : (S.take n).length = n := by simp; omega
  refine ⟨fun i o e => ?_, fun i j b hi hj => w.dj i j b (by omega) (by omega), fun i b hi => w.lv i b (by omega), fun b hb => ⟨(w.hd b hb).1, fun i hi => (w.hd b hb).2 i (by omega)⟩⟩
  have hi : i < n := by have := lt_of_get e; omega
  have e' : S[i]? = some o := by rw [List.getElem?_take_of_lt hi] at e; exact e
  rw [len]
  exact (w.ob i o e').less hn (List.all_eq_true.mp hb o (List.mem_of_getElem? e))
theorem Ext.take (x : Ext wd S H wd1 S1 H1) : Ext wd S H wd1 (S1.take S.length) H1 := by
  have len : (S1.take S.length).length = S.length := by have := x.len; simp; omega
  refine ⟨by omega, x.ad, fun b o e n => ?_, fun i o e => ?_, x.hid⟩
  · obtain ⟨h1, h2⟩ := x.keep b o e n
    exact ⟨h1, by rw [len]; exact own_less x.len h2⟩
  · obtain ⟨h1, h2⟩ := x.lock i o e
    exact ⟨by rw [List.getElem?_take_of_lt (lt_of_get e)]; exact h1, h2⟩
/-- a new list frozen -/
theorem WR.frz (w : WR K cl wd S H) {h n : Nat} {xs : List PyData} (hn : n ≤ h) (e : S[h]? = some (.lst xs)) : Rp K H (Own wd n) (.ref (wd.ad h)) (.list xs) := by
  obtain ⟨f, vs, e1, q⟩ := w.ob h _ e
  have hh := lt_of_get e
  refine .lst ⟨.inl e1, ?_⟩ (RpAll.mono (fun b o e z => ⟨e, own_less (by omega) z⟩) _ _ q)
  rintro (z | ⟨i, hi, hf⟩)
  · exact (w.hd _ z).2 h hh ((f _).mpr rfl)
  · have := w.dj i h _ (by omega) hh hf ((f _).mpr rfl)
    omega
theorem sim_exitF : SimX K cl exitF := fun wd S H wd1 S1 H1 v d d' S' w w1 x r h => by
  have len : (S1.take S.length).length = S.length := by have := x.len; simp; omega
  unfold exitF at h
  split at h
  · rename_i hn
    cases h
    exact ⟨wd1, w1, x, r⟩
  split at h
  · rename_i hb
    obtain ⟨hb, hl⟩ := hb
    split at h
    · rename_i d
      cases h
      exact ⟨wd1, w1.take hl hb, x.take, by rw [len]; exact RV.less x.len rfl r⟩
    · rename_i i
      split at h
      · rename_i hi
        cases h
        exact ⟨wd1, w1.take hl hb, x.take, by rw [len]; exact ⟨hi, r.2⟩⟩
      · rename_i hi
        split at h
        · rename_i xs e
          cases h
          refine ⟨wd1, w1.take hl hb, x.take, ?_⟩
          rw [len]
          obtain ⟨_, rfl⟩ := r
          exact w1.frz (by omega) e
        · cases h
  · cases h
theorem sim_exitA : SimX K cl exitA := fun wd S H wd1 S1 H1 v d d' S' w w1 x r h => by
  cases h
  exact ⟨wd1, w1, x, r⟩
theorem sim_exitN : SimX K cl exitN := fun wd S H wd1 S1 H1 v d d' S' w w1 x r h => by
  have len : (S1.take S.length).length = S.length := by have := x.len; simp; omega
  unfold exitN at h
  split at h
  · rename_i hb
    obtain ⟨hb, hl⟩ := hb
    split at h
    · rename_i d
      cases h
      exact ⟨wd1, w1.take hl hb, x.take, by rw [len]; exact RV.less x.len rfl r⟩
    · rename_i i
      split at h
      · rename_i hi
        cases h
        exact ⟨wd1, w1.take hl hb, x.take, by rw [len]; exact ⟨hi, r.2⟩⟩
      · rename_i hi
        split at h
        · rename_i o e
          split at h
          · rename_i ho
            obtain ⟨ho, hnl⟩ := ho
            cases h
            obtain ⟨_, rfl⟩ := r
            have hS1 := lt_of_get e
            -- index S.length stands for i
            have len' : (S1.take S.length ++ [o]).length = S.length + 1 := by rw [List.length_append, len]; rfl
            have adn : (wd1.push S.length (wd1.ad i) (wd1.fp i)).ad S.length = wd1.ad i := by simp [Wd.push]
            have fpn : (wd1.push S.length (wd1.ad i) (wd1.fp i)).fp S.length = wd1.fp i := by simp [Wd.push]
            have ado : ∀ j, j < S.length → (wd1.push S.length (wd1.ad i) (wd1.fp i)).ad j = wd1.ad j := fun j hj => by
              have : j ≠ S.length := by omega
              simp [Wd.push, this]
            have fpo : ∀ j, j < S.length → (wd1.push S.length (wd1.ad i) (wd1.fp i)).fp j = wd1.fp j := fun j hj => by
              have : j ≠ S.length := by omega
              simp [Wd.push, this]
            have own : ∀ b, ¬ Own wd1 S1.length b → ¬ Own (wd1.push S.length (wd1.ad i) (wd1.fp i)) (S.length + 1) b := fun b q => by
              rw [push_own]
              rintro (z | z)
              · exact own_less x.len q z
              · exact q (.inr ⟨i, hS1, z⟩)
            have wt := w1.take hl hb
            have keep : ∀ b u, H1 b = some u → ¬ Own wd1 S.length b ∧ ¬ wd1.fp i b → H1 b = some u ∧ ¬ Own (wd1.push S.length (wd1.ad i) (wd1.fp i)) (S.length + 1) b := fun b u e n => ⟨e, by
              rw [push_own]
              rintro (z | z)
              · exact n.1 z
              · exact n.2 z⟩
            -- likeness over the new world
            have conv : ∀ {a : Addr} {fp : Addr → Prop} {u : Ob}, u.blw S.length = true → OR K cl wd1 S1.length H1 a fp u → OR K cl (wd1.push S.length (wd1.ad i) (wd1.fp i)) (S.length + 1) H1 a fp u := fun {a fp u} hu ru => by
              have kR : ∀ v d, Rp K H1 (Own wd1 S1.length) v d → Rp K H1 (Own (wd1.push S.length (wd1.ad i) (wd1.fp i)) (S.length + 1)) v d := fun v d => Rp.mono (fun b o e q => ⟨e, own b q⟩) d v
              have kRs : ∀ vs ds, RpAll K H1 (Own wd1 S1.length) vs ds → RpAll K H1 (Own (wd1.push S.length (wd1.ad i) (wd1.fp i)) (S.length + 1)) vs ds := fun vs ds => RpAll.mono (fun b o e q => ⟨e, own b q⟩) ds vs
              have kV : ∀ v d, d.blw S.length = true → RV K wd1 S1.length H1 v d → RV K (wd1.push S.length (wd1.ad i) (wd1.fp i)) (S.length + 1) H1 v d := fun v d hd rd => by
                cases d with
                | pd d => exact kR v d rd
                | obj j =>
                  have hj : j < S.length := by simpa [Val.blw] using hd
                  exact ⟨by omega, by rw [ado j hj]; exact rd.2⟩
              have kVs : ∀ vs ds, (ds.all (Val.blw S.length)) = true → RVs K wd1 S1.length H1 vs ds → RVs K (wd1.push S.length (wd1.ad i) (wd1.fp i)) (S.length + 1) H1 vs ds := fun vs ds hb q => by
                induction q with
                | nil => exact .nil
                | cons r _ ih =>
                  simp only [List.all_cons, Bool.and_eq_true] at hb
                  exact .cons (kV _ _ hb.1 r) (ih hb.2)
              have kP : ∀ {κ : Type} (ks : List (κ × V)) (kvs : List (κ × Val)), (kvs.all fun p => p.2.blw S.length) = true → PKW (RV K wd1 S1.length H1) ks kvs → PKW (RV K (wd1.push S.length (wd1.ad i) (wd1.fp i)) (S.length + 1) H1) ks kvs := fun ks kvs hb q => by
                unfold PKW at q ⊢
                induction q with
                | nil => exact .nil
                | cons r _ ih =>
                  simp only [List.all_cons, Bool.and_eq_true] at hb
                  exact .cons ⟨r.1, kV _ _ hb.1 r.2⟩ (ih hb.2)
              cases u with
              | lst xs => obtain ⟨f, vs, e, q⟩ := ru; exact ⟨f, vs, e, kRs _ _ q⟩
              | lsv xs => obtain ⟨f, vs, e, q⟩ := ru; exact ⟨f, vs, e, kVs _ _ hu q⟩
              | dK xs => obtain ⟨f, vs, e, q⟩ := ru; exact ⟨f, vs, e, PKV.mono kR q⟩
              | dT xs => obtain ⟨f, vs, e, q⟩ := ru; exact ⟨f, vs, e, PKV.mono kR q⟩
              | dV xs => obtain ⟨f, vs, e, q⟩ := ru; exact ⟨f, vs, e, kP _ _ hu q⟩
              | ins c fs => obtain ⟨dx, f, e1, gs, e2, q⟩ := ru; exact ⟨dx, f, e1, gs, e2, kP _ _ hu q⟩
              | lock u =>
                cases u with
                | lst xs => obtain ⟨f, vs, e, q⟩ := ru; exact ⟨f, vs, e, kRs _ _ q⟩
                | lsv xs => obtain ⟨f, vs, e, q⟩ := ru; exact ⟨f, vs, e, kVs _ _ hu q⟩
                | dK xs => obtain ⟨f, od, vs, e, q⟩ := ru; exact ⟨f, od, vs, e, PKV.mono kR q⟩
                | _ => exact ru.elim
              | scr xs => obtain ⟨f, vs, e, q⟩ := ru; exact ⟨f, vs, e.mono (fun b o e z => ⟨e, own b z⟩), kRs _ _ q⟩
              | dead => exact ru
            refine ⟨wd1.push S.length (wd1.ad i) (wd1.fp i), ⟨fun j u eu => ?_, fun j l b hj hl' h1 h2 => ?_, fun j b hj hf => ?_, fun b hb => ⟨(w1.hd b hb).1, fun j hj hf => ?_⟩⟩, ⟨by omega, fun j hj => (ado j hj).trans (x.ad j hj), fun b u eb n => ?_, fun j u eu => ?_, x.hid⟩, by rw [len']; exact ⟨by omega, by rw [adn]⟩⟩
            · rw [len']
              by_cases hj : j < S.length
              · rw [List.getElem?_append_left (by omega)] at eu
                rw [ado j hj, fpo j hj]
                have e2 : S1[j]? = some u := by rw [List.getElem?_take_of_lt hj] at eu; exact eu
                exact conv (List.all_eq_true.mp hb u (List.mem_of_getElem? eu)) (w1.ob j u e2)
              · have hj2 := lt_of_get eu
                have : j = S.length := by omega
                subst this
                rw [List.getElem?_append_right (by omega), len] at eu
                simp at eu
                subst eu
                rw [adn, fpn]
                exact conv ho (w1.ob i o e)
            · rw [len'] at hj hl'
              by_cases ej : j = S.length
              · by_cases el : l = S.length
                · rw [ej, el]
                · rw [ej, fpn] at h1
                  rw [fpo l (by omega)] at h2
                  have := w1.dj i l b hS1 (by omega) h1 h2
                  omega
              · by_cases el : l = S.length
                · rw [el, fpn] at h2
                  rw [fpo j (by omega)] at h1
                  have := w1.dj i j b hS1 (by omega) h2 h1
                  omega
                · rw [fpo j (by omega)] at h1
                  rw [fpo l (by omega)] at h2
                  exact w1.dj j l b (by omega) (by omega) h1 h2
            · rw [len'] at hj
              by_cases ej : j = S.length
              · rw [ej, fpn] at hf
                exact w1.lv i b hS1 hf
              · rw [fpo j (by omega)] at hf
                exact w1.lv j b (by omega) hf
            · rw [len'] at hj
              by_cases ej : j = S.length
              · rw [ej, fpn] at hf
                exact (w1.hd b hb).2 i hS1 hf
              · rw [fpo j (by omega)] at hf
                exact (w1.hd b hb).2 j (by omega) hf
            · obtain ⟨h1, h2⟩ := x.keep b u eb n
              exact ⟨h1, by rw [len']; exact own b h2⟩
            · obtain ⟨h1, h2⟩ := x.lock j u eu
              have hj := lt_of_get eu
              exact ⟨by rw [List.getElem?_append_left (by omega), List.getElem?_take_of_lt hj]; exact h1, h2⟩
          · cases h
        · cases h
  · cases h
end
/-! a def's promise -/
def spOf (K : PySem.W.Frag) (cl : Nat → Addr) (n : Nat) (F : List Val → M Val) : Sp := fun vs H Q _ => ∃ wd S ds d S', WR K cl wd S H ∧ RVs K wd S.length H vs ds ∧ ds.length = n ∧ F ds S = some (d, S') ∧
  ∀ wd' v H', WR K cl wd' S' H' → Ext wd S H wd' S' H' → RV K wd' S'.length H' v d → Q v H'
section
variable {P : Program} {w : World} {K : PySem.W.Frag} {mg : Str → Option Value} {base : Heap} {cl : Nat → Addr}
/-- THE RULE for a def -/
theorem fn_ok {x qual : Str} {st : Stmt} {f : Addr} {fd : FuncData} {N ps : List Str} {k : Nat} {g : DEnv → M Fl} {ex : Nat → Val → M Val} (F : Fun K x qual st f fd) (Sc : FnScope N ps (defScope st)) (hx : SimX K cl ex)
    (body : ∀ (cdv : Value) (A : Around) (outer : List Env) (s : Shared) (H : Hp) (E : XK), Room k (A.deeper (envOfC qual (defScope st) s.heap.objs.size f cdv)) → DSs (cxOf CX0 P w K mg base N qual (defScope st) f cdv A outer s H E).nox cl (defBody st) g) :
    FnOk P w K mg base CX0 (k + 1) f fd ps (spOf K cl ps.length (fnF N.length g ex)) := by
  refine F.ok Sc (fun vs H Q E h => ?_) fun cdv A outer s H vs Q E hr h => ?_
  · obtain ⟨wd, S, ds, d, S', _, r, l, _⟩ := h
    rw [r.length]; exact l
  · obtain ⟨wd, S, ds, d, S', w0, r, l, hF, kq⟩ := h
    obtain ⟨t, p, s⟩ := body cdv A outer s H E hr
    refine ⟨t, p, ?_⟩
    have er : ER K wd S.length H (L2.start N vs) (startD N.length ds) := by
      refine ⟨by simp [L2.start, startD, r.length], fun i d e => ?_⟩
      unfold startD at e
      by_cases hi : i < ds.length
      · rw [List.getElem?_append_left (by simpa using hi), List.getElem?_map] at e
        cases hd : ds[i]? with
        | none => rw [hd] at e; cases e
        | some d' =>
          rw [hd] at e
          cases e
          obtain ⟨v, h1, h2⟩ := r.get hd
          refine ⟨v, ?_, h2⟩
          unfold L2.start
          rw [List.getElem?_append_left (by simpa using lt_of_get h1), List.getElem?_map, h1]
          rfl
      · rw [List.getElem?_append_right (by simpa using hi), List.getElem?_replicate] at e
        split at e <;> cases e
    unfold fnF at hF
    split at hF
    · rename_i ρ' S1 e1
      refine s wd _ _ S H _ _ S1 w0 er e1 fun wd1 σ1 H1 w1 x1 q1 => ?_
      obtain ⟨wd2, w2, x2, r2⟩ := hx wd S H wd1 S1 H1 .non (.pd .none) d S' w0 w1 x1 .non hF
      exact kq wd2 .non H1 w2 x2 r2
    · rename_i d1 S1 e1
      refine s wd _ _ S H _ _ S1 w0 er e1 fun wd1 v1 H1 w1 x1 r1 => ?_
      obtain ⟨wd2, w2, x2, r2⟩ := hx wd S H wd1 S1 H1 v1 d1 d S' w0 w1 x1 r1 hF
      exact kq wd2 v1 H1 w2 x2 r2
    · cases hF
end
/-- a def that may be called by its name -/
def CalD (P : Program) (w : World) (K : PySem.W.Frag) (mg : Str → Option Value) (base : Heap) (cl : Nat → Addr) (k : Nat) (x : Str) (n : Nat) (F : List Val → M Val) : Prop :=
  ∃ (f : Addr) (fd : FuncData) (ps : List Str), ps.length = n ∧ FnOk P w K mg base CX0 k f fd ps (spOf K cl ps.length F) ∧ mg x = some (.ref f) ∧ PySem.W.keepIn K (.ref f) = true ∧ Binds K fd ps []
/-- a method of a class; how a class is made -/
def MetD (P : Program) (w : World) (K : PySem.W.Frag) (mg : Str → Option Value) (base : Heap) (cl : Nat → Addr) (k c : Nat) (m : Str) (n : Nat) (F : List Val → M Val) : Prop :=
  ∃ (f : Addr) (fd : FuncData) (ps : List Str), ps.length = n ∧ FnOk P w K mg base CX0 k f fd ps (spOf K cl ps.length F) ∧ Cls K (cl c) ∧ Meth K (cl c) m f ∧ Binds K fd ps []
def MakD (P : Program) (w : World) (K : PySem.W.Frag) (mg : Str → Option Value) (base : Heap) (cl : Nat → Addr) (k c : Nat) (x : Str) (n : Nat) (F : List Val → M Val) : Prop :=
  ∃ (f : Addr) (fd : FuncData) (ps : List Str), ps.length = n ∧ FnOk P w K mg base CX0 k f fd ps (spOf K cl ps.length F) ∧ Mk K (cl c) f ∧ mg x = some (.ref (cl c)) ∧ Binds K fd ps []
def eCall (F : List Val → M Val) (n : Nat) (fa : DEnv → M (List Val)) : DEnv → M Val := fun ρ S => bindR (fa ρ S) fun ds S1 => if ds.length = n then F ds S1 else none
def eMeth (c : Nat) (m : Str) (F : List Val → M Val) (n : Nat) (fo : DEnv → M Val) (fa : DEnv → M (List Val)) : DEnv → M Val := fun ρ S => bindR (fo ρ S) fun o S1 => match o with
  | .obj h => match S1[h]? with
    | some (.ins c' fs) => if c' = c ∧ fs.lookup m = none then bindR (fa ρ S1) fun ds S2 => if ds.length + 1 = n then F (.obj h :: ds) S2 else none else none
    | _ => none
  | _ => none
def eMake (c : Nat) (F : List Val → M Val) (n : Nat) (fa : DEnv → M (List Val)) : DEnv → M Val := fun ρ S => bindR (fa ρ S) fun ds S1 => if ds.length + 1 = n then
  bindR (F (.obj S1.length :: ds) (S1 ++ [.ins c []])) fun r S2 => match r with
    | .pd .none => some (.obj S1.length, S2)
    | _ => none
  else none
theorem RV.none_inv {K : PySem.W.Frag} {wd : Wd} {n : Nat} {H : Hp} {v : V} (r : RV K wd n H v (.pd .none)) : v = .non := by cases r; rfl
section
variable {X : Cx} {cl : Nat → Addr} {pos : Pos} {k n : Nat} {x m : Str} {p apos : Pos} {e o : Expr} {es : List Expr} {F : List Val → M Val} {fo : DEnv → M Val} {fa : DEnv → M (List Val)}
theorem PKW.lookup {R : V → Val → Prop} {f : Str} : ∀ {gs : List (Str × V)} {fs : List (Str × Val)}, PKW R gs fs → (gs.lookup f = none ∧ fs.lookup f = none) ∨ ∃ v d, gs.lookup f = some v ∧ fs.lookup f = some d ∧ R v d
  | _, _, .nil => .inl ⟨rfl, rfl⟩
  | (g, v) :: gs, (_, d) :: fs, .cons ⟨e, r⟩ t => by
    dsimp only at e r
    subst e
    by_cases h : f = g
    · subst h
      right
      exact ⟨v, d, by simp [List.lookup], by simp [List.lookup], r⟩
    · have hb : (f == g) = false := by simpa using h
      have e1 : List.lookup f ((g, v) :: gs) = gs.lookup f := by simp [List.lookup, hb]
      have e2 : List.lookup f ((g, d) :: fs) = fs.lookup f := by simp [List.lookup, hb]
      rw [e1, e2]
      exact PKW.lookup t
theorem sim_call {sp : Sp} {t : TA} {E : XK} {np : Nat} (hs : sp = spOf X.K cl np F) (ha : SimA X.K cl t fa) : SimE X.K cl (tCall sp [] E t) (eCall F np fa) := fun wd σ ρ S H Q d S' w q h kk => by
  subst hs
  obtain ⟨ds, S1, h1, h⟩ := bindR_inv h
  split at h
  · rename_i hl
    refine ha wd σ ρ S H _ ds S1 w q h1 fun wd1 vs H1 w1 x1 r1 => ?_
    rw [List.append_nil]
    exact ⟨wd1, S1, ds, d, S', w1, r1, hl, h, fun wd2 v H2 w2 x2 r2 => kk wd2 v H2 w2 (x1.trans x2) r2⟩
  · cases h
theorem de_call {j : Nat} (c : CalD X.prog X.w X.K X.mg X.base cl k x n F) (hr : Room j X.A) (hk : k ≤ j) (hg : Gl X x) (ha : DA X cl (e :: es) fa) (hdb : (x == ("__debug__" : Str)) = false := by decide)
    (he : starEach (e :: es) X.env = (false, eval e X.env) :: starEach es X.env := by rfl) (hpl : (backTo pos (starEach es X.env)).any (·.1) = false := by rfl) : DE X cl (.Call (.Name x p) (e :: es) [] pos) (eCall F n fa) := by
  obtain ⟨f, fd, ps, hn, Fo, hm, hkp, hb⟩ := c
  obtain ⟨t, pa, sa⟩ := ha
  subst hn
  exact ⟨_, pe_call Fo (hr.mono hk) hg hm hkp hb .nil pass0 pa hdb he hpl, sim_call rfl sa⟩
theorem sim_nil {K : PySem.W.Frag} : SimA K cl tNil aNil := fun wd σ ρ S H Q d S' w q h k => by cases h; exact k wd [] H w .refl .nil
theorem de_call0 {j : Nat} (c : CalD X.prog X.w X.K X.mg X.base cl k x n F) (hr : Room j X.A) (hk : k ≤ j) (hg : Gl X x) (hdb : (x == ("__debug__" : Str)) = false := by decide) : DE X cl (.Call (.Name x p) [] [] pos) (eCall F n aNil) := by
  obtain ⟨f, fd, ps, hn, Fo, hm, hkp, hb⟩ := c
  subst hn
  exact ⟨_, pe_call0 Fo (hr.mono hk) hg hm hkp hb .nil pass0 hdb, sim_call rfl sim_nil⟩
theorem sim_meth {sp : Sp} {t : TA} {ta : TE} {E : XK} {np c : Nat} (hs : sp = spOf X.K cl np F) (ho : SimE X.K cl ta fo) (ha : SimA X.K cl t fa) : SimE X.K cl (tMeth (cl c) m sp [] E ta t) (eMeth c m F np fo fa) := fun wd σ ρ S H Q d S' w q h kk => by
  subst hs
  obtain ⟨od, S1, h1, g⟩ := bindR_inv h
  clear h
  split at g
  · rename_i i
    split at g
    · rename_i c' fs es
      split at g
      · rename_i hc
        obtain ⟨rfl, hfs⟩ := hc
        obtain ⟨ds, S2, h2, g⟩ := bindR_inv g
        by_cases hl : ds.length + 1 = np
        · rw [if_pos hl] at g
          refine ho wd σ ρ S H _ _ S1 w q h1 fun wd1 v H1 w1 x1 r1 => ?_
          obtain ⟨hi, rfl⟩ := r1
          obtain ⟨dx, f, e1, gs, e2, pk⟩ := w1.ob i _ es
          refine ⟨_, dx, gs, rfl, e2, ?_, ?_⟩
          · rcases PKW.lookup (f := m) pk with ⟨z, _⟩ | ⟨_, _, _, z, _⟩
            · exact z
            · rw [hfs] at z; cases z
          · refine ha wd1 σ ρ S1 H1 _ ds S2 w1 (q.ext x1) h2 fun wd2 vs H2 w2 x2 r2 => ?_
            rw [List.append_nil]
            exact ⟨wd2, S2, .obj i :: ds, d, S', w2, .cons (RV.ext x2 (d := .obj i) ⟨hi, rfl⟩) r2, by simpa using hl, g, fun wd3 v H3 w3 x3 r3 => kk wd3 v H3 w3 ((x1.trans x2).trans x3) r3⟩
        · rw [if_neg hl] at g
          cases g
      · cases g
    · cases g
  · cases g
theorem de_meth {j c : Nat} {pl : Sem Bool} (cm : MetD X.prog X.w X.K X.mg X.base cl k c m n F) (hr : Room j X.A) (hk : k ≤ j) (ho : DE X cl o fo) (ha : DA X cl (e :: es) fa)
    (hst : starEach (e :: es) X.env = (false, eval e X.env) :: starEach es X.env := by rfl) (hpl : (backTo pos (starEach es X.env)).any (·.1) = false := by rfl)
    (ht : eval (.Call (.Attribute o m apos) (e :: es) [] pos) X.env = (do
      let ov ← eval o X.env
      standAt apos.atName
      let (f, first) ← holding [ov] (getMethod ov m pl)
      callWith pos f first (backTo pos (starEach (e :: es) X.env)) (backToKw pos (keywordEach [] X.env))) := by rfl) : DE X cl (.Call (.Attribute o m apos) (e :: es) [] pos) (eMeth c m F n fo fa) := by
  obtain ⟨f, fd, ps, hn, Fo, hc, hm, hb⟩ := cm
  obtain ⟨t, pa, sa⟩ := ha
  obtain ⟨t', po, so⟩ := ho
  subst hn
  exact ⟨_, pe_meth (pl := pl) po hc hm Fo (hr.mono hk) hb .nil pass0 pa hst hpl ht, sim_meth rfl so sa⟩
theorem de_meth0 {j c : Nat} {pl : Sem Bool} (cm : MetD X.prog X.w X.K X.mg X.base cl k c m n F) (hr : Room j X.A) (hk : k ≤ j) (ho : DE X cl o fo)
    (ht : eval (.Call (.Attribute o m apos) [] [] pos) X.env = (do
      let ov ← eval o X.env
      standAt apos.atName
      let (f, first) ← holding [ov] (getMethod ov m pl)
      callWith pos f first (backTo pos (starEach [] X.env)) (backToKw pos (keywordEach [] X.env))) := by rfl) : DE X cl (.Call (.Attribute o m apos) [] [] pos) (eMeth c m F n fo aNil) := by
  obtain ⟨f, fd, ps, hn, Fo, hc, hm, hb⟩ := cm
  obtain ⟨t', po, so⟩ := ho
  subst hn
  exact ⟨_, pe_meth0 (pl := pl) po hc hm Fo (hr.mono hk) hb .nil pass0 ht, sim_meth rfl so sim_nil⟩
theorem sim_make {sp : Sp} {t : TA} {E : XK} {np c : Nat} (hs : sp = spOf X.K cl np F) (ha : SimA X.K cl t fa) : SimE X.K cl (tMake (cl c) sp [] E t) (eMake c F np fa) := fun wd σ ρ S H Q d S' w q h kk => by
  subst hs
  obtain ⟨ds, S1, h1, h⟩ := bindR_inv h
  split at h
  · rename_i hl
    obtain ⟨z, S2, h2, h⟩ := bindR_inv h
    have hz : z = .pd .none ∧ d = .obj S1.length ∧ S' = S2 := by
      cases z with
      | obj _ => cases h
      | pd y =>
        cases y with
        | none => cases h; exact ⟨rfl, rfl, rfl⟩
        | _ => cases h
    · obtain ⟨rfl, hd, hS⟩ := hz
      rw [hd, hS] at kk
      clear h hd hS
      refine ha wd σ ρ S H _ ds S1 w q h1 fun wd1 vs H1 w1 x1 r1 => ?_
      intro x dx hx hdx ne
      rw [List.append_nil]
      have hk1 : ∀ b u, H1 b = some u → (upd (upd H1 dx (.own x)) x (.ins (cl c) dx [])) b = some u := fun b u e => by
        rw [upd_ne (ne_of_none e hx), upd_ne (ne_of_none e hdx)]; exact e
      have hdx1 : (upd (upd H1 dx (.own x)) x (.ins (cl c) dx [])) dx = some (.own x) := by rw [upd_ne ne, upd_same]
      obtain ⟨w2, x2⟩ := w1.push (o := .ins c []) (p := x) (f := fun b => b = x ∨ b = dx) hk1 (fun b hb => by
        rcases hb with rfl | rfl
        · exact ⟨hx, _, upd_same⟩
        · exact ⟨hdx, _, hdx1⟩) ⟨dx, fun b => Iff.rfl, hdx1, [], upd_same, .nil⟩
      refine ⟨_, S1 ++ [.ins c []], .obj S1.length :: ds, .pd .none, S2, w2, .cons ⟨by simp, by simp [Wd.push]⟩ (r1.ext x2), by simpa using hl, h2, fun wd3 v H3 w3 x3 r3 => ⟨r3.none_inv, ?_⟩⟩
      refine kk wd3 _ H3 w3 ((x1.trans x2).trans x3) ⟨by have := x3.len; simp at this; omega, ?_⟩
      rw [x3.ad _ (by simp)]
      simp [Wd.push]
  · cases h
theorem de_make {j c : Nat} (cm : MakD X.prog X.w X.K X.mg X.base cl k c x n F) (hr : Room j X.A) (hk : k + 1 ≤ j) (hg : Gl X x) (ha : DA X cl (e :: es) fa) (hdb : (x == ("__debug__" : Str)) = false := by decide)
    (he : starEach (e :: es) X.env = (false, eval e X.env) :: starEach es X.env := by rfl) (hpl : (backTo pos (starEach es X.env)).any (·.1) = false := by rfl) : DE X cl (.Call (.Name x p) (e :: es) [] pos) (eMake c F n fa) := by
  obtain ⟨f, fd, ps, hn, Fo, hmk, hm, hb⟩ := cm
  obtain ⟨t, pa, sa⟩ := ha
  subst hn
  exact ⟨_, pe_make hmk Fo (hr.mono hk) hg hm hb .nil pass0 pa hdb he hpl, sim_make rfl sa⟩
theorem de_make0 {j c : Nat} (cm : MakD X.prog X.w X.K X.mg X.base cl k c x n F) (hr : Room j X.A) (hk : k + 1 ≤ j) (hg : Gl X x) (hdb : (x == ("__debug__" : Str)) = false := by decide) : DE X cl (.Call (.Name x p) [] [] pos) (eMake c F n aNil) := by
  obtain ⟨f, fd, ps, hn, Fo, hmk, hm, hb⟩ := cm
  subst hn
  exact ⟨_, pe_make0 hmk Fo (hr.mono hk) hg hm hb .nil pass0 hdb, sim_make rfl sim_nil⟩
end
end DM
set_option Elab.async false
set_option linter.all false
set_option maxRecDepth 100000
namespace DM
open PySem L2 PyProof.Rows
theorem szl : sizeLine = 16777216 := sizeLine_eq
/-! ### reading -/
def getL (d : Val) (S : Store) : Option (List PyData) := match d with
  | .pd (.list xs) => some xs
  | .obj h => match S[h]? with
    | some (.lst xs) => some xs
    | some (.lock (.lst xs)) => some xs
    | some (.scr xs) => some xs
    | _ => none
  | _ => none
/-- no script -/
def getR (d : Val) (S : Store) : Option (List PyData) := match d with
  | .pd (.list xs) => some xs
  | .obj h => match S[h]? with
    | some (.lst xs) => some xs
    | some (.lock (.lst xs)) => some xs
    | _ => none
  | _ => none
/-- as values -/
def getV (d : Val) (S : Store) : Option (List Val) := match d with
  | .pd (.list xs) => some (xs.map Val.pd)
  | .obj h => match S[h]? with
    | some (.lst xs) => some (xs.map Val.pd)
    | some (.lock (.lst xs)) => some (xs.map Val.pd)
    | some (.scr xs) => some (xs.map Val.pd)
    | some (.lsv xs) => some xs
    | some (.lock (.lsv xs)) => some xs
    | _ => none
  | _ => none
/-- data -/
def toD (d : Val) (S : Store) : Option PyData := match d with
  | .pd d => some d
  | .obj h => match S[h]? with
    | some (.lst xs) => some (.list xs)
    | some (.lock (.lst xs)) => some (.list xs)
    | some (.scr xs) => some (.list xs)
    | some (.lsv []) => some (.list [])
    | _ => none
section
variable {K : PySem.W.Frag} {cl : Nat → Addr} {wd : Wd} {S : Store} {H : Hp} {v : V} {d : Val}
theorem WR.getL (w : WR K cl wd S H) (r : RV K wd S.length H v d) {xs : List PyData} (h : getL d S = some xs) : ∃ a vs, v = .ref a ∧ SqL K H a vs ∧ RpAll K H (Own wd S.length) vs xs := by
  unfold DM.getL at h
  split at h
  · cases h
    cases r with
    | lst h1 h2 => exact ⟨_, _, rfl, h1.sq, h2⟩
  · rename_i i
    obtain ⟨hi, rfl⟩ := r
    split at h
    · rename_i e
      cases h
      obtain ⟨f, vs, e1, q⟩ := w.ob i _ e
      exact ⟨_, vs, rfl, SqL.of e1, q⟩
    · rename_i e
      cases h
      obtain ⟨f, vs, e1, q⟩ := w.ob i _ e
      exact ⟨_, vs, rfl, SqL.of e1, q⟩
    · rename_i e
      cases h
      obtain ⟨f, vs, e1, q⟩ := w.ob i _ e
      exact ⟨_, vs, rfl, e1.sq, q⟩
    · cases h
  · cases h
theorem WR.getR (w : WR K cl wd S H) (r : RV K wd S.length H v d) {xs : List PyData} (h : getR d S = some xs) : ∃ a vs, v = .ref a ∧ Rd H a (.lst vs) ∧ RpAll K H (Own wd S.length) vs xs := by
  unfold DM.getR at h
  split at h
  · cases h
    cases r with
    | lst h1 h2 => exact ⟨_, _, rfl, h1.1, h2⟩
  · rename_i i
    obtain ⟨hi, rfl⟩ := r
    split at h
    · rename_i e
      cases h
      obtain ⟨f, vs, e1, q⟩ := w.ob i _ e
      exact ⟨_, vs, rfl, .inl e1, q⟩
    · rename_i e
      cases h
      obtain ⟨f, vs, e1, q⟩ := w.ob i _ e
      exact ⟨_, vs, rfl, .inl e1, q⟩
    · cases h
  · cases h
theorem WR.getV (w : WR K cl wd S H) (r : RV K wd S.length H v d) {xs : List Val} (h : getV d S = some xs) : ∃ a vs, v = .ref a ∧ SqL K H a vs ∧ RVs K wd S.length H vs xs := by
  unfold DM.getV at h
  split at h
  · cases h
    cases r with
    | lst h1 h2 => exact ⟨_, _, rfl, h1.sq, h2.rvs⟩
  · rename_i i
    obtain ⟨hi, rfl⟩ := r
    split at h
    · rename_i e
      cases h
      obtain ⟨f, vs, e1, q⟩ := w.ob i _ e
      exact ⟨_, vs, rfl, SqL.of e1, q.rvs⟩
    · rename_i e
      cases h
      obtain ⟨f, vs, e1, q⟩ := w.ob i _ e
      exact ⟨_, vs, rfl, SqL.of e1, q.rvs⟩
    · rename_i e
      cases h
      obtain ⟨f, vs, e1, q⟩ := w.ob i _ e
      exact ⟨_, vs, rfl, e1.sq, q.rvs⟩
    · rename_i e
      cases h
      obtain ⟨f, vs, e1, q⟩ := w.ob i _ e
      exact ⟨_, vs, rfl, SqL.of e1, q⟩
    · rename_i e
      cases h
      obtain ⟨f, vs, e1, q⟩ := w.ob i _ e
      exact ⟨_, vs, rfl, SqL.of e1, q⟩
    · cases h
  · cases h
theorem WR.toD (w : WR K cl wd S H) (r : RV K wd S.length H v d) {x : PyData} (h : toD d S = some x) : Dp K H v x := by
  unfold DM.toD at h
  split at h
  · cases h
    exact Rp.dp _ _ r
  · rename_i i
    obtain ⟨hi, rfl⟩ := r
    split at h
    · rename_i e
      cases h
      obtain ⟨f, vs, e1, q⟩ := w.ob i _ e
      exact .lst (SqL.of e1) (RpAll.dp _ _ q)
    · rename_i e
      cases h
      obtain ⟨f, vs, e1, q⟩ := w.ob i _ e
      exact .lst (SqL.of e1) (RpAll.dp _ _ q)
    · rename_i e
      cases h
      obtain ⟨f, vs, e1, q⟩ := w.ob i _ e
      exact .lst e1.sq (RpAll.dp _ _ q)
    · rename_i e
      cases h
      obtain ⟨f, vs, e1, q⟩ := w.ob i _ e
      cases q
      exact .lst (SqL.of e1) .nil
    · cases h
/-- a new frozen tuple, list; a new list of the store -/
theorem WR.newT (w : WR K cl wd S H) {vs : List V} {ds : List PyData} (r : RpAll K H (Own wd S.length) vs ds) {p : Addr} (hp : H p = none) :
    WR K cl wd S (upd H p (.tup vs)) ∧ Ext wd S H wd S (upd H p (.tup vs)) ∧ RV K wd S.length (upd H p (.tup vs)) (.ref p) (.pd (.tuple ds)) := by
  have hk := upd_keeps (o := .tup vs) hp
  exact ⟨w.mono_all hk, Ext.all w hk, .tup (.inl ⟨upd_same, w.fresh hp⟩) (RpAll.mono (fun b o e n => ⟨hk b o e, n⟩) _ _ r)⟩
theorem WR.newF (w : WR K cl wd S H) {vs : List V} {ds : List PyData} (r : RpAll K H (Own wd S.length) vs ds) {p : Addr} (hp : H p = none) :
    WR K cl wd S (upd H p (.lst vs)) ∧ Ext wd S H wd S (upd H p (.lst vs)) ∧ RV K wd S.length (upd H p (.lst vs)) (.ref p) (.pd (.list ds)) := by
  have hk := upd_keeps (o := .lst vs) hp
  exact ⟨w.mono_all hk, Ext.all w hk, .lst ⟨.inl upd_same, w.fresh hp⟩ (RpAll.mono (fun b o e n => ⟨hk b o e, n⟩) _ _ r)⟩
theorem WR.newL (w : WR K cl wd S H) {vs : List V} {ds : List PyData} (r : RpAll K H (Own wd S.length) vs ds) {p : Addr} (hp : H p = none) :
    ∃ wd', WR K cl wd' (S ++ [.lst ds]) (upd H p (.lst vs)) ∧ Ext wd S H wd' (S ++ [.lst ds]) (upd H p (.lst vs)) ∧ RV K wd' (S ++ [Ob.lst ds]).length (upd H p (.lst vs)) (.ref p) (.obj S.length) := by
  have hk := upd_keeps (o := .lst vs) hp
  obtain ⟨w2, x2⟩ := w.push (o := .lst ds) (p := p) (f := fun b => b = p) hk (fun b hb => by subst hb; exact ⟨hp, _, upd_same⟩) ⟨fun b => Iff.rfl, vs, upd_same, RpAll.mono (fun b o e n => ⟨hk b o e, by
    rw [push_own]
    rintro (z | z)
    · exact n z
    · subst z; rw [hp] at e; cases e⟩) _ _ r⟩
  exact ⟨_, w2, x2, ⟨by simp, by simp [Wd.push]⟩⟩
theorem WR.newLV (w : WR K cl wd S H) {vs : List V} {ds : List Val} (r : RVs K wd S.length H vs ds) {p : Addr} (hp : H p = none) :
    ∃ wd', WR K cl wd' (S ++ [.lsv ds]) (upd H p (.lst vs)) ∧ Ext wd S H wd' (S ++ [.lsv ds]) (upd H p (.lst vs)) ∧ RV K wd' (S ++ [Ob.lsv ds]).length (upd H p (.lst vs)) (.ref p) (.obj S.length) := by
  have hk := upd_keeps (o := .lst vs) hp
  have kk : ∀ b u, H b = some u → ¬ Own wd S.length b → upd H p (.lst vs) b = some u ∧ ¬ Own (wd.push S.length p fun b => b = p) (S.length + 1) b := fun b o e n => ⟨hk b o e, by
    rw [push_own]
    rintro (z | z)
    · exact n z
    · subst z; rw [hp] at e; cases e⟩
  have r' : RVs K (wd.push S.length p fun b => b = p) (S.length + 1) (upd H p (.lst vs)) vs ds := by
    have ad : ∀ i, i < S.length → (wd.push S.length p fun b => b = p).ad i = wd.ad i := fun i hi => by
      have : i ≠ S.length := by omega
      simp [Wd.push, this]
    generalize hH : upd H p (.lst vs) = H'
    rw [hH] at kk
    clear hH hk
    induction r with
    | nil => exact .nil
    | @cons v vs' d ds' r _ ih =>
      refine .cons ?_ ih
      cases d with
      | pd d => exact Rp.mono kk d v r
      | obj i => exact ⟨by have := r.1; omega, by rw [ad i r.1]; exact r.2⟩
  obtain ⟨w2, x2⟩ := w.push (o := .lsv ds) (p := p) (f := fun b => b = p) hk (fun b hb => by subst hb; exact ⟨hp, _, upd_same⟩) ⟨fun b => Iff.rfl, vs, upd_same, r'⟩
  exact ⟨_, w2, x2, ⟨by simp, by simp [Wd.push]⟩⟩
theorem WR.newDK (w : WR K cl wd S H) {p : Addr} (hp : H p = none) :
    ∃ wd', WR K cl wd' (S ++ [.dK []]) (upd H p (.dK [])) ∧ Ext wd S H wd' (S ++ [.dK []]) (upd H p (.dK [])) ∧ RV K wd' (S ++ [Ob.dK []]).length (upd H p (.dK [])) (.ref p) (.obj S.length) := by
  have hk := upd_keeps (o := .dK []) hp
  obtain ⟨w2, x2⟩ := w.push (o := .dK []) (p := p) (f := fun b => b = p) hk (fun b hb => by subst hb; exact ⟨hp, _, upd_same⟩) ⟨fun b => Iff.rfl, [], upd_same, .nil⟩
  exact ⟨_, w2, x2, ⟨by simp, by simp [Wd.push]⟩⟩
/-- a list of the store changes -/
theorem WR.setL (w : WR K cl wd S H) {h : Nat} {xs ys : List PyData} {vs : List V} (e : S[h]? = some (.lst xs)) (r : RpAll K H (Own wd S.length) vs ys) :
    ∃ wd', WR K cl wd' (S.set h (.lst ys)) (upd H (wd.ad h) (.lst vs)) ∧ Ext wd S H wd' (S.set h (.lst ys)) (upd H (wd.ad h) (.lst vs)) := by
  obtain ⟨f, vs0, e0, _⟩ := w.ob h _ e
  have hf : ∀ b, wd.fp h b → b = wd.ad h := fun b hb => (f b).mp hb
  have own : ∀ b, Own (wd.own h fun b => b = wd.ad h) S.length b → Own wd S.length b := by
    rintro b (z | ⟨i, hi, q⟩)
    · exact .inl z
    by_cases ei : i = h
    · subst ei
      simp [Wd.own] at q
      exact .inr ⟨i, hi, (f b).mpr q⟩
    · simp [Wd.own, ei] at q
      exact .inr ⟨i, hi, q⟩
  have := w.set (o' := .lst ys) (f := fun b => b = wd.ad h) (H' := upd H (wd.ad h) (.lst vs)) e (fun u z => by cases z) (fun b nb u eb => by
    rw [upd_ne (fun z => nb ((f b).mpr z))]; exact eb) (fun b hb => by subst hb; exact ⟨.inl ((f _).mpr rfl), _, upd_same⟩) ⟨fun b => Iff.rfl, vs, upd_same, RpAll.mono (fun b o eb n => ⟨by
      rw [upd_ne (fun z => n (.inr ⟨h, lt_of_get e, (f b).mpr z⟩))]; exact eb, fun z => n (own b z)⟩) _ _ r⟩
  exact ⟨_, this.1, this.2⟩
theorem WR.setLV (w : WR K cl wd S H) {h : Nat} {o : Ob} {ys : List Val} {vs : List V} (e : S[h]? = some o) (ho : (∃ xs, o = .lst xs) ∨ ∃ xs, o = .lsv xs) (r : RVs K wd S.length H vs ys) :
    ∃ wd', WR K cl wd' (S.set h (.lsv ys)) (upd H (wd.ad h) (.lst vs)) ∧ Ext wd S H wd' (S.set h (.lsv ys)) (upd H (wd.ad h) (.lst vs)) := by
  have f : ∀ b, wd.fp h b ↔ b = wd.ad h := by
    rcases ho with ⟨xs, rfl⟩ | ⟨xs, rfl⟩
    · exact (w.ob h _ e).1
    · exact (w.ob h _ e).1
  have own : ∀ b, Own (wd.own h fun b => b = wd.ad h) S.length b → Own wd S.length b := by
    rintro b (z | ⟨i, hi, q⟩)
    · exact .inl z
    by_cases ei : i = h
    · subst ei
      simp [Wd.own] at q
      exact .inr ⟨i, hi, (f b).mpr q⟩
    · simp [Wd.own, ei] at q
      exact .inr ⟨i, hi, q⟩
  have kk : ∀ b u, H b = some u → ¬ Own wd S.length b → upd H (wd.ad h) (.lst vs) b = some u ∧ ¬ Own (wd.own h fun b => b = wd.ad h) S.length b := fun b u eb n => ⟨by
    rw [upd_ne (fun z => n (.inr ⟨h, lt_of_get e, (f b).mpr z⟩))]; exact eb, fun z => n (own b z)⟩
  have r' : RVs K (wd.own h fun b => b = wd.ad h) S.length (upd H (wd.ad h) (.lst vs)) vs ys := by
    generalize hH : upd H (wd.ad h) (.lst vs) = H'
    rw [hH] at kk
    clear hH
    induction r with
    | nil => exact .nil
    | @cons v vs' d ds' r _ ih =>
      refine .cons ?_ ih
      cases d with
      | pd d => exact Rp.mono kk d v r
      | obj i => exact r
  have := w.set (o' := .lsv ys) (f := fun b => b = wd.ad h) (H' := upd H (wd.ad h) (.lst vs)) e (fun u z => by
      rcases ho with ⟨xs, rfl⟩ | ⟨xs, rfl⟩ <;> cases z) (fun b nb u eb => by
    rw [upd_ne (fun z => nb ((f b).mpr z))]; exact eb) (fun b hb => by subst hb; exact ⟨.inl ((f _).mpr rfl), _, upd_same⟩) ⟨fun b => Iff.rfl, vs, upd_same, r'⟩
  exact ⟨_, this.1, this.2⟩
end
/-! ### displays -/
def allPd : List Val → Option (List PyData)
  | [] => some []
  | .pd d :: r => (allPd r).map (d :: ·)
  | .obj _ :: _ => none
theorem allPd_eq : ∀ {ds : List Val} {xs : List PyData}, allPd ds = some xs → ds = xs.map Val.pd
  | [], _, h => by cases h; rfl
  | .pd d :: r, xs, h => by
    unfold allPd at h
    cases hr : allPd r with
    | none => rw [hr] at h; cases h
    | some ys =>
      rw [hr] at h
      cases h
      rw [allPd_eq hr]
      rfl
  | .obj _ :: _, _, h => by cases h
@[simp] theorem allPd_map : ∀ (xs : List PyData), allPd (xs.map Val.pd) = some xs
  | [] => rfl
  | x :: xs => by simp [allPd, allPd_map xs]
def uTup : List Val → M Val := fun ds S => match allPd ds with
  | some xs => if xs.length ≤ 16777216 then some (.pd (.tuple xs), S) else none
  | none => none
def uLst : List Val → M Val := fun ds S => match allPd ds with
  | some xs => if xs.length ≤ 16777216 then some (.pd (.list xs), S) else none
  | none => none
/-- a list that will be changed -/
def uLstM : List Val → M Val := fun ds S => if ds.length ≤ 16777216 then match allPd ds with
  | some xs => some (.obj S.length, S ++ [.lst xs])
  | none => some (.obj S.length, S ++ [.lsv ds])
  else none
def uLstV : List Val → M Val := fun ds S => if ds.length ≤ 16777216 then some (.obj S.length, S ++ [.lsv ds]) else none
section
variable {X : Cx} {cl : Nat → Addr} {pos : Pos} {es : List Expr} {fs : DEnv → M (List Val)}
theorem de_tup {x1} (h : DA X cl es fs) : DE X cl (.Tuple es x1 pos) (eA uTup fs) := by
  obtain ⟨t, p, s⟩ := h
  refine ⟨_, pe_tup p, fun wd σ ρ S H Q d S' w q h k => ?_⟩
  obtain ⟨ds, S1, h1, h⟩ := bindR_inv h
  refine s wd σ ρ S H _ ds S1 w q h1 fun wd1 vs H1 w1 x1 r1 => ?_
  unfold uTup at h
  split at h
  · rename_i xs ex
    have := allPd_eq ex
    subst this
    split at h
    · rename_i hl
      cases h
      refine ⟨by rw [r1.length, List.length_map, szl]; exact hl, fun p hp => ?_⟩
      obtain ⟨w2, x2, r2⟩ := w1.newT r1.pds hp
      exact k _ _ _ w2 (x1.trans x2) r2
    · cases h
  · cases h
theorem de_lst (h : DA X cl es fs) : DE X cl (.List es pos) (eA uLst fs) := by
  obtain ⟨t, p, s⟩ := h
  refine ⟨_, pe_lst p, fun wd σ ρ S H Q d S' w q h k => ?_⟩
  obtain ⟨ds, S1, h1, h⟩ := bindR_inv h
  refine s wd σ ρ S H _ ds S1 w q h1 fun wd1 vs H1 w1 x1 r1 => ?_
  unfold uLst at h
  split at h
  · rename_i xs ex
    have := allPd_eq ex
    subst this
    split at h
    · rename_i hl
      cases h
      refine ⟨by rw [r1.length, List.length_map, szl]; exact hl, fun p hp => ?_⟩
      obtain ⟨w2, x2, r2⟩ := w1.newF r1.pds hp
      exact k _ _ _ w2 (x1.trans x2) r2
    · cases h
  · cases h
theorem de_lstM (h : DA X cl es fs) : DE X cl (.List es pos) (eA uLstM fs) := by
  obtain ⟨t, p, s⟩ := h
  refine ⟨_, pe_lst p, fun wd σ ρ S H Q d S' w q h k => ?_⟩
  obtain ⟨ds, S1, h1, h⟩ := bindR_inv h
  refine s wd σ ρ S H _ ds S1 w q h1 fun wd1 vs H1 w1 x1 r1 => ?_
  unfold uLstM at h
  split at h
  · rename_i hl
    refine ⟨by rw [r1.length, szl]; exact hl, fun p hp => ?_⟩
    split at h
    · rename_i xs ex
      have := allPd_eq ex
      subst this
      cases h
      obtain ⟨wd2, w2, x2, r2⟩ := w1.newL r1.pds hp
      exact k _ _ _ w2 (x1.trans x2) r2
    · cases h
      obtain ⟨wd2, w2, x2, r2⟩ := w1.newLV r1 hp
      exact k _ _ _ w2 (x1.trans x2) r2
  · cases h
theorem de_lstV (h : DA X cl es fs) : DE X cl (.List es pos) (eA uLstV fs) := by
  obtain ⟨t, p, s⟩ := h
  refine ⟨_, pe_lst p, fun wd σ ρ S H Q d S' w q h k => ?_⟩
  obtain ⟨ds, S1, h1, h⟩ := bindR_inv h
  refine s wd σ ρ S H _ ds S1 w q h1 fun wd1 vs H1 w1 x1 r1 => ?_
  unfold uLstV at h
  split at h
  · rename_i hl
    refine ⟨by rw [r1.length, szl]; exact hl, fun p hp => ?_⟩
    cases h
    obtain ⟨wd2, w2, x2, r2⟩ := w1.newLV r1 hp
    exact k _ _ _ w2 (x1.trans x2) r2
  · cases h
end
/-! ### arithmetic -/
instance (i j : Int) : Decidable (CMul i j) := by unfold CMul; infer_instance
instance (i j : Int) : Decidable (CMulW i j) := by unfold CMulW; infer_instance
instance (i j : Int) : Decidable (CPow i j) := by unfold CPow; infer_instance
def uAdd : Val → Val → M Val := fun a b S => match a, b with
  | .pd (.int i), .pd (.int j) => some (.pd (.int (i + j)), S)
  | .pd (.str i), .pd (.str j) => if i.length + j.length ≤ 16777216 then some (.pd (.str (i ++ j)), S) else none
  | .pd (.tuple xs), .pd (.tuple ys) => if xs ≠ [] ∧ xs.length + ys.length ≤ 16777216 then some (.pd (.tuple (xs ++ ys)), S) else none
  | a, b => match getL a S, getL b S with
    | some xs, some ys => if xs.length + ys.length ≤ 16777216 then some (.pd (.list (xs ++ ys)), S) else none
    | _, _ => none
def uAddM : Val → Val → M Val := fun a b S => match getL a S, getL b S with
  | some xs, some ys => if xs.length + ys.length ≤ 16777216 then some (.obj S.length, S ++ [.lst (xs ++ ys)]) else none
  | _, _ => none
def uSub : Val → Val → M Val := fun a b S => match a, b with
  | .pd (.int i), .pd (.int j) => some (.pd (.int (i - j)), S)
  | _, _ => none
/-- a text times an int -/
def repS (x : Str) (n : Nat) : Str := ⟨(List.replicate n x.cps.toList).flatten.toArray⟩
theorem repS_len (x : Str) (n : Nat) : (repS x n).length = n * x.length := by
  show (List.replicate n x.cps.toList).flatten.toArray.size = _
  rw [List.size_toArray, List.length_flatten, List.map_replicate, List.sum_replicate_nat]
  rfl
def uMul : Val → Val → M Val := fun a b S => match a, b with
  | .pd (.int i), .pd (.int j) => if CMul i j ∨ CMulW i j then some (.pd (.int (i * j)), S) else none
  | .pd (.str z), .pd (.int j) => if 0 ≤ j ∧ j ≤ 4096 ∧ z.length ≤ 4096 then some (.pd (.str (repS z j.toNat)), S) else none
  | a, .pd (.int j) => match getR a S with
    | some xs => if -(2 ^ 63) ≤ j ∧ j < 2 ^ 63 ∧ xs.length * j.toNat ≤ 16777216 then some (.pd (.list (List.replicate j.toNat xs).flatten), S) else none
    | none => none
  | _, _ => none
def uMulM : Val → Val → M Val := fun a b S => match b with
  | .pd (.int j) => match getR a S with
    | some xs => if -(2 ^ 63) ≤ j ∧ j < 2 ^ 63 ∧ xs.length * j.toNat ≤ 16777216 then some (.obj S.length, S ++ [.lst (List.replicate j.toNat xs).flatten]) else none
    | none => none
  | _ => none
def uMod : Val → Val → M Val := fun a b S => match a, b with
  | .pd (.int i), .pd (.int j) => if 0 < j then some (.pd (.int (i % j)), S) else none
  | _, _ => none
def uDiv : Val → Val → M Val := fun a b S => match a, b with
  | .pd (.int i), .pd (.int j) => if 0 < j ∧ (j < 1073741824 ∨ j.natAbs.log2 < 9000) then some (.pd (.int (i / j)), S) else none
  | _, _ => none
def uPow : Val → Val → M Val := fun a b S => match a, b with
  | .pd (.int i), .pd (.int j) => if CPow i j then some (.pd (.int (i ^ j.toNat)), S) else none
  | _, _ => none
def uShl : Val → Val → M Val := fun a b S => match a, b with
  | .pd (.int i), .pd (.int j) => if CPow i j then some (.pd (.int (i * 2 ^ j.toNat)), S) else none
  | _, _ => none
def uShr : Val → Val → M Val := fun a b S => match a, b with
  | .pd (.int i), .pd (.int j) => if 0 ≤ j then some (.pd (.int (i / 2 ^ j.toNat)), S) else none
  | _, _ => none
def uBand : Val → Val → M Val := fun a b S => match a, b with
  | .pd (.int i), .pd (.int j) => some (.pd (.int (Builtin.bitAnd i j)), S)
  | _, _ => none
def uNeg : Val → M Val := fun a S => match a with
  | .pd (.int i) => some (.pd (.int (-i)), S)
  | _ => none
def uLt (p : Int → Int → Bool) : Val → Val → M Val := fun a b S => match a, b with
  | .pd (.int i), .pd (.int j) => some (.pd (.bool (p i j)), S)
  | _, _ => none
/-- lists that may be known things -/
def rCatR (K : PySem.W.Frag) : R2 := fun x y H Q => ∃ l b xs zs, x = .ref l ∧ y = .ref b ∧ SqL K H l xs ∧ SqL K H b zs ∧ xs.length + zs.length ≤ sizeLine ∧ ∀ p, H p = none → Q (.ref p) (upd H p (.lst (xs ++ zs)))
theorem lstR {X : Cx} {pins : List (Addr × Obj)} {σ : L2.St} {H : Hp} {s : Shared} {l : Addr} {xs : List V} (I : Inv X pins σ H s) (hH : Rd H l (.lst xs)) : xs.length ≤ sizeLine ∧ ∃ (its : List Value) (n : Nat), Vals xs its ∧ xs.length = its.length ∧ s.heap.get? l = some { cls := .type "list", data := .seq its.toArray n } := by
  obtain ⟨z, its, n, r, e⟩ := hH.ok I.hok
  exact ⟨z, its, n, r, r.length, e⟩
theorem op_catR {X : Cx} : OpR X (binaryOp .Add) (rCatR X.K) := by
  intro pins s σ H x y v u Q I rx ry h
  obtain ⟨l, b, xs, zs, rfl, rfl, hH, hB, hz, q⟩ := h
  cases rx
  cases ry
  obtain ⟨its, r, pl, _⟩ := I.list hH
  obtain ⟨its2, r2, pl2, _⟩ := I.list hB
  have hl := r.length
  have hl2 := r2.length
  obtain ⟨⟨cls, dd, data, sl⟩, ho, hc, n, hd⟩ := pl.isList
  obtain ⟨⟨cls2, dd2, data2, sl2⟩, ho2, hc2, n2, hd2⟩ := pl2.isList
  simp only at hc hd hc2 hd2
  subst hc hd hc2 hd2
  have ea : its.toArray ++ its2.toArray = (its ++ its2).toArray := by simp
  refine concat_meets ⟨_, ho, rfl⟩ ⟨_, ho2, rfl⟩ noFill_list_add seq_list_add PySem.F.slot_list_add PySem.F.entry_list_add (PySem.F.args_list_add_2 _ _) (PyProof.Rows.list_addW l b its.toArray its2.toArray n n2 dd dd2 sl sl2 (by rw [List.size_toArray, List.size_toArray]; omega)) ⟨ho, ho2, ?_⟩
  rw [ea]
  exact ⟨.ref _, _, I.lnew (t' := s.toks) (r.append r2) (by rw [List.length_append]; omega), rfl, q _ I.fresh⟩
def rRepR : R2 := fun x y H Q => ∃ l k xs, x = .ref l ∧ y = .int k ∧ Rd H l (.lst xs) ∧ -(2 ^ 63) ≤ k ∧ k < 2 ^ 63 ∧ xs.length * k.toNat ≤ sizeLine ∧
  ∀ p, H p = none → Q (.ref p) (upd H p (.lst (List.replicate k.toNat xs).flatten))
theorem op_repR {X : Cx} : OpR X (binaryOp .Mult) rRepR := by
  intro pins s σ H x y v u Q I rx ry h
  obtain ⟨l, k, xs, rfl, rfl, hH, h1, h2, hz, q⟩ := h
  cases rx
  obtain ⟨t, rfl⟩ := ry
  obtain ⟨z, its, n, r, hl, e⟩ := lstR I hH
  have hlen : its.toArray.size * k.toNat ≤ sizeLine := by rw [List.size_toArray, ← hl]; exact hz
  have hcap : ¬ its.toArray.size * k.toNat > (2 ^ 63 - 1) / 8 := by
    have : (sizeLine : Nat) ≤ (2 ^ 63 - 1) / 8 := by decide
    omega
  have hfit : ¬ (!Builtin.List.listFitsIndex k) = true := by
    rw [fitsIndex_both h1 h2]
    exact Bool.false_ne_true
  have hlong : ¬ Builtin.List.listTooLong (its.toArray.size * k.toNat) = true := by
    rw [notLongL hlen]
    exact Bool.false_ne_true
  have hnew : List.foldl (fun x1 x2 => x1 ++ x2) #[] (List.replicate (if its.toArray.isEmpty = true then 0 else k.toNat) its.toArray) = (List.replicate k.toNat its).flatten.toArray := by
    have f0 : ∀ m : Nat, List.foldl (fun x1 x2 => x1 ++ x2) #[] (List.replicate m its.toArray) = (List.replicate m its).flatten.toArray := fun m => by
      have := foldl_rep its m []
      rw [List.nil_append] at this
      exact this
    rw [f0]
    cases its with
    | nil => simp
    | cons a r' => rw [if_neg (by simp)]
  refine wpAny_binaryOp_repeat_ref (T := "list") (U := "int") (by decide) ⟨_, e, rfl⟩ (fun s' => typeIs_int s' k t) noFill_list_mul F.fills_int_mul F.slot_int_rmul repeat_list F.slot_int_index.lookup
    (call_meets F.slot_int_rmul (typeIs_int s k t) F.entry_int_rmul (F.args_int_rmul_2 _ _) (int___rmul___int_list k t l its.toArray n)
      ⟨e, rfl, ⟨_, e, rfl⟩, call_meets F.slot_list_mul ⟨_, e, rfl⟩ F.entry_list_mul (F.args_list_mul_2 _ _) (AutoListH.list___mul___list_int_3 l its.toArray n k t hfit hcap hlong) ⟨e, ?_⟩⟩)
  rw [hnew]
  exact ⟨.ref _, _, I.lnew (t' := s.toks) (r.rep k.toNat) (by rw [PyProof.Rows.lm_len_rep_flat, Nat.mul_comm]; exact hz), rfl, q _ I.fresh⟩
def rAddA (K : PySem.W.Frag) : R2 := fun x y H Q => (rI0 fun i j => .int (i + j)) x y H Q ∨ (∃ i j, x = .str i ∧ y = .str j ∧ i.length + j.length ≤ sizeLine ∧ Q (.str (i ++ j)) H) ∨ rCatR K x y H Q ∨ rCatT K x y H Q
theorem repS_fold (x : Array Nat) : ∀ (n : Nat) (b : Array Nat), (List.replicate n x).foldl (· ++ ·) b = b ++ (List.replicate n x.toList).flatten.toArray
  | 0, b => by simp
  | n + 1, b => by
    rw [List.replicate_succ, List.foldl_cons, repS_fold x n, List.replicate_succ, List.flatten_cons]
    apply Array.toList_inj.mp
    simp
def rRepS : R2 := fun x y H Q => ∃ (z : Str) (n : Nat), x = .str z ∧ y = .int n ∧ n ≤ 4096 ∧ z.length ≤ 4096 ∧ Q (.str (repS z n)) H
theorem op_repS {X : Cx} : OpR X (binaryOp .Mult) rRepS := by
  intro pins s σ H x y v u Q I rx ry h
  obtain ⟨z, n, rfl, rfl, h1, h2, q⟩ := h
  obtain ⟨t, rfl⟩ := rx
  obtain ⟨t', rfl⟩ := ry
  have hb : z.length * n ≤ 4096 * 4096 := Nat.mul_le_mul h2 h1
  refine PySem.P.mul_str (by rw [decide_eq_false (by omega), decide_eq_false (by omega)]; rfl) (fun h0 _ => ?_) (fun _ _ => ?_) ?_
  · have h3 : (4096 : Int) ≤ (2 ^ 63 - 1) / (n : Int) := by
      rw [Int.le_ediv_iff_mul_le (by omega)]
      have : (4096 : Int) * n ≤ 4096 * 4096 := by omega
      omega
    omega
  · show decide (z.length * (n : Int).toNat > sizeLine) = false
    rw [Int.toNat_natCast, decide_eq_false]
    unfold sizeLine
    omega
  · split
    · rename_i h3
      have e : n = 0 := by omega
      subst e
      exact ⟨by decide, ⟨.str (repS z 0), H, I.tok _, ⟨_, rfl⟩, q⟩⟩
    · split
      · rename_i h3 h4
        have e : repS z n = z := by
          rw [Bool.or_eq_true, beq_iff_eq, beq_iff_eq] at h4
          unfold repS
          rcases h4 with h4 | h4
          · have e : n = 1 := by omega
            subst e
            simp
          · have e2 : z.cps = #[] := Array.eq_empty_of_size_eq_zero h4
            obtain ⟨c⟩ := z
            simp only at e2
            subst e2
            simp
        rw [e] at q
        exact ⟨.str z, H, I, ⟨_, rfl⟩, q⟩
      · have e : (⟨(List.replicate (n : Int).toNat z.cps).foldl (· ++ ·) #[]⟩ : Str) = repS z n := by
          rw [repS_fold, Int.toNat_natCast]
          unfold repS
          simp
        rw [e]
        refine ⟨?_, ⟨.str (repS z n), H, I.tok _, ⟨_, rfl⟩, q⟩⟩
        rw [repS_len, Nat.mul_comm]
        unfold sizeLine
        omega
def rMulA : R2 := fun x y H Q => (rI CMul fun i j => .int (i * j)) x y H Q ∨ (rI CMulW fun i j => .int (i * j)) x y H Q ∨ rRepS x y H Q ∨ rRepR x y H Q
def rDivA : R2 := fun x y H Q => (rI CDiv fun i j => .int (i / j)) x y H Q ∨ (rI CDivW fun i j => .int (i / j)) x y H Q
theorem op_addA {X : Cx} : OpR X (binaryOp .Add) (rAddA X.K) := op_add.or (op_add_str.or (op_catR.or op_catT))
theorem op_mulA {X : Cx} : OpR X (binaryOp .Mult) rMulA := op_mul.or (op_mulW.or (op_repS.or op_repR))
theorem op_divA {X : Cx} : OpR X (binaryOp .FloorDiv) rDivA := op_fdiv.or op_fdivW
section
variable {K : PySem.W.Frag} {cl : Nat → Addr}
theorem RV.int_inv {wd : Wd} {n : Nat} {H : Hp} {v : V} {i : Int} (r : RV K wd n H v (.pd (.int i))) : v = .int i := by cases r; rfl
theorem RV.str_inv {wd : Wd} {n : Nat} {H : Hp} {v : V} {i : Str} (r : RV K wd n H v (.pd (.str i))) : v = .str i := by cases r; rfl
theorem RV.bool_inv {wd : Wd} {n : Nat} {H : Hp} {v : V} {i : Bool} (r : RV K wd n H v (.pd (.bool i))) : v = .bl i := by cases r; rfl
theorem RV.tup_inv {wd : Wd} {n : Nat} {H : Hp} {v : V} {ds : List PyData} (r : RV K wd n H v (.pd (.tuple ds))) : ∃ a vs, v = .ref a ∧ FzT K H (Own wd n) a vs ∧ RpAll K H (Own wd n) vs ds := by
  cases r with
  | tup h1 h2 => exact ⟨_, _, rfl, h1, h2⟩
theorem so_add : SimO K cl (rAddA K) uAdd := fun wd S H x y dx dy Q d S' w rx ry h k => by
  unfold uAdd at h
  split at h
  · cases h
    obtain rfl := rx.int_inv
    obtain rfl := ry.int_inv
    exact .inl ⟨_, _, rfl, rfl, k wd _ H w .refl (.int _)⟩
  · split at h
    · rename_i hl
      cases h
      obtain rfl := rx.str_inv
      obtain rfl := ry.str_inv
      exact .inr (.inl ⟨_, _, rfl, rfl, by rw [szl]; exact hl, k wd _ H w .refl (.str _)⟩)
    · cases h
  · rename_i xs ys
    split at h
    · rename_i hl
      cases h
      obtain ⟨a, vs, rfl, f1, r1⟩ := rx.tup_inv
      obtain ⟨b, us, rfl, f2, r2⟩ := ry.tup_inv
      have l1 := r1.length
      have l2 := r2.length
      refine .inr (.inr (.inr ⟨a, b, vs, us, rfl, rfl, f1.sq, f2.sq, fun z => hl.1 ?_, by rw [szl, l1, l2]; exact hl.2, fun z => ?_, fun z p hp => ?_⟩))
      · subst z; cases r1; rfl
      · subst z
        cases r2
        rw [List.append_nil] at k
        exact k wd _ H w .refl rx
      · obtain ⟨w2, x2, r3⟩ := w.newT (r1.append r2) hp
        exact k _ _ _ w2 x2 r3
    · cases h
  · split at h
    · rename_i xs ys e1 e2
      split at h
      · rename_i hl
        cases h
        obtain ⟨a, vs, rfl, f1, r1⟩ := w.getL rx e1
        obtain ⟨b, us, rfl, f2, r2⟩ := w.getL ry e2
        have l1 := r1.length
        have l2 := r2.length
        refine .inr (.inr (.inl ⟨a, b, vs, us, rfl, rfl, f1, f2, by rw [szl, l1, l2]; exact hl, fun p hp => ?_⟩))
        obtain ⟨w2, x2, r3⟩ := w.newF (r1.append r2) hp
        exact k _ _ _ w2 x2 r3
      · cases h
    · cases h
theorem so_addM : SimO K cl (rCatR K) uAddM := fun wd S H x y dx dy Q d S' w rx ry h k => by
  unfold uAddM at h
  split at h
  · rename_i xs ys e1 e2
    split at h
    · rename_i hl
      cases h
      obtain ⟨a, vs, rfl, f1, r1⟩ := w.getL rx e1
      obtain ⟨b, us, rfl, f2, r2⟩ := w.getL ry e2
      have l1 := r1.length
      have l2 := r2.length
      refine ⟨a, b, vs, us, rfl, rfl, f1, f2, by rw [szl, l1, l2]; exact hl, fun p hp => ?_⟩
      obtain ⟨wd2, w2, x2, r3⟩ := w.newL (r1.append r2) hp
      exact k _ _ _ w2 x2 r3
    · cases h
  · cases h
theorem so_sub : SimO K cl (rI0 fun i j => .int (i - j)) uSub := fun wd S H x y dx dy Q d S' w rx ry h k => by
  unfold uSub at h
  split at h
  · cases h
    obtain rfl := rx.int_inv
    obtain rfl := ry.int_inv
    exact ⟨_, _, rfl, rfl, k wd _ H w .refl (.int _)⟩
  · cases h
theorem RpAll.rep {H : Hp} {O : Addr → Prop} {vs : List V} {ds : List PyData} (r : RpAll K H O vs ds) : ∀ n : Nat, RpAll K H O (List.replicate n vs).flatten (List.replicate n ds).flatten
  | 0 => .nil
  | n + 1 => by
    simp only [List.replicate_succ, List.flatten_cons]
    exact r.append (RpAll.rep r n)
theorem so_mul : SimO K cl rMulA uMul := fun wd S H x y dx dy Q d S' w rx ry h k => by
  unfold uMul at h
  split at h
  · split at h
    · rename_i hc
      cases h
      obtain rfl := rx.int_inv
      obtain rfl := ry.int_inv
      rcases hc with hc | hc
      · exact .inl ⟨_, _, rfl, rfl, hc, k wd _ H w .refl (.int _)⟩
      · exact .inr (.inl ⟨_, _, rfl, rfl, hc, k wd _ H w .refl (.int _)⟩)
    · cases h
  · split at h
    · rename_i hc
      cases h
      obtain rfl := rx.str_inv
      obtain rfl := ry.int_inv
      refine .inr (.inr (.inl ⟨_, Int.toNat _, rfl, ?_, by omega, hc.2.2, k wd _ H w .refl (.str _)⟩))
      rw [Int.toNat_of_nonneg hc.1]
    · cases h
  · split at h
    · rename_i xs e1
      split at h
      · rename_i hl
        cases h
        obtain ⟨a, vs, rfl, f1, r1⟩ := w.getR rx e1
        obtain rfl := ry.int_inv
        have l1 := r1.length
        refine .inr (.inr (.inr ⟨a, _, vs, rfl, rfl, f1, hl.1, hl.2.1, by rw [szl, l1]; exact hl.2.2, fun p hp => ?_⟩))
        obtain ⟨w2, x2, r3⟩ := w.newF (r1.rep _) hp
        exact k _ _ _ w2 x2 r3
      · cases h
    · cases h
  · cases h
theorem so_mulM : SimO K cl rRepR uMulM := fun wd S H x y dx dy Q d S' w rx ry h k => by
  unfold uMulM at h
  split at h
  · split at h
    · rename_i xs e1
      split at h
      · rename_i hl
        cases h
        obtain ⟨a, vs, rfl, f1, r1⟩ := w.getR rx e1
        obtain rfl := ry.int_inv
        have l1 := r1.length
        refine ⟨a, _, vs, rfl, rfl, f1, hl.1, hl.2.1, by rw [szl, l1]; exact hl.2.2, fun p hp => ?_⟩
        obtain ⟨wd2, w2, x2, r3⟩ := w.newL (r1.rep _) hp
        exact k _ _ _ w2 x2 r3
      · cases h
    · cases h
  · cases h
theorem so_mod : SimO K cl (rI (fun _ j => 0 < j) fun i j => .int (i % j)) uMod := fun wd S H x y dx dy Q d S' w rx ry h k => by
  unfold uMod at h
  split at h
  · split at h
    · rename_i hc
      cases h
      obtain rfl := rx.int_inv
      obtain rfl := ry.int_inv
      exact ⟨_, _, rfl, rfl, hc, k wd _ H w .refl (.int _)⟩
    · cases h
  · cases h
theorem so_div : SimO K cl rDivA uDiv := fun wd S H x y dx dy Q d S' w rx ry h k => by
  unfold uDiv at h
  split at h
  · split at h
    · rename_i hc
      cases h
      obtain rfl := rx.int_inv
      obtain rfl := ry.int_inv
      rcases hc.2 with z | z
      · exact .inl ⟨_, _, rfl, rfl, ⟨hc.1, z⟩, k wd _ H w .refl (.int _)⟩
      · exact .inr ⟨_, _, rfl, rfl, ⟨hc.1, z⟩, k wd _ H w .refl (.int _)⟩
    · cases h
  · cases h
theorem so_pow : SimO K cl (rI CPow fun i j => .int (i ^ j.toNat)) uPow := fun wd S H x y dx dy Q d S' w rx ry h k => by
  unfold uPow at h
  split at h
  · split at h
    · rename_i hc
      cases h
      obtain rfl := rx.int_inv
      obtain rfl := ry.int_inv
      exact ⟨_, _, rfl, rfl, hc, k wd _ H w .refl (.int _)⟩
    · cases h
  · cases h
theorem so_shl : SimO K cl (rI CPow fun i j => .int (i * 2 ^ j.toNat)) uShl := fun wd S H x y dx dy Q d S' w rx ry h k => by
  unfold uShl at h
  split at h
  · split at h
    · rename_i hc
      cases h
      obtain rfl := rx.int_inv
      obtain rfl := ry.int_inv
      exact ⟨_, _, rfl, rfl, hc, k wd _ H w .refl (.int _)⟩
    · cases h
  · cases h
theorem so_shr : SimO K cl (rI (fun _ j => 0 ≤ j) fun i j => .int (i / 2 ^ j.toNat)) uShr := fun wd S H x y dx dy Q d S' w rx ry h k => by
  unfold uShr at h
  split at h
  · split at h
    · rename_i hc
      cases h
      obtain rfl := rx.int_inv
      obtain rfl := ry.int_inv
      exact ⟨_, _, rfl, rfl, hc, k wd _ H w .refl (.int _)⟩
    · cases h
  · cases h
theorem so_band : SimO K cl (rI0 fun i j => .int (Builtin.bitAnd i j)) uBand := fun wd S H x y dx dy Q d S' w rx ry h k => by
  unfold uBand at h
  split at h
  · cases h
    obtain rfl := rx.int_inv
    obtain rfl := ry.int_inv
    exact ⟨_, _, rfl, rfl, k wd _ H w .refl (.int _)⟩
  · cases h
theorem su_neg : SimU K cl (rU fun i => .int (-i)) uNeg := fun wd S H x dx Q d S' w rx h k => by
  unfold uNeg at h
  split at h
  · cases h
    obtain rfl := rx.int_inv
    exact ⟨_, rfl, k wd _ H w .refl (.int _)⟩
  · cases h
theorem so_lt {p : Int → Int → Bool} : SimO K cl (rI0 fun i j => .bl (p i j)) (uLt p) := fun wd S H x y dx dy Q d S' w rx ry h k => by
  unfold uLt at h
  split at h
  · cases h
    obtain rfl := rx.int_inv
    obtain rfl := ry.int_inv
    exact ⟨_, _, rfl, rfl, k wd _ H w .refl (.bl _)⟩
  · cases h
/-! equality of data -/
def uEq : Val → Val → M Val := fun a b S => match toD a S, toD b S with
  | some x, some y => if SeqAt.shaped x = true ∧ SeqAt.shaped y = true then some (.pd (.bool (PyData.eqv x y)), S) else none
  | _, _ => none
def uNe : Val → Val → M Val := fun a b S => match toD a S, toD b S with
  | some x, some y => if SeqAt.shaped x = true ∧ SeqAt.shaped y = true then some (.pd (.bool (!PyData.eqv x y)), S) else none
  | _, _ => none
theorem so_eq : SimO K cl (rEqD K) uEq := fun wd S H x y dx dy Q d S' w rx ry h k => by
  unfold uEq at h
  split at h
  · rename_i e1 e2
    split at h
    · rename_i hs
      cases h
      exact ⟨_, _, w.toD rx e1, w.toD ry e2, hs.1, hs.2, k wd _ H w .refl (.bl _)⟩
    · cases h
  · cases h
theorem so_ne : SimO K cl (rNeD K) uNe := fun wd S H x y dx dy Q d S' w rx ry h k => by
  unfold uNe at h
  split at h
  · rename_i e1 e2
    split at h
    · rename_i hs
      cases h
      exact ⟨_, _, w.toD rx e1, w.toD ry e2, hs.1, hs.2, k wd _ H w .refl (.bl _)⟩
    · cases h
  · cases h
def isNon : Val → Bool
  | .pd .none => true
  | _ => false
def uIs : Val → Val → M Val := fun a b S => match b with
  | .pd .none => some (.pd (.bool (isNon a)), S)
  | _ => none
def uIsNot : Val → Val → M Val := fun a b S => match b with
  | .pd .none => some (.pd (.bool (!isNon a)), S)
  | _ => none
theorem RV.isNon {wd : Wd} {n : Nat} {H : Hp} {v : V} {d : Val} (r : RV K wd n H v d) : decide (v = .non) = isNon d := by
  cases d with
  | obj h => obtain ⟨_, rfl⟩ := r; rfl
  | pd d => cases r <;> rfl
theorem so_is : SimO K cl (fun x y H Q => y = .non ∧ Q (.bl (decide (x = .non))) H) uIs := fun wd S H x y dx dy Q d S' w rx ry h k => by
  unfold uIs at h
  split at h
  · cases h
    exact ⟨ry.none_inv, by rw [rx.isNon]; exact k wd _ H w .refl (.bl _)⟩
  · cases h
theorem so_isnot : SimO K cl (fun x y H Q => y = .non ∧ Q (.bl (!decide (x = .non))) H) uIsNot := fun wd S H x y dx dy Q d S' w rx ry h k => by
  unfold uIsNot at h
  split at h
  · cases h
    exact ⟨ry.none_inv, by rw [rx.isNon]; exact k wd _ H w .refl (.bl _)⟩
  · cases h
end
end DM
set_option Elab.async false
set_option linter.all false
set_option maxRecDepth 100000
namespace DM
open PySem L2 PyProof.Rows
/-! ### items and slices -/
theorem atI_rel {K : PySem.W.Frag} {wd : Wd} {n : Nat} {H : Hp} {vs : List V} {ds : List Val} {i : Int} {d : Val} (r : RVs K wd n H vs ds) (h : atI ds i = some d) : ∃ v, atI vs i = some v ∧ RV K wd n H v d := by
  unfold atI at h ⊢
  rw [r.length]
  cases e : ixN ds.length i with
  | none => rw [e] at h; cases h
  | some j =>
    rw [e] at h
    exact r.get h
theorem atI_map {i : Int} {xs : List PyData} : atI (xs.map Val.pd) i = (atI xs i).map Val.pd := by
  unfold atI
  rw [List.length_map]
  cases ixN xs.length i with
  | none => rfl
  | some j => simp
def uIx : Val → Val → M Val := fun a b S => match b with
  | .pd (.int i) => match a with
    | .pd (.tuple xs) => (atI xs i).map fun d => (.pd d, S)
    | .pd (.str z) => if z.length ≤ 16777216 then (atI z.cps.toList i).map fun c => (.pd (.str ⟨#[c]⟩), S) else none
    | a => (getV a S).bind fun xs => (atI xs i).map fun d => (d, S)
  | _ => none
theorem so_ix {K : PySem.W.Frag} {cl : Nat → Addr} : SimO K cl (rIx K) uIx := fun wd S H x y dx dy Q d S' w rx ry h k => by
  unfold uIx at h
  split at h
  · rename_i i
    obtain rfl := ry.int_inv
    split at h
    · rename_i xs
      cases e : atI xs i with
      | none => rw [e] at h; cases h
      | some c =>
        rw [e] at h
        cases h
        obtain ⟨a, vs, rfl, f, r⟩ := rx.tup_inv
        obtain ⟨v, h1, h2⟩ := atI_rel (d := .pd c) r.rvs (by rw [atI_map, e]; rfl)
        exact .inr (.inl ⟨a, vs, i, v, rfl, rfl, f.sq, h1, k wd v H w .refl h2⟩)
    · rename_i z
      split at h
      · rename_i hz
        cases e : atI z.cps.toList i with
        | none => rw [e] at h; cases h
        | some c =>
          rw [e] at h
          cases h
          obtain rfl := rx.str_inv
          exact .inr (.inr ⟨z, i, c, rfl, rfl, by rw [szl]; exact hz, e, k wd _ H w .refl (.str _)⟩)
      · cases h
    · cases e : getV dx S with
      | none => rw [e] at h; cases h
      | some xs =>
        rw [e] at h
        have h : (atI xs i).map (fun d => (d, S)) = some (d, S') := h
        cases e2 : atI xs i with
        | none => rw [e2] at h; cases h
        | some c =>
          rw [e2] at h
          cases h
          obtain ⟨a, vs, rfl, f, r⟩ := w.getV rx e
          obtain ⟨v, h1, h2⟩ := atI_rel r e2
          exact .inl ⟨a, vs, i, v, rfl, rfl, f, h1, k wd v H w .refl h2⟩
  · cases h
theorem de_ix {X : Cx} {cl : Nat → Addr} {pos : Pos} {a b : Expr} {fa fb : DEnv → M Val} (ha : DE X cl a fa) (hb : DE X cl b fb) (hs : PlainIx b := by exact fun _ _ => rfl) : DE X cl (.Subscript a b pos) (eO uIx fa fb) := by
  obtain ⟨ta, pa, sa⟩ := ha
  obtain ⟨tb, pb, sb⟩ := hb
  exact ⟨_, pe_ix ix_seq pa pb hs, sim_o so_ix sa sb⟩
/-- a slice's part -/
def fNo : DEnv → M (Option Int) := fun _ S => some (none, S)
def fPart (f : DEnv → M Val) : DEnv → M (Option Int) := fun ρ S => bindR (f ρ S) fun d S1 => match d with
  | .pd (.int i) => some (some i, S1)
  | _ => none
def DO (X : Cx) (cl : Nat → Addr) (e : Option Expr) (f : DEnv → M (Option Int)) : Prop := ∃ t, PO X e t ∧ ∀ (wd : Wd) (σ : L2.St) (ρ : DEnv) (S : Store) (H : Hp) (Q : Option Int → Hp → Prop) (o : Option Int) (S' : Store), WR X.K cl wd S H → ER X.K wd S.length H σ ρ → f ρ S = some (o, S') →
  (∀ wd' H', WR X.K cl wd' S' H' → Ext wd S H wd' S' H' → Q o H') → t σ H Q
def cutP {α : Type} (xs : List α) (lo hi : Option Int) : List α := (xs.drop (HT.sIx xs.length 0 lo)).take (HT.sIx xs.length xs.length hi - HT.sIx xs.length 0 lo)
def uSl (d : Val) (lo hi : Option Int) : M Val := fun S => match d with
  | .pd (.tuple xs) => if HT.sIx xs.length 0 lo = 0 ∧ HT.sIx xs.length xs.length hi = xs.length then none else some (.pd (.tuple (cutP xs lo hi)), S)
  | d => (getL d S).map fun xs => (.pd (.list (cutP xs lo hi)), S)
def uSlM (d : Val) (lo hi : Option Int) : M Val := fun S => (getL d S).map fun xs => (.obj S.length, S ++ [.lst (cutP xs lo hi)])
def eSl (u : Val → Option Int → Option Int → M Val) (fe : DEnv → M Val) (fl fh : DEnv → M (Option Int)) : DEnv → M Val := fun ρ S => bindR (fe ρ S) fun d S1 => bindR (fl ρ S1) fun lo S2 => bindR (fh ρ S2) fun hi S3 => u d lo hi S3
def rSlA (K : PySem.W.Frag) : V → Option Int → Option Int → Hp → VK → Prop := fun x lo hi H Q => rSlL K x lo hi H Q ∨ rSlT K x lo hi H Q
section
variable {X : Cx} {cl : Nat → Addr} {pos p2 : Pos} {e : Expr} {lo hi : Option Expr} {fe : DEnv → M Val} {fl fh : DEnv → M (Option Int)}
theorem do_none : DO X cl none fNo := ⟨_, po_none, fun wd σ ρ S H Q o S' w q h k => by cases h; exact k wd H w .refl⟩
theorem do_some (he : DE X cl e fe) : DO X cl (some e) (fPart fe) := by
  obtain ⟨t, p, s⟩ := he
  refine ⟨_, po_some p, fun wd σ ρ S H Q o S' w q h k => ?_⟩
  obtain ⟨d, S1, h1, h⟩ := bindR_inv h
  refine s wd σ ρ S H _ d S1 w q h1 fun wd1 v H1 w1 x1 r1 => ?_
  split at h
  · cases h
    exact ⟨_, r1.int_inv, k wd1 H1 w1 x1⟩
  · cases h
theorem RpAll.cut {K : PySem.W.Frag} {H : Hp} {O : Addr → Prop} {vs : List V} {ds : List PyData} (r : RpAll K H O vs ds) (lo hi : Option Int) : RpAll K H O (cutV vs lo hi) (cutP ds lo hi) := by
  unfold cutV cutP
  rw [r.length]
  exact (r.drop _).take _
def SimSl (K : PySem.W.Frag) (cl : Nat → Addr) (r : V → Option Int → Option Int → Hp → VK → Prop) (u : Val → Option Int → Option Int → M Val) : Prop := ∀ (wd : Wd) (S : Store) (H : Hp) (x : V) (dx : Val) (lo hi : Option Int) (Q : VK) (d : Val) (S' : Store), WR K cl wd S H → RV K wd S.length H x dx → u dx lo hi S = some (d, S') →
  (∀ wd' v H', WR K cl wd' S' H' → Ext wd S H wd' S' H' → RV K wd' S'.length H' v d → Q v H') → r x lo hi H Q
theorem sl_a {K : PySem.W.Frag} : SimSl K cl (rSlA K) uSl := fun wd S H x dx lo hi Q d S' w rx h k => by
  unfold uSl at h
  split at h
  · rename_i xs
    split at h
    · cases h
    · rename_i hn
      cases h
      obtain ⟨a, vs, rfl, f, r⟩ := rx.tup_inv
      refine .inr ⟨a, vs, rfl, f.sq, by rw [r.length]; exact hn, fun p hp => ?_⟩
      obtain ⟨w2, x2, r2⟩ := w.newT (r.cut lo hi) hp
      exact k _ _ _ w2 x2 r2
  · cases e : getL dx S with
    | none => rw [e] at h; cases h
    | some xs =>
      rw [e] at h
      cases h
      obtain ⟨a, vs, rfl, f, r⟩ := w.getL rx e
      refine .inl ⟨a, vs, rfl, f, fun p hp => ?_⟩
      obtain ⟨w2, x2, r2⟩ := w.newF (r.cut lo hi) hp
      exact k _ _ _ w2 x2 r2
theorem sl_m {K : PySem.W.Frag} : SimSl K cl (rSlA K) uSlM := fun wd S H x dx lo hi Q d S' w rx h k => by
  unfold uSlM at h
  cases e : getL dx S with
  | none => rw [e] at h; cases h
  | some xs =>
    rw [e] at h
    cases h
    obtain ⟨a, vs, rfl, f, r⟩ := w.getL rx e
    refine .inl ⟨a, vs, rfl, f, fun p hp => ?_⟩
    obtain ⟨wd2, w2, x2, r2⟩ := w.newL (r.cut lo hi) hp
    exact k _ _ _ w2 x2 r2
theorem de_sl {u : Val → Option Int → Option Int → M Val} (hu : SimSl X.K cl (rSlA X.K) u) (he : DE X cl e fe) (hl : DO X cl lo fl) (hh : DO X cl hi fh) : DE X cl (.Subscript e (.Slice lo hi none p2) pos) (eSl u fe fl fh) := by
  obtain ⟨t, p, s⟩ := he
  obtain ⟨t1, p1, s1⟩ := hl
  obtain ⟨t2, p2', s2⟩ := hh
  refine ⟨_, pe_slice (sl_list.or sl_tup) p p1 p2', fun wd σ ρ S H Q d S' w q h k => ?_⟩
  obtain ⟨x, S1, h1, h⟩ := bindR_inv h
  obtain ⟨l, S2, h2, h⟩ := bindR_inv h
  obtain ⟨u', S3, h3, h⟩ := bindR_inv h
  refine s wd σ ρ S H _ x S1 w q h1 fun wd1 v1 H1 w1 x1 r1 => ?_
  refine s1 wd1 σ ρ S1 H1 _ l S2 w1 (q.ext x1) h2 fun wd2 H2 w2 x2 => ?_
  refine s2 wd2 σ ρ S2 H2 _ u' S3 w2 ((q.ext x1).ext x2) h3 fun wd3 H3 w3 x3 => ?_
  exact hu wd3 S3 H3 v1 x l u' Q d S' w3 ((r1.ext x2).ext x3) h fun wd4 v4 H4 w4 x4 r4 => k wd4 v4 H4 w4 (((x1.trans x2).trans x3).trans x4) r4
end
/-! ### xs[i] = v -/
def SimSet (K : PySem.W.Frag) (cl : Nat → Addr) (t : TSet) (u : Val → Val → Val → M Unit) : Prop := ∀ (wd : Wd) (S : Store) (H : Hp) (o i v : V) (od id' vd : Val) (Q : Hp → Prop) (S' : Store), WR K cl wd S H → RV K wd S.length H o od → RV K wd S.length H i id' → RV K wd S.length H v vd → u od id' vd S = some ((), S') →
  (∀ wd' H', WR K cl wd' S' H' → Ext wd S H wd' S' H' → Q H') → t o i v H Q
def uSet : Val → Val → Val → M Unit := fun o i v S => match o, i with
  | .obj h, .pd (.int j) => match S[h]? with
    | some (.lst xs) => match v with
      | .pd d => (ixN xs.length j).map fun n => ((), S.set h (.lst (xs.set n d)))
      | .obj _ => none
    | some (.lsv xs) => (ixN xs.length j).map fun n => ((), S.set h (.lsv (xs.set n v)))
    | _ => none
  | _, _ => none
theorem ss_list {K : PySem.W.Frag} {cl : Nat → Addr} : SimSet K cl rSetL uSet := fun wd S H o i v od id' vd Q S' w ro ri rv h k => by
  unfold uSet at h
  split at h
  · rename_i hh j
    obtain rfl := ri.int_inv
    obtain ⟨hi, rfl⟩ := ro
    split at h
    · rename_i xs e
      split at h
      · rename_i d
        cases en : ixN xs.length j with
        | none => rw [en] at h; cases h
        | some n =>
          rw [en] at h
          cases h
          obtain ⟨f, vs, e1, r⟩ := w.ob hh _ e
          obtain ⟨wd2, w2, x2⟩ := w.setL e (r.set n rv)
          exact ⟨_, vs, j, n, rfl, rfl, e1, by rw [r.length]; exact en, k _ _ w2 x2⟩
      · cases h
    · rename_i xs e
      cases en : ixN xs.length j with
      | none => rw [en] at h; cases h
      | some n =>
        rw [en] at h
        cases h
        obtain ⟨f, vs, e1, r⟩ := w.ob hh _ e
        obtain ⟨wd2, w2, x2⟩ := w.setLV e (.inr ⟨_, rfl⟩) (r.set n rv)
        exact ⟨_, vs, j, n, rfl, rfl, e1, by rw [r.length]; exact en, k _ _ w2 x2⟩
    · cases h
  · cases h
def nSub (u : Val → Val → Val → M Unit) (fo fi : DEnv → M Val) : Val → DEnv → M DEnv := fun d ρ S => bindR (fo ρ S) fun o S1 => bindR (fi ρ S1) fun i S2 => bindR (u o i d S2) fun _ S3 => some (ρ, S3)
theorem dg_sub {X : Cx} {cl : Nat → Addr} {pos : Pos} {o i : Expr} {fo fi : DEnv → M Val} {t : TSet} {u : Val → Val → Val → M Unit} (hs : PSet X t) (hu : SimSet X.K cl t u) (ho : DE X cl o fo) (hi : DE X cl i fi) (ha : ∀ v, assign (.Subscript o i pos) X.env v = (do
      let ov ← holding [v] (eval o X.env)
      let iv ← holding [v, ov] (eval i X.env)
      standAt pos
      holding [v, ov, iv] (setItem ov iv v)
      release [v, ov, iv] []) := by intro _; rfl) : DG X cl (.Subscript o i pos) (nSub u fo fi) := by
  obtain ⟨t1, p1, s1⟩ := ho
  obtain ⟨t2, p2, s2⟩ := hi
  refine ⟨_, pg_sub p1 p2 hs ha, fun wd σ ρ S H v d Q ρ' S' w q r h k => ?_⟩
  obtain ⟨x, S1, h1, h⟩ := bindR_inv h
  obtain ⟨y, S2, h2, h⟩ := bindR_inv h
  obtain ⟨z, S3, h3, h⟩ := bindR_inv h
  cases h
  refine s1 wd σ ρ S H _ x S1 w q h1 fun wd1 v1 H1 w1 x1 r1 => ?_
  refine s2 wd1 σ ρ S1 H1 _ y S2 w1 (q.ext x1) h2 fun wd2 v2 H2 w2 x2 r2 => ?_
  exact hu wd2 S2 H2 v1 v2 v x y d _ _ w2 (r1.ext x2) r2 ((r.ext x1).ext x2) h3 fun wd3 H3 w3 x3 => k wd3 σ H3 w3 ((x1.trans x2).trans x3) (((q.ext x1).ext x2).ext x3)
/-! ### built-in functions -/
section
variable {X : Cx} {cl : Nat → Addr} {pos p : Pos} {x : Str} {e : Expr} {es : List Expr} {fs : DEnv → M (List Val)} {id T : String} {r : List V → Hp → VK → Prop} {u : List Val → M Val}
theorem de_callB (hc : CallR X (.builtin id) r) (hu : SimC X.K cl r u) (hg : Gl X x) (hm : X.mg x = none) (hv : bootBuiltins x = some (.builtin id)) (ha : DA X cl (e :: es) fs) (hn : x ≠ "__name__" := by decide) (hdb : (x == ("__debug__" : Str)) = false := by decide)
    (he : starEach (e :: es) X.env = (false, eval e X.env) :: starEach es X.env := by rfl) (hpl : (backTo pos (starEach es X.env)).any (·.1) = false := by rfl) : DE X cl (.Call (.Name x p) (e :: es) [] pos) (eA u fs) := by
  obtain ⟨t, pa, sa⟩ := ha
  exact ⟨_, pe_callB hc hg hm hv pa hn hdb he hpl, sim_a hu sa⟩
theorem de_callTy (hc : CallR X (.type T) r) (hu : SimC X.K cl r u) (hg : Gl X x) (hm : X.mg x = none) (hv : bootBuiltins x = some (.type T)) (ha : DA X cl (e :: es) fs) (hn : x ≠ "__name__" := by decide) (hdb : (x == ("__debug__" : Str)) = false := by decide)
    (he : starEach (e :: es) X.env = (false, eval e X.env) :: starEach es X.env := by rfl) (hpl : (backTo pos (starEach es X.env)).any (·.1) = false := by rfl) : DE X cl (.Call (.Name x p) (e :: es) [] pos) (eA u fs) := by
  obtain ⟨t, pa, sa⟩ := ha
  exact ⟨_, pe_callTy hc hg hm hv pa hn hdb he hpl, sim_a hu sa⟩
end
section
variable {K : PySem.W.Frag} {cl : Nat → Addr}
theorem RVs.one_inv {wd : Wd} {n : Nat} {H : Hp} {vs : List V} {d : Val} (r : RVs K wd n H vs [d]) : ∃ v, vs = [v] ∧ RV K wd n H v d := by
  cases r with
  | cons r t => cases t; exact ⟨_, rfl, r⟩
theorem RVs.two_inv {wd : Wd} {n : Nat} {H : Hp} {vs : List V} {d e : Val} (r : RVs K wd n H vs [d, e]) : ∃ v u, vs = [v, u] ∧ RV K wd n H v d ∧ RV K wd n H u e := by
  cases r with
  | cons r t =>
    obtain ⟨u, rfl, q⟩ := t.one_inv
    exact ⟨_, u, rfl, r, q⟩
/-- int(n), int(flag) -/
def uInt : List Val → M Val := fun ds S => match ds with
  | [.pd (.int i)] => some (.pd (.int i), S)
  | [.pd (.bool b)] => some (.pd (.int (if b then 1 else 0)), S)
  | _ => none
theorem sc_int : SimC K cl (fun xs H Q => (∃ i, xs = [.int i] ∧ Q (.int i) H) ∨ ∃ k, xs = [.bl k] ∧ Q (.int (if k then 1 else 0)) H) uInt := fun wd S H xs ds Q d S' w r h k => by
  unfold uInt at h
  split at h
  · cases h
    obtain ⟨v, rfl, r1⟩ := r.one_inv
    obtain rfl := r1.int_inv
    exact .inl ⟨_, rfl, k wd _ H w .refl (.int _)⟩
  · cases h
    obtain ⟨v, rfl, r1⟩ := r.one_inv
    obtain rfl := r1.bool_inv
    exact .inr ⟨_, rfl, k wd _ H w .refl (.int _)⟩
  · cases h
def uLen : List Val → M Val := fun ds S => match ds with
  | [.pd (.str z)] => if z.length ≤ 16777216 then some (.pd (.int z.length), S) else none
  | [.pd (.tuple xs)] => some (.pd (.int xs.length), S)
  | [.obj h] => match S[h]? with
    | some (.lst xs) => some (.pd (.int xs.length), S)
    | some (.lock (.lst xs)) => some (.pd (.int xs.length), S)
    | some (.scr xs) => some (.pd (.int xs.length), S)
    | some (.lsv xs) => some (.pd (.int xs.length), S)
    | some (.lock (.lsv xs)) => some (.pd (.int xs.length), S)
    | some (.dK kvs) => some (.pd (.int kvs.length), S)
    | some (.dV kvs) => some (.pd (.int kvs.length), S)
    | _ => none
  | [.pd (.list xs)] => some (.pd (.int xs.length), S)
  | _ => none
theorem PKV.length {κ : Type} {R : V → PyData → Prop} : ∀ {ks : List (κ × V)} {kvs : List (κ × PyData)}, PKV R ks kvs → ks.length = kvs.length := fun h => Paired.length h
theorem PKW.length {κ : Type} {R : V → Val → Prop} : ∀ {ks : List (κ × V)} {kvs : List (κ × Val)}, PKW R ks kvs → ks.length = kvs.length := fun h => Paired.length h
def rLenA (K : PySem.W.Frag) : List V → Hp → VK → Prop := fun xs H Q => (∃ x n, xs = [x] ∧ LenV K x H n ∧ Q (.int n) H) ∨ ∃ a kvs, xs = [V.ref a] ∧ H a = some (.dK kvs) ∧ Q (.int kvs.length) H
theorem cr_lenA {X : Cx} : CallR X (.builtin "len") (rLenA X.K) := call_len.or call_lenD
theorem sc_len : SimC K cl (rLenA K) uLen := fun wd S H xs ds Q d S' w r h k => by
  unfold uLen at h
  split at h
  · split at h
    · rename_i hz
      cases h
      obtain ⟨v, rfl, r1⟩ := r.one_inv
      obtain rfl := r1.str_inv
      exact .inl ⟨_, _, rfl, ⟨by rw [szl]; exact hz, rfl⟩, k wd _ H w .refl (.int _)⟩
    · cases h
  · cases h
    obtain ⟨v, rfl, r1⟩ := r.one_inv
    obtain ⟨a, vs, rfl, f, q⟩ := r1.tup_inv
    exact .inl ⟨_, _, rfl, .inr ⟨vs, f.sq, q.length.symm⟩, k wd _ H w .refl (.int _)⟩
  · obtain ⟨v, rfl, r1⟩ := r.one_inv
    obtain ⟨hi, rfl⟩ := r1
    split at h
    · rename_i e
      cases h
      obtain ⟨f, vs, e1, q⟩ := w.ob _ _ e
      exact .inl ⟨_, _, rfl, .inl ⟨vs, SqL.of e1, q.length.symm⟩, k wd _ H w .refl (.int _)⟩
    · rename_i e
      cases h
      obtain ⟨f, vs, e1, q⟩ := w.ob _ _ e
      exact .inl ⟨_, _, rfl, .inl ⟨vs, SqL.of e1, q.length.symm⟩, k wd _ H w .refl (.int _)⟩
    · rename_i e
      cases h
      obtain ⟨f, vs, e1, q⟩ := w.ob _ _ e
      exact .inl ⟨_, _, rfl, .inl ⟨vs, e1.sq, q.length.symm⟩, k wd _ H w .refl (.int _)⟩
    · rename_i e
      cases h
      obtain ⟨f, vs, e1, q⟩ := w.ob _ _ e
      exact .inl ⟨_, _, rfl, .inl ⟨vs, SqL.of e1, q.length.symm⟩, k wd _ H w .refl (.int _)⟩
    · rename_i e
      cases h
      obtain ⟨f, vs, e1, q⟩ := w.ob _ _ e
      exact .inl ⟨_, _, rfl, .inl ⟨vs, SqL.of e1, q.length.symm⟩, k wd _ H w .refl (.int _)⟩
    · rename_i e
      cases h
      obtain ⟨f, vs, e1, q⟩ := w.ob _ _ e
      exact .inr ⟨_, vs, rfl, e1, by rw [q.length]; exact k wd _ H w .refl (.int _)⟩
    · rename_i e
      cases h
      obtain ⟨f, vs, e1, q⟩ := w.ob _ _ e
      exact .inr ⟨_, vs, rfl, e1, by rw [q.length]; exact k wd _ H w .refl (.int _)⟩
    · cases h
  · cases h
    obtain ⟨v, rfl, r1⟩ := r.one_inv
    cases r1 with
    | lst f q => exact .inl ⟨_, _, rfl, .inl ⟨_, f.sq, q.length.symm⟩, k wd _ H w .refl (.int _)⟩
  · cases h
def uMin2 (p : Int → Int → Int) : List Val → M Val := fun ds S => match ds with
  | [.pd (.int i), .pd (.int j)] => some (.pd (.int (p i j)), S)
  | _ => none
theorem sc_min2 {p : Int → Int → Int} : SimC K cl (fun xs H Q => ∃ i j, xs = [.int i, .int j] ∧ Q (.int (p i j)) H) (uMin2 p) := fun wd S H xs ds Q d S' w r h k => by
  unfold uMin2 at h
  split at h
  · cases h
    obtain ⟨v, u, rfl, r1, r2⟩ := r.two_inv
    obtain rfl := r1.int_inv
    obtain rfl := r2.int_inv
    exact ⟨_, _, rfl, k wd _ H w .refl (.int _)⟩
  · cases h
def uStr : List Val → M Val := fun ds S => match ds with
  | [.pd (.int i)] => if i.natAbs.log2 < 1920 then some (.pd (.str (toString i)), S) else none
  | _ => none
theorem sc_str : SimC K cl (fun xs H Q => ∃ i, xs = [.int i] ∧ i.natAbs.log2 < 1920 ∧ Q (.str (toString i)) H) uStr := fun wd S H xs ds Q d S' w r h k => by
  unfold uStr at h
  split at h
  · split at h
    · rename_i hz
      cases h
      obtain ⟨v, rfl, r1⟩ := r.one_inv
      obtain rfl := r1.int_inv
      exact ⟨_, rfl, hz, k wd _ H w .refl (.str _)⟩
    · cases h
  · cases h
/-- list(xs), tuple(xs) -/
def seqP (d : Val) (S : Store) : Option (List PyData) := match d with
  | .pd (.tuple xs) => some xs
  | d => getL d S
theorem WR.seqP {wd : Wd} {S : Store} {H : Hp} {v : V} {d : Val} (w : WR K cl wd S H) (r : RV K wd S.length H v d) {xs : List PyData} (h : seqP d S = some xs) : ∃ a vs, v = .ref a ∧ (SqL K H a vs ∨ SqT K H a vs) ∧ RpAll K H (Own wd S.length) vs xs := by
  unfold DM.seqP at h
  split at h
  · cases h
    obtain ⟨a, vs, rfl, f, q⟩ := r.tup_inv
    exact ⟨a, vs, rfl, .inr f.sq, q⟩
  · obtain ⟨a, vs, rfl, f, q⟩ := w.getL r h
    exact ⟨a, vs, rfl, .inl f, q⟩
def uList : List Val → M Val := fun ds S => match ds with
  | [d] => (seqP d S).map fun xs => (.pd (.list xs), S)
  | _ => none
def uListM : List Val → M Val := fun ds S => match ds with
  | [d] => (seqP d S).map fun xs => (.obj S.length, S ++ [.lst xs])
  | _ => none
theorem sc_list : SimC K cl (fun xs H Q => ∃ p ys, xs = [.ref p] ∧ (SqL K H p ys ∨ SqT K H p ys) ∧ ∀ l, H l = none → Q (.ref l) (upd H l (.lst ys))) uList := fun wd S H xs ds Q d S' w r h k => by
  unfold uList at h
  split at h
  · rename_i d0
    cases e : seqP d0 S with
    | none => rw [e] at h; cases h
    | some ys =>
      rw [e] at h
      cases h
      obtain ⟨v, rfl, r1⟩ := r.one_inv
      obtain ⟨a, vs, rfl, f, q⟩ := w.seqP r1 e
      refine ⟨a, vs, rfl, f, fun p hp => ?_⟩
      obtain ⟨w2, x2, r2⟩ := w.newF q hp
      exact k _ _ _ w2 x2 r2
  · cases h
theorem sc_listM : SimC K cl (fun xs H Q => ∃ p ys, xs = [.ref p] ∧ (SqL K H p ys ∨ SqT K H p ys) ∧ ∀ l, H l = none → Q (.ref l) (upd H l (.lst ys))) uListM := fun wd S H xs ds Q d S' w r h k => by
  unfold uListM at h
  split at h
  · rename_i d0
    cases e : seqP d0 S with
    | none => rw [e] at h; cases h
    | some ys =>
      rw [e] at h
      cases h
      obtain ⟨v, rfl, r1⟩ := r.one_inv
      obtain ⟨a, vs, rfl, f, q⟩ := w.seqP r1 e
      refine ⟨a, vs, rfl, f, fun p hp => ?_⟩
      obtain ⟨wd2, w2, x2, r2⟩ := w.newL q hp
      exact k _ _ _ w2 x2 r2
  · cases h
def uTuple : List Val → M Val := fun ds S => match ds with
  | [d] => (seqP d S).map fun xs => (.pd (.tuple xs), S)
  | _ => none
theorem sc_tuple : SimC K cl (fun xs H Q => ∃ p ys, xs = [.ref p] ∧ ((SqL K H p ys ∧ ∀ l, H l = none → Q (.ref l) (upd H l (.tup ys))) ∨ (SqT K H p ys ∧ Q (.ref p) H))) uTuple := fun wd S H xs ds Q d S' w r h k => by
  unfold uTuple at h
  split at h
  · rename_i d0
    cases e : seqP d0 S with
    | none => rw [e] at h; cases h
    | some ys =>
      rw [e] at h
      cases h
      obtain ⟨v, rfl, r1⟩ := r.one_inv
      unfold DM.seqP at e
      split at e
      · cases e
        have r1' := r1
        obtain ⟨a, vs, rfl, f, q⟩ := r1.tup_inv
        exact ⟨a, vs, rfl, .inr ⟨f.sq, k wd _ H w .refl r1'⟩⟩
      · obtain ⟨a, vs, rfl, f, q⟩ := w.getL r1 e
        refine ⟨a, vs, rfl, .inl ⟨f, fun p hp => ?_⟩⟩
        obtain ⟨w2, x2, r2⟩ := w.newT q hp
        exact k _ _ _ w2 x2 r2
  · cases h
/-- sum of rgI -/
def allInt : List PyData → Option (List Int)
  | [] => some []
  | .int i :: r => (allInt r).map (i :: ·)
  | _ :: _ => none
theorem allInt_eq : ∀ {ds : List PyData} {xs : List Int}, allInt ds = some xs → ds = xs.map PyData.int
  | [], _, h => by cases h; rfl
  | .int i :: r, xs, h => by
    unfold allInt at h
    cases hr : allInt r with
    | none => rw [hr] at h; cases h
    | some ys =>
      rw [hr] at h
      cases h
      rw [allInt_eq hr]
      rfl
  | .none :: _, _, h => by cases h
  | .bool _ :: _, _, h => by cases h
  | .str _ :: _, _, h => by cases h
  | .list _ :: _, _, h => by cases h
  | .tuple _ :: _, _, h => by cases h
  | .dict _ :: _, _, h => by cases h
@[simp] theorem allInt_map : ∀ (xs : List Int), allInt (xs.map PyData.int) = some xs
  | [] => rfl
  | x :: xs => by simp [allInt, allInt_map xs]
theorem RpAll.ints {H : Hp} {O : Addr → Prop} : ∀ {xs : List Int} {vs : List V}, RpAll K H O vs (xs.map PyData.int) → vs = xs.map V.int
  | [], _, h => by cases h; rfl
  | x :: xs, _, h => by
    cases h with
    | cons r t =>
      cases r
      rw [RpAll.ints t]
      rfl
def uSum : List Val → M Val := fun ds S => match ds with
  | [d] => (getL d S).bind fun xs => (allInt xs).map fun ns => (.pd (.int ns.sum), S)
  | _ => none
theorem sc_sum : SimC K cl (rSum K) uSum := fun wd S H xs ds Q d S' w r h k => by
  unfold uSum at h
  split at h
  · rename_i d0
    cases e : getL d0 S with
    | none => rw [e] at h; cases h
    | some ys =>
      rw [e] at h
      have h : (allInt ys).map (fun ns => (Val.pd (.int ns.sum), S)) = some (d, S') := h
      cases e2 : allInt ys with
      | none => rw [e2] at h; cases h
      | some ns =>
        rw [e2] at h
        cases h
        obtain ⟨v, rfl, r1⟩ := r.one_inv
        obtain ⟨a, vs, rfl, f, q⟩ := w.getL r1 e
        have := allInt_eq e2
        subst this
        obtain rfl := q.ints
        exact ⟨a, ns, rfl, f, k wd _ H w .refl (.int _)⟩
  · cases h
end
/-! ### methods of lists -/
def SimM (K : PySem.W.Frag) (cl : Nat → Addr) (r : V → List V → Hp → VK → Prop) (u : Val → List Val → M Val) : Prop := ∀ (wd : Wd) (S : Store) (H : Hp) (x : V) (xs : List V) (dx : Val) (ds : List Val) (Q : VK) (d : Val) (S' : Store), WR K cl wd S H → RV K wd S.length H x dx → RVs K wd S.length H xs ds → u dx ds S = some (d, S') →
  (∀ wd' v H', WR K cl wd' S' H' → Ext wd S H wd' S' H' → RV K wd' S'.length H' v d → Q v H') → r x xs H Q
/-- the kind of a value, for a built-in's method -/
def isTy (T : String) (d : Val) (S : Store) : Bool := match d with
  | .pd (.str _) => T == "str"
  | .pd (.int _) => T == "int"
  | .pd (.list _) => T == "list"
  | .obj h => match S[h]? with
    | some (.lst _) => T == "list"
    | some (.lsv _) => T == "list"
    | some (.lock (.lst _)) => T == "list"
    | some (.lock (.lsv _)) => T == "list"
    | some (.dK _) => T == "dict"
    | some (.dV _) => T == "dict"
    | some (.dT _) => T == "dict"
    | _ => false
  | _ => false
theorem WR.ty {K : PySem.W.Frag} {cl : Nat → Addr} {wd : Wd} {S : Store} {H : Hp} {v : V} {d : Val} {T : String} (w : WR K cl wd S H) (r : RV K wd S.length H v d) (h : isTy T d S = true) : tyV K T v H := by
  unfold isTy at h
  split at h
  · obtain rfl := r.str_inv
    exact eq_of_beq h
  · obtain rfl := r.int_inv
    exact eq_of_beq h
  · have e := eq_of_beq h
    cases r with
    | lst f q => exact .inl ⟨e, _, f.sq⟩
  · obtain ⟨hi, rfl⟩ := r
    split at h
    · rename_i e
      obtain ⟨f, vs, e1, q⟩ := w.ob _ _ e
      exact .inl ⟨eq_of_beq h, _, SqL.of e1⟩
    · rename_i e
      obtain ⟨f, vs, e1, q⟩ := w.ob _ _ e
      exact .inl ⟨eq_of_beq h, _, SqL.of e1⟩
    · rename_i e
      obtain ⟨f, vs, e1, q⟩ := w.ob _ _ e
      exact .inl ⟨eq_of_beq h, _, SqL.of e1⟩
    · rename_i e
      obtain ⟨f, vs, e1, q⟩ := w.ob _ _ e
      exact .inl ⟨eq_of_beq h, _, SqL.of e1⟩
    · rename_i e
      obtain ⟨f, vs, e1, q⟩ := w.ob _ _ e
      exact .inr (.inr (.inl ⟨eq_of_beq h, .inl ⟨_, e1⟩⟩))
    · rename_i e
      obtain ⟨f, vs, e1, q⟩ := w.ob _ _ e
      exact .inr (.inr (.inl ⟨eq_of_beq h, .inl ⟨_, e1⟩⟩))
    · rename_i e
      obtain ⟨f, vs, e1, q⟩ := w.ob _ _ e
      exact .inr (.inr (.inl ⟨eq_of_beq h, .inr ⟨_, e1⟩⟩))
    · cases h
  · cases h
def eBM (T : String) (u : Val → List Val → M Val) (fo : DEnv → M Val) (fa : DEnv → M (List Val)) : DEnv → M Val := fun ρ S => bindR (fo ρ S) fun o S1 => if isTy T o S1 = true then bindR (fa ρ S1) fun ds S2 => u o ds S2 else none
section
variable {X : Cx} {cl : Nat → Addr} {o e : Expr} {es : List Expr} {name : Str} {apos cpos : Pos} {T id : String} {r : V → List V → Hp → VK → Prop} {u : Val → List Val → M Val} {fo : DEnv → M Val} {fs : DEnv → M (List Val)}
theorem de_bm (pa : PlainAttrs T) (slot : Slot T name id) (hty : typeOf (.builtin id) = pure (.type "method_descriptor")) (hm : MtR X id r) (hu : SimM X.K cl r u) (ho : DE X cl o fo) (ha : DA X cl (e :: es) fs)
    (hbase : attributeBase o name X.env (eval o X.env) = eval o X.env := by rfl)
    (hfew : ((backTo cpos (starEach (e :: es) X.env)).all (fun x => !x.1) && (backToKw cpos (keywordEach [] X.env)).all (fun x => x.1.isSome)
      && decide ((e :: es).length + ([] : List Keyword).length + (if ([] : List Keyword).isEmpty then 0 else 1) < 30)) = true := by rfl)
    (hline : (apos.endLine == cpos.line) = true := by rfl) (hs : starEach (e :: es) X.env = (false, eval e X.env) :: starEach es X.env := by rfl) (hplain : (backTo cpos (starEach es X.env)).any (·.1) = false := by rfl) :
    DE X cl (.Call (.Attribute o name apos) (e :: es) [] cpos) (eBM T u fo fs) := by
  obtain ⟨t1, p1, s1⟩ := ho
  obtain ⟨t2, p2, s2⟩ := ha
  refine ⟨_, pe_bm pa slot hty hm p1 p2 hbase hfew hline hs hplain, fun wd σ ρ S H Q d S' w q h k => ?_⟩
  obtain ⟨x, S1, h1, h⟩ := bindR_inv h
  split at h
  · rename_i ht
    obtain ⟨ds, S2, h2, h⟩ := bindR_inv h
    refine s1 wd σ ρ S H _ x S1 w q h1 fun wd1 v1 H1 w1 x1 r1 => ⟨w1.ty r1 ht, ?_⟩
    refine s2 wd1 σ ρ S1 H1 _ ds S2 w1 (q.ext x1) h2 fun wd2 vs H2 w2 x2 r2 => ?_
    exact hu wd2 S2 H2 v1 vs x ds Q d S' w2 (r1.ext x2) r2 h fun wd3 v3 H3 w3 x3 r3 => k wd3 v3 H3 w3 ((x1.trans x2).trans x3) r3
  · cases h
theorem de_bm0 (pa : PlainAttrs T) (slot : Slot T name id) (hty : typeOf (.builtin id) = pure (.type "method_descriptor")) (hm : MtR X id r) (hu : SimM X.K cl r u) (ho : DE X cl o fo)
    (hbase : attributeBase o name X.env (eval o X.env) = eval o X.env := by rfl) (hline : (apos.endLine == cpos.line) = true := by rfl) : DE X cl (.Call (.Attribute o name apos) [] [] cpos) (eBM T u fo aNil) := by
  obtain ⟨t1, p1, s1⟩ := ho
  refine ⟨_, pe_bm0 pa slot hty hm p1 hbase hline, fun wd σ ρ S H Q d S' w q h k => ?_⟩
  obtain ⟨x, S1, h1, h⟩ := bindR_inv h
  split at h
  · rename_i ht
    refine s1 wd σ ρ S H _ x S1 w q h1 fun wd1 v1 H1 w1 x1 r1 => ⟨w1.ty r1 ht, ?_⟩
    exact hu wd1 S1 H1 v1 [] x [] Q d S' w1 r1 .nil h fun wd3 v3 H3 w3 x3 r3 => k wd3 v3 H3 w3 (x1.trans x3) r3
  · cases h
end
section
variable {K : PySem.W.Frag} {cl : Nat → Addr}
def uAppend : Val → List Val → M Val := fun o ds S => match o, ds with
  | .obj h, [d] => match S[h]? with
    | some (.lst xs) => if xs.length < 16777216 then match d with
      | .pd d => some (.pd .none, S.set h (.lst (xs ++ [d])))
      | .obj i => if xs = [] then some (.pd .none, S.set h (.lsv [.obj i])) else none
      else none
    | some (.lsv xs) => if xs.length < 16777216 then some (.pd .none, S.set h (.lsv (xs ++ [d]))) else none
    | _ => none
  | _, _ => none
theorem sm_append : SimM K cl rAppend uAppend := fun wd S H x xs dx ds Q d S' w rx r h k => by
  unfold uAppend at h
  split at h
  · rename_i hh d0
    obtain ⟨hi, rfl⟩ := rx
    obtain ⟨v, rfl, rv⟩ := r.one_inv
    split at h
    · rename_i ys e
      obtain ⟨f, vs, e1, q⟩ := w.ob hh _ e
      split at h
      · rename_i hl
        split at h
        · cases h
          obtain ⟨wd2, w2, x2⟩ := w.setL e (q.append (.cons rv .nil))
          exact ⟨_, vs, v, rfl, rfl, e1, by rw [q.length, szl]; exact hl, k _ _ _ w2 x2 .non⟩
        · split at h
          · rename_i hn
            cases h
            subst hn
            cases q
            obtain ⟨wd2, w2, x2⟩ := w.setLV e (.inl ⟨_, rfl⟩) (RVs.cons rv .nil)
            exact ⟨_, [], v, rfl, rfl, e1, by rw [szl]; decide, k _ _ _ w2 x2 .non⟩
          · cases h
      · cases h
    · rename_i ys e
      obtain ⟨f, vs, e1, q⟩ := w.ob hh _ e
      split at h
      · rename_i hl
        cases h
        obtain ⟨wd2, w2, x2⟩ := w.setLV e (.inr ⟨_, rfl⟩) (q.append (.cons rv .nil))
        exact ⟨_, vs, v, rfl, rfl, e1, by rw [q.length, szl]; exact hl, k _ _ _ w2 x2 .non⟩
      · cases h
    · cases h
  · cases h
end
/-! ### what a loop walks -/
def iList (f : DEnv → M Val) : DEnv → M Iter := fun ρ S => bindR (f ρ S) fun d S1 => match d with
  | .pd (.list xs) => some (⟨xs.map Val.pd, none⟩, S1)
  | .pd (.tuple _) => none
  | .obj h => match S1[h]? with
    | some (.lst xs) => some (⟨xs.map Val.pd, some (h, .lst xs)⟩, S1.set h (.lock (.lst xs)))
    | some (.lsv xs) => some (⟨xs, some (h, .lsv xs)⟩, S1.set h (.lock (.lsv xs)))
    | some (.lock (.lst xs)) => some (⟨xs.map Val.pd, none⟩, S1)
    | some (.lock (.lsv xs)) => some (⟨xs, none⟩, S1)
    | _ => none
  | _ => none
def iTup (f : DEnv → M Val) : DEnv → M Iter := fun ρ S => bindR (f ρ S) fun d S1 => match d with
  | .pd (.tuple xs) => some (⟨xs.map Val.pd, none⟩, S1)
  | _ => none
def rgI (lo : Int) (n : Nat) : List Val := (List.range n).map fun i => .pd (.int (lo + (i : Nat)))
def iRng1 (f : DEnv → M Val) : DEnv → M Iter := fun ρ S => bindR (f ρ S) fun d S1 => match d with
  | .pd (.int j) => if -(2 ^ 62) ≤ j ∧ j < 2 ^ 62 then some (⟨rgI 0 j.toNat, none⟩, S1) else none
  | _ => none
def iRng2 (f g : DEnv → M Val) : DEnv → M Iter := fun ρ S => bindR (f ρ S) fun d S1 => bindR (g ρ S1) fun e S2 => match d, e with
  | .pd (.int i), .pd (.int j) => if -(2 ^ 62) ≤ i ∧ i < 2 ^ 62 ∧ -(2 ^ 62) ≤ j ∧ j < 2 ^ 62 then some (⟨rgI i (j - i).toNat, none⟩, S2) else none
  | _, _ => none
section
variable {X : Cx} {cl : Nat → Addr} {tg e a b : Expr} {f g : DEnv → M Val} {pos p : Pos}
theorem itOk_list {K : PySem.W.Frag} {a : Addr} {items : List Val} {wd : Wd} {S : Store} {H : Hp} (h : ∀ wd' S' H', WR K cl wd' S' H' → Ext wd S H wd' S' H' → ∃ vs, SqL K H' a vs ∧ RVs K wd' S'.length H' vs items) : ItOk K cl (Itl K a) items wd S H := fun wd' S' H' w x => by
  obtain ⟨vs, e, r⟩ := h wd' S' H' w x
  refine ⟨⟨vs, e, Nat.le_of_eq r.length⟩, fun i hi => ?_⟩
  have hi' : i < vs.length := by rw [r.length]; exact hi
  refine ⟨⟨vs, vs[i], e, by simp [hi']⟩, fun y H'' yl => ?_⟩
  obtain ⟨rfl, yl⟩ := yl
  obtain ⟨d, hd, rd⟩ := r.get' (yl vs (e))
  exact ⟨d, hd, w, .refl, rd⟩
theorem di_list (he : DE X cl e f) : DI X cl tg e (iList f) := by
  obtain ⟨t, p, s⟩ := he
  refine ⟨_, pi_list p, fun wd σ ρ S H R it S' w q h k => ?_⟩
  obtain ⟨d, S1, h1, h⟩ := bindR_inv h
  refine s wd σ ρ S H _ d S1 w q h1 fun wd1 v1 H1 w1 x1 r1 => ?_
  split at h
  · cases h
    cases r1 with
    | lst fz ra => exact ⟨_, rfl, ⟨_, fz.sq⟩, k wd1 _ H1 _ w1 x1 rfl w1 (itOk_list fun wd' S' H' w' x' => ⟨_, (fz.mono x'.keep).sq, RVs.ext x' ra.rvs⟩)⟩
  · cases h
  · rename_i hh
    obtain ⟨hi, rfl⟩ := r1
    split at h
    · rename_i xs ex
      cases h
      obtain ⟨fq, vs, e1, ra⟩ := w1.ob hh _ ex
      obtain ⟨w2, x2⟩ := w1.lockL ex (.inl ⟨_, rfl⟩)
      refine ⟨_, rfl, ⟨_, SqL.of e1⟩, k wd1 S1 H1 _ w1 x1 ⟨ex, fun u z => (by cases z), rfl⟩ w2 (itOk_list fun wd' S' H' w' x' => ?_)⟩
      obtain ⟨l1, l2⟩ := x'.lock hh (.lst xs) (List.getElem?_set_self (lt_of_get ex))
      exact ⟨vs, SqL.of (by rw [l2]; exact e1), RVs.ext (x2.trans x') ra.rvs⟩
    · rename_i xs ex
      cases h
      obtain ⟨fq, vs, e1, ra⟩ := w1.ob hh _ ex
      obtain ⟨w2, x2⟩ := w1.lockL ex (.inr ⟨_, rfl⟩)
      refine ⟨_, rfl, ⟨_, SqL.of e1⟩, k wd1 S1 H1 _ w1 x1 ⟨ex, fun u z => (by cases z), rfl⟩ w2 (itOk_list fun wd' S' H' w' x' => ?_)⟩
      obtain ⟨l1, l2⟩ := x'.lock hh (.lsv xs) (List.getElem?_set_self (lt_of_get ex))
      exact ⟨vs, SqL.of (by rw [l2]; exact e1), RVs.ext (x2.trans x') ra⟩
    · rename_i xs ex
      cases h
      obtain ⟨fq, vs, e1, ra⟩ := w1.ob hh _ ex
      refine ⟨_, rfl, ⟨_, SqL.of e1⟩, k wd1 _ H1 _ w1 x1 rfl w1 (itOk_list fun wd' S' H' w' x' => ?_)⟩
      obtain ⟨l1, l2⟩ := x'.lock hh (.lst xs) ex
      exact ⟨vs, SqL.of (by rw [l2]; exact e1), RVs.ext x' ra.rvs⟩
    · rename_i xs ex
      cases h
      obtain ⟨fq, vs, e1, ra⟩ := w1.ob hh _ ex
      refine ⟨_, rfl, ⟨_, SqL.of e1⟩, k wd1 _ H1 _ w1 x1 rfl w1 (itOk_list fun wd' S' H' w' x' => ?_)⟩
      obtain ⟨l1, l2⟩ := x'.lock hh (.lsv xs) ex
      exact ⟨vs, SqL.of (by rw [l2]; exact e1), RVs.ext x' ra⟩
    · cases h
  · cases h
theorem di_tup (he : DE X cl e f) : DI X cl tg e (iTup f) := by
  obtain ⟨t, p, s⟩ := he
  refine ⟨_, pi_tup p, fun wd σ ρ S H R it S' w q h k => ?_⟩
  obtain ⟨d, S1, h1, h⟩ := bindR_inv h
  refine s wd σ ρ S H _ d S1 w q h1 fun wd1 v1 H1 w1 x1 r1 => ?_
  split at h
  · cases h
    obtain ⟨a, vs, rfl, fz, ra⟩ := r1.tup_inv
    refine ⟨_, rfl, ⟨_, fz.sq⟩, k wd1 _ H1 _ w1 x1 rfl w1 fun wd' S' H' w' x' => ?_⟩
    have fz' := fz.mono x'.keep
    have r' := RVs.ext x' ra.rvs
    refine ⟨⟨vs, fz'.sq, Nat.le_of_eq r'.length⟩, fun i hi => ?_⟩
    have hi' : i < vs.length := by rw [r'.length]; exact hi
    refine ⟨⟨vs, vs[i], fz'.sq, by simp [hi']⟩, fun y H'' yl => ?_⟩
    obtain ⟨rfl, yl⟩ := yl
    obtain ⟨d, hd, rd⟩ := r'.get' (yl vs fz'.sq)
    exact ⟨d, hd, w', .refl, rd⟩
  · cases h
theorem itOk_rng {K : PySem.W.Frag} {lo : Int} {n : Nat} {wd : Wd} {S : Store} {H : Hp} : ItOk K cl (Itr lo n) (rgI lo n) wd S H := fun wd' S' H' w x => by
  have hl : (rgI lo n).length = n := by simp [rgI]
  refine ⟨by rw [hl]; exact Nat.le_refl _, fun i hi => ?_⟩
  rw [hl] at hi
  refine ⟨hi, fun y H'' yl => ?_⟩
  obtain ⟨rfl, rfl⟩ := yl
  exact ⟨.pd (.int (lo + i)), by simp [rgI, hi], w, .refl, .int _⟩
theorem di_rng1 (hg : Gl X "range") (hm : X.mg "range" = none) (ha : DE X cl a f) (hs : starEach [a] X.env = [(false, eval a X.env)] := by rfl) : DI X cl tg (.Call (.Name "range" p) [a] [] pos) (iRng1 f) := by
  obtain ⟨t, pa, s⟩ := ha
  refine ⟨_, pi_range1 hg hm (pa_cons pa pa_nil (by rw [hs]; rfl)) hs, fun wd σ ρ S H R it S' w q h k => ?_⟩
  obtain ⟨d, S1, h1, h⟩ := bindR_inv h
  refine s wd σ ρ S H _ d S1 w q h1 fun wd1 v1 H1 w1 x1 r1 => ?_
  split at h
  · split at h
    · rename_i hj
      cases h
      obtain rfl := r1.int_inv
      exact ⟨_, rfl, hj.1, hj.2, k wd1 _ H1 _ w1 x1 rfl w1 itOk_rng⟩
    · cases h
  · cases h
theorem di_rng2 (hg : Gl X "range") (hm : X.mg "range" = none) (ha : DE X cl a f) (hb : DE X cl b g) (hs : starEach [a, b] X.env = [(false, eval a X.env), (false, eval b X.env)] := by rfl) (hs2 : starEach [b] X.env = [(false, eval b X.env)] := by rfl) : DI X cl tg (.Call (.Name "range" p) [a, b] [] pos) (iRng2 f g) := by
  obtain ⟨t, pa, s⟩ := ha
  obtain ⟨t', pb, s'⟩ := hb
  refine ⟨_, pi_range2 hg hm (pa_cons pa (pa_cons pb pa_nil (by rw [hs2]; rfl)) (by rw [hs, hs2])) hs hs2, fun wd σ ρ S H R it S' w q h k => ?_⟩
  obtain ⟨d, S1, h1, h⟩ := bindR_inv h
  obtain ⟨d2, S2, h2, h⟩ := bindR_inv h
  refine s wd σ ρ S H _ d S1 w q h1 fun wd1 v1 H1 w1 x1 r1 => ?_
  refine s' wd1 σ ρ S1 H1 _ d2 S2 w1 (q.ext x1) h2 fun wd2 v2 H2 w2 x2 r2 => ?_
  split at h
  · split at h
    · rename_i hj
      cases h
      obtain rfl := r1.int_inv
      obtain rfl := r2.int_inv
      exact ⟨_, _, rfl, hj, k wd2 _ H2 _ w2 (x1.trans x2) rfl w2 itOk_rng⟩
    · cases h
  · cases h
/-- the locked things are lists -/
theorem lk_list : ∀ ρ S it S', iList f ρ S = some (it, S') → ∀ h o, it.lk = some (h, o) → (∃ xs, o = Ob.lst xs) ∨ ∃ xs, o = Ob.lsv xs := fun ρ S it S' h hh o e => by
  obtain ⟨d, S1, h1, h⟩ := bindR_inv h
  split at h
  · cases h; cases e
  · cases h
  · split at h
    · cases h; cases e; exact .inl ⟨_, rfl⟩
    · cases h; cases e; exact .inr ⟨_, rfl⟩
    · cases h; cases e
    · cases h; cases e
    · cases h
  · cases h
theorem lk_tup : ∀ ρ S it S', iTup f ρ S = some (it, S') → ∀ h o, it.lk = some (h, o) → (∃ xs, o = Ob.lst xs) ∨ ∃ xs, o = Ob.lsv xs := fun ρ S it S' h hh o e => by
  obtain ⟨d, S1, h1, h⟩ := bindR_inv h
  split at h
  · cases h; cases e
  · cases h
theorem lk_rng1 : ∀ ρ S it S', iRng1 f ρ S = some (it, S') → ∀ h o, it.lk = some (h, o) → (∃ xs, o = Ob.lst xs) ∨ ∃ xs, o = Ob.lsv xs := fun ρ S it S' h hh o e => by
  obtain ⟨d, S1, h1, h⟩ := bindR_inv h
  split at h
  · split at h
    · cases h; cases e
    · cases h
  · cases h
theorem lk_rng2 : ∀ ρ S it S', iRng2 f g ρ S = some (it, S') → ∀ h o, it.lk = some (h, o) → (∃ xs, o = Ob.lst xs) ∨ ∃ xs, o = Ob.lsv xs := fun ρ S it S' h hh o e => by
  obtain ⟨d, S1, h1, h⟩ := bindR_inv h
  obtain ⟨d2, S2, h2, h⟩ := bindR_inv h
  split at h
  · split at h
    · cases h; cases e
    · cases h
  · cases h
end
end DM
set_option Elab.async false
set_option linter.all false
set_option maxRecDepth 100000
namespace DM
open PySem L2 PyProof.Rows
section
variable {P : Program} {w : World} {K : PySem.W.Frag} {mg : Str → Option Value} {base : Heap} {cl : Nat → Addr}
theorem fn_okD {x qual : Str} {params : Arguments} {st : List Stmt} {scope : Scope} {dvs : List V} {kws : List (Str × V)} {f : Addr} {fd : FuncData} {N ps : List Str} {k : Nat} {g : DEnv → M Fl} {ex : Nat → Val → M Val} (F : FunD K x qual params st scope dvs kws f fd) (Sc : FnScope N ps scope) (hx : SimX K cl ex)
    (body : ∀ (cdv : Value) (A : Around) (outer : List Env) (s : Shared) (H : Hp) (E : XK), Room k (A.deeper (envOfC qual scope s.heap.objs.size f cdv)) → DSs (cxOf CX0 P w K mg base N qual scope f cdv A outer s H E).nox cl st g) :
    FnOk P w K mg base CX0 (k + 1) f fd ps (spOf K cl ps.length (fnF N.length g ex)) := by
  refine F.ok Sc (fun vs H Q E h => ?_) fun cdv A outer s H vs Q E hr h => ?_
  · obtain ⟨wd, S, ds, d, S', _, r, l, _⟩ := h
    rw [r.length]; exact l
  · obtain ⟨wd, S, ds, d, S', w0, r, l, hF, kq⟩ := h
    obtain ⟨t, p, s⟩ := body cdv A outer s H E hr
    refine ⟨t, p.nox, ?_⟩
    have er : ER K wd S.length H (L2.start N vs) (startD N.length ds) := by
      refine ⟨by simp [L2.start, startD, r.length], fun i d e => ?_⟩
      unfold startD at e
      by_cases hi : i < ds.length
      · rw [List.getElem?_append_left (by simpa using hi), List.getElem?_map] at e
        cases hd : ds[i]? with
        | none => rw [hd] at e; cases e
        | some d' =>
          rw [hd] at e
          cases e
          obtain ⟨v, h1, h2⟩ := r.get hd
          refine ⟨v, ?_, h2⟩
          unfold L2.start
          rw [List.getElem?_append_left (by simpa using lt_of_get h1), List.getElem?_map, h1]
          rfl
      · rw [List.getElem?_append_right (by simpa using hi), List.getElem?_replicate] at e
        split at e <;> cases e
    unfold fnF at hF
    split at hF
    · rename_i ρ' S1 e1
      refine s wd _ _ S H _ _ S1 w0 er e1 fun wd1 σ1 H1 w1 x1 q1 => ?_
      obtain ⟨wd2, w2, x2, r2⟩ := hx wd S H wd1 S1 H1 .non (.pd .none) d S' w0 w1 x1 .non hF
      exact kq wd2 .non H1 w2 x2 r2
    · rename_i d1 S1 e1
      refine s wd _ _ S H _ _ S1 w0 er e1 fun wd1 v1 H1 w1 x1 r1 => ?_
      obtain ⟨wd2, w2, x2, r2⟩ := hx wd S H wd1 S1 H1 v1 d1 d S' w0 w1 x1 r1 hF
      exact kq wd2 v1 H1 w2 x2 r2
    · cases hF
end
/-- the law's def at the script -/
theorem law_sp {K : PySem.W.Frag} {cl : Nat → Addr} {F : List Val → M Val} {n : Nat} (h : ∀ ns : List Int, ns.length ≤ n → ∃ S', F [.obj 0] [.scr (ns.map PyData.int)] = some (.pd (.bool true), S')) (H : Hp) (a : Addr) (ns : List Int) (hl : ns.length ≤ n) (hS : SqL K H a (ns.map V.int)) :
    spOf K cl 1 F [.ref a] H (fun v _ => v = .bl true) (fun _ _ _ => False) := by
  obtain ⟨S', hF⟩ := h ns hl
  have no : ∀ b, ¬ Own ⟨fun _ => a, fun _ _ => False, fun _ => False⟩ 1 b := by
    rintro b (z | ⟨_, _, z⟩)
    · exact z
    · exact z
  have ra : ∀ ms : List Int, RpAll K H (Own ⟨fun _ => a, fun _ _ => False, fun _ => False⟩ 1) (ms.map V.int) (ms.map PyData.int) := fun ms => by
    induction ms with
    | nil => exact .nil
    | cons m ms ih => exact .cons (.int m) ih
  refine ⟨⟨fun _ => a, fun _ _ => False, fun _ => False⟩, [.scr (ns.map PyData.int)], [.obj 0], _, S', ⟨fun i o e => ?_, fun i j b _ _ z => z.elim, fun i b _ z => z.elim, fun b z => z.elim⟩, .cons ⟨by simp, rfl⟩ .nil, rfl, hF, fun wd' v H' w x r => r.bool_inv⟩
  cases i with
  | zero =>
    simp at e
    subst e
    refine ⟨fun b z => z, _, ?_, ra ns⟩
    rcases hS with h | h
    · exact .inl ⟨h, no a⟩
    · exact .inr h
  | succ i => simp at e
end DM
set_option Elab.async false
set_option linter.all false
set_option maxRecDepth 100000
namespace DM
open PySem L2 PyProof.Rows
/-! ### a list or a tuple that is walked -/
theorem PI.or {X : Cx} {tg e : Expr} {w1 w2 : TI} (h1 : PI X tg e w1) (h2 : PI X tg e w2) : PI X tg e (fun σ H R => w1 σ H R ∨ w2 σ H R) := ⟨fun pins s σ H R I h => by
  rcases h with h | h
  · exact h1.run pins s σ H R I h
  · exact h2.run pins s σ H R I h⟩
def iSeq (f : DEnv → M Val) : DEnv → M Iter := fun ρ S => match f ρ S with
  | some (.pd (.tuple xs), S1) => some (⟨xs.map Val.pd, none⟩, S1)
  | _ => iList f ρ S
theorem di_seq {X : Cx} {cl : Nat → Addr} {tg e : Expr} {f : DEnv → M Val} (he : DE X cl e f) : DI X cl tg e (iSeq f) := by
  obtain ⟨t1, p1, s1⟩ := di_list (tg := tg) he
  obtain ⟨t2, p2, s2⟩ := di_tup (tg := tg) he
  refine ⟨_, PI.or p1 p2, fun wd σ ρ S H R it S' w q h k => ?_⟩
  unfold iSeq at h
  split at h
  · rename_i xs S1 h1
    cases h
    refine .inr (s2 wd σ ρ S H R ⟨xs.map Val.pd, none⟩ _ w q ?_ k)
    unfold iTup
    rw [h1]
    rfl
  · exact .inl (s1 wd σ ρ S H R it S' w q h k)
theorem lk_seq {f : DEnv → M Val} : ∀ ρ S it S', iSeq f ρ S = some (it, S') → ∀ h o, it.lk = some (h, o) → (∃ xs, o = Ob.lst xs) ∨ ∃ xs, o = Ob.lsv xs := fun ρ S it S' h hh o e => by
  unfold iSeq at h
  split at h
  · cases h; cases e
  · exact lk_list ρ S it S' h hh o e
/-! ### comprehensions -/
/-- a target that is names: which slots it sets -/
structure SimGc (K : PySem.W.Frag) (cl : Nat → Addr) (t : TG) (ix : List Nat) (g : Val → DEnv → M DEnv) : Prop where
  st : ∀ (d : Val) (ρ : DEnv) (S : Store) (ρ' : DEnv) (S' : Store), g d ρ S = some (ρ', S') → S' = S
  sim : ∀ (wd : Wd) (σ : L2.St) (ρ : DEnv) (S : Store) (H : Hp) (v : V) (d : Val) (Q : L2.St → Hp → Prop) (ρ' : DEnv), WR K cl wd S H → ER K wd S.length H σ ρ → RV K wd S.length H v d → g d ρ S = some (ρ', S) →
    (∀ σ', ER K wd S.length H σ' ρ' → σ'.length = σ.length → (∀ i : Nat, i ∉ ix → σ'[i]? = σ[i]?) → Q σ' H) → t v σ H Q
structure SimGsc (K : PySem.W.Frag) (cl : Nat → Addr) (t : TGs) (ix : List Nat) (g : List Val → DEnv → M DEnv) : Prop where
  st : ∀ (d : List Val) (ρ : DEnv) (S : Store) (ρ' : DEnv) (S' : Store), g d ρ S = some (ρ', S') → S' = S
  sim : ∀ (wd : Wd) (σ : L2.St) (ρ : DEnv) (S : Store) (H : Hp) (vs : List V) (ds : List Val) (Q : L2.St → Hp → Prop) (ρ' : DEnv), WR K cl wd S H → ER K wd S.length H σ ρ → RVs K wd S.length H vs ds → g ds ρ S = some (ρ', S) →
    (∀ σ', ER K wd S.length H σ' ρ' → σ'.length = σ.length → (∀ i : Nat, i ∉ ix → σ'[i]? = σ[i]?) → Q σ' H) → t vs σ H Q
def DC (X : Cx) (cl : Nat → Addr) (tg : Expr) (ix : List Nat) (t : TG) (g : Val → DEnv → M DEnv) : Prop := PG X tg t ∧ SimGc X.K cl t ix g
def DCs (X : Cx) (cl : Nat → Addr) (tgs : List Expr) (ix : List Nat) (t : TGs) (g : List Val → DEnv → M DEnv) : Prop := PGs X tgs t ∧ SimGsc X.K cl t ix g
section
variable {X : Cx} {cl : Nat → Addr} {pos : Pos}
theorem dc_name (i : Nat) {x : Str} (hN : X.N.Nodup) (hi : X.N[i]? = some x) (hx : Loc X.env.scope x) (hf : X.fn x = true ∨ X.env.scope.names.lookup x = some .local := by first | exact .inl rfl | exact .inr rfl | assumption) : DC X cl (.Name x pos) [i] (gName i) (nName i) :=
  ⟨pg_name hN hi hx hf, ⟨fun d ρ S ρ' S' h => by cases h; rfl, fun wd σ ρ S H v d Q ρ' w q r h k => by
    cases h
    refine k _ (q.set i r) (by simp) fun j hj => ?_
    have : i ≠ j := fun z => hj (by simp [z])
    exact List.getElem?_set_ne this⟩⟩
theorem dcs_nil : DCs X cl [] [] gNil nsNil := by
  refine ⟨pgs_nil, ⟨fun d ρ S ρ' S' h => ?_, fun wd σ ρ S H vs ds Q ρ' w q r h k => ?_⟩⟩
  · cases d with
    | nil => cases h; rfl
    | cons _ _ => cases h
  · cases r with
    | nil => cases h; exact ⟨rfl, k σ q rfl fun _ _ => rfl⟩
    | cons r t => cases h
theorem dcs_cons {tg : Expr} {tgs : List Expr} {ix ix' : List Nat} {t : TG} {t' : TGs} {gg : Val → DEnv → M DEnv} {ggs : List Val → DEnv → M DEnv} (h1 : DC X cl tg ix t gg) (h2 : DCs X cl tgs ix' t' ggs) (hs : (assignEach (tg :: tgs) X.env).map (·.2) = assign tg X.env :: (assignEach tgs X.env).map (·.2) := by rfl) : DCs X cl (tg :: tgs) (ix ++ ix') (gCons t t') (nsCons gg ggs) := by
  obtain ⟨p, s⟩ := h1
  obtain ⟨p', s'⟩ := h2
  refine ⟨pgs_cons p p' hs, ⟨fun d ρ S ρ' S' h => ?_, fun wd σ ρ S H vs ds Q ρ' w q r h k => ?_⟩⟩
  · cases d with
    | nil => cases h
    | cons d ds =>
      obtain ⟨x, S1, e1, h2⟩ := bindR_inv h
      have := s.st _ _ _ _ _ e1
      subst this
      exact s'.st _ _ _ _ _ h2
  · cases r with
    | nil => cases h
    | @cons v vs d ds r rs =>
      obtain ⟨x, S1, e1, h2⟩ := bindR_inv h
      have := s.st _ _ _ _ _ e1
      subst this
      refine ⟨_, _, rfl, s.sim wd σ ρ _ H v d _ x w q r e1 fun σ' q' hl ho => ?_⟩
      refine s'.sim wd σ' x _ H vs ds Q ρ' w q' rs h2 fun σ2 q2 hl2 ho2 => k σ2 q2 (by omega) fun i hi => ?_
      rw [List.mem_append, not_or] at hi
      rw [ho2 i hi.2, ho i hi.1]
theorem dc_tup {es : List Expr} {kk n : Nat} {ix : List Nat} {t : TGs} {ggs : List Val → DEnv → M DEnv} (hc : X.calm = true) (h : DCs X cl es ix t ggs) (hn : (assignEach es X.env).length = n := by rfl) (hst : (assignEach es X.env).findIdx? (·.1) = none := by rfl) : DC X cl (.Tuple es kk pos) ix (gTup X.K n t) (nTup n ggs) := by
  obtain ⟨p, s⟩ := h
  refine ⟨pg_tup hc p hn hst, ⟨fun d ρ S ρ' S' h => ?_, fun wd σ ρ S H v d Q ρ' w q r h k => ?_⟩⟩
  · unfold nTup at h
    split at h
    · split at h
      · exact s.st _ _ _ _ _ h
      · cases h
    · cases h
  · unfold nTup at h
    split at h
    · rename_i ds
      split at h
      · rename_i hl
        obtain ⟨a, vs, rfl, f, ra⟩ := r.tup_inv
        exact ⟨_, _, rfl, f.sq, by rw [ra.length]; exact hl, s.sim wd σ ρ S H _ _ Q ρ' w q ra.rvs h k⟩
      · cases h
    · cases h
end
def tYesD : DEnv → M Bool := fun _ S => some (true, S)
def wipeD (ρ : DEnv) : List Nat → DEnv
  | [] => ρ
  | v :: vs => (wipeD ρ vs).set v none
theorem wipe_er {K : PySem.W.Frag} {wd : Wd} {n : Nat} {H : Hp} {σ : L2.St} {ρ : DEnv} (q : ER K wd n H σ ρ) : ∀ vs : List Nat, ER K wd n H (wipe σ vs) (wipeD ρ vs)
  | [] => q
  | v :: vs => by
    have ih := wipe_er q vs
    refine ⟨by simp [wipe, wipeD, ih.len], fun i d e => ?_⟩
    unfold wipeD at e
    unfold wipe
    by_cases hv : v = i
    · subst hv
      have hl : v < (wipeD ρ vs).length := by have := lt_of_get e; simpa using this
      rw [List.getElem?_set_self hl] at e
      cases e
    · rw [List.getElem?_set_ne hv] at e
      obtain ⟨x, h1, h2⟩ := ih.at' i d e
      exact ⟨x, by rw [List.getElem?_set_ne hv]; exact h1, h2⟩
theorem wipe_get {σ : L2.St} : ∀ {vs : List Nat} (i : Nat), (wipe σ vs)[i]? = if i ∈ vs ∧ i < σ.length then some none else σ[i]?
  | [], i => by simp [wipe]
  | v :: vs, i => by
    unfold wipe
    by_cases hv : v = i
    · subst hv
      by_cases hl : v < σ.length
      · rw [List.getElem?_set_self (by rw [wipe_length]; exact hl)]
        simp [hl]
      · rw [List.getElem?_eq_none (by simp [wipe_length]; omega), if_neg (by simp; omega), List.getElem?_eq_none (by omega)]
    · rw [List.getElem?_set_ne hv, wipe_get i]
      have e : (i ∈ v :: vs) ↔ i ∈ vs := by simp [Ne.symm hv]
      simp only [e]
theorem wipe_same {σ σ' : L2.St} {vs : List Nat} (hl : σ'.length = σ.length) (h : ∀ i : Nat, i ∉ vs → σ'[i]? = (wipe σ vs)[i]?) : wipe σ' vs = wipe σ vs := by
  apply List.ext_getElem?
  intro i
  rw [wipe_get, wipe_get, hl]
  by_cases hi : i ∈ vs
  · by_cases hl2 : i < σ.length
    · simp [hi, hl2]
    · rw [if_neg (by omega), if_neg (by omega), List.getElem?_eq_none (by omega), List.getElem?_eq_none (by omega)]
  · rw [if_neg (fun z => hi z.1), if_neg (fun z => hi z.1), h i hi, wipe_get, if_neg (fun z => hi z.1)]
/-- the items of a comprehension -/
def loopC (gg : Val → DEnv → M DEnv) (ft : DEnv → M Bool) (fe : DEnv → M Val) (ρ : DEnv) : List Val → List PyData → M (List PyData)
  | [], acc, S => some (acc, S)
  | d :: ds, acc, S => bindR (gg d ρ S) fun ρ1 S1 => bindR (ft ρ1 S1) fun b S2 => if b = true then bindR (fe ρ1 S2) fun y S3 => match y with
      | .pd y => if acc.length < 16777216 then loopC gg ft fe ρ ds (acc ++ [y]) S3 else none
      | .obj _ => none
    else loopC gg ft fe ρ ds acc S2
def eLc (fi : DEnv → M Iter) (gg : Val → DEnv → M DEnv) (ft : DEnv → M Bool) (fe : DEnv → M Val) (ix : List Nat) : DEnv → M Val := fun ρ S => bindR (fi ρ S) fun it S1 => bindR (loopC gg ft fe (wipeD ρ ix) it.items [] S1) fun ys S2 => some (.pd (.list ys), it.un S2)
/-- .. of which the list is an object of the store, at n -/
def loopM (gg : Val → DEnv → M DEnv) (ft : DEnv → M Bool) (fe : DEnv → M Val) (ρ : DEnv) (n : Nat) : List Val → M Unit
  | [], S => some ((), S)
  | d :: ds, S => bindR (gg d ρ S) fun ρ1 S1 => bindR (ft ρ1 S1) fun b S2 => if b = true then bindR (fe ρ1 S2) fun y S3 => bindR (uAppend (.obj n) [y] S3) fun _ S4 => loopM gg ft fe ρ n ds S4
    else loopM gg ft fe ρ n ds S2
def eLcM (fi : DEnv → M Iter) (gg : Val → DEnv → M DEnv) (ft : DEnv → M Bool) (fe : DEnv → M Val) (ix : List Nat) : DEnv → M Val := fun ρ S => bindR (fi ρ S) fun it S1 => bindR (loopM gg ft fe (wipeD ρ ix) S1.length it.items (S1 ++ [.lst []])) fun _ S2 => some (.obj S1.length, it.un S2)
def eLcV (fi : DEnv → M Iter) (gg : Val → DEnv → M DEnv) (ft : DEnv → M Bool) (fe : DEnv → M Val) (ix : List Nat) : DEnv → M Val := fun ρ S => bindR (fi ρ S) fun it S1 => bindR (loopM gg ft fe (wipeD ρ ix) S1.length it.items (S1 ++ [.lsv []])) fun _ S2 => some (.obj S1.length, it.un S2)
/-- what an unlocking keeps -/
theorem un_ok {K : PySem.W.Frag} {cl : Nat → Addr} {wd wd1 : Wd} {S S0 S1 : Store} {H H1 : Hp} {it : Iter} (x0 : Ext wd S H wd1 S0 H1) (lk : LkOk S0 S1 it) (hk : ∀ h o, it.lk = some (h, o) → (∃ xs, o = .lst xs) ∨ ∃ xs, o = .lsv xs) {wd2 : Wd} {S2 : Store} {H2 : Hp} (w2 : WR K cl wd2 S2 H2) (x2 : Ext wd1 S1 H1 wd2 S2 H2) :
    WR K cl wd2 (it.un S2) H2 ∧ Ext wd S H wd2 (it.un S2) H2 ∧ (it.un S2).length = S2.length := by
  unfold LkOk at lk
  unfold Iter.un
  cases hl : it.lk with
  | none =>
    rw [hl] at lk
    dsimp only at lk ⊢
    subst lk
    exact ⟨w2, x0.trans x2, rfl⟩
  | some p =>
    obtain ⟨hh, o⟩ := p
    rw [hl] at lk
    dsimp only at lk ⊢
    obtain ⟨l1, l2, rfl⟩ := lk
    obtain ⟨y1, y2⟩ := w2.unlock l1 l2 x2 (OR.lock_iff (hk hh o hl)).mp
    exact ⟨y1, x0.trans y2, by simp⟩
section
variable {X : Cx} {cl : Nat → Addr} {elt tg iter : Expr} {ifs : List Expr} {scope : Scope} {own : List (Str × Nat)} {pos : Pos} {fi : DEnv → M Iter} {gg : Val → DEnv → M DEnv} {ft : DEnv → M Bool} {fe : DEnv → M Val} {ix : List Nat}
/-- a list that is being made: hidden -/
def Wd.hide (wd : Wd) (D : Addr) : Wd := ⟨wd.ad, wd.fp, fun b => wd.hid b ∨ b = D⟩
def Wd.show (wd : Wd) (D : Addr) : Wd := ⟨wd.ad, wd.fp, fun b => wd.hid b ∧ b ≠ D⟩
theorem WR.mkHid {K : PySem.W.Frag} {wd : Wd} {S : Store} {H : Hp} {D : Addr} {o : HO} (w : WR K cl wd S H) (hD : H D = none) : WR K cl (wd.hide D) S (upd H D o) ∧ Ext wd S H (wd.hide D) S (upd H D o) := by
  have hk := upd_keeps (o := o) hD
  have keep : ∀ b u, H b = some u → ¬ Own wd S.length b → upd H D o b = some u ∧ ¬ Own (wd.hide D) S.length b := fun b u e n => by
    have ne : b ≠ D := fun z => by rw [z, hD] at e; cases e
    refine ⟨hk b u e, ?_⟩
    rintro ((z | z) | z)
    · exact n (.inl z)
    · exact ne z
    · exact n (.inr z)
  have x : Ext wd S H (wd.hide D) S (upd H D o) := ⟨Nat.le_refl _, fun _ _ => rfl, keep, fun i u e => ⟨e, ((Ext.all w hk).lock i u e).2⟩, fun b h => ⟨.inl h, ((Ext.all w hk).hid b h).2⟩⟩
  refine ⟨⟨fun i u e => OR.mono x.len x.ad keep (fun b hb => ?_) (w.ob i u e), w.dj, fun i b hi hb => ?_, fun b hb => ?_⟩, x⟩
  · obtain ⟨v, hv⟩ := w.lv i b (lt_of_get e) hb
    rw [hv]; exact hk b v hv
  · obtain ⟨v, hv⟩ := w.lv i b hi hb
    exact ⟨v, hk b v hv⟩
  · rcases hb with hb | rfl
    · obtain ⟨⟨v, hv⟩, z⟩ := w.hd b hb
      exact ⟨⟨v, hk b v hv⟩, z⟩
    · exact ⟨⟨_, upd_same⟩, fun i hi q => by
        obtain ⟨v, hv⟩ := w.lv i b hi q
        rw [hD] at hv; cases hv⟩
theorem WR.updHid {K : PySem.W.Frag} {wd0 wd : Wd} {S0 S : Store} {H0 H : Hp} {D : Addr} {o : HO} (w : WR K cl wd S H) (hD : wd.hid D) (x : Ext wd0 S0 H0 wd S H) (w0 : WR K cl wd0 S0 H0) (h0 : H0 D = none) : WR K cl wd S (upd H D o) ∧ Ext wd0 S0 H0 wd S (upd H D o) := by
  obtain ⟨⟨u0, hu0⟩, nf⟩ := w.hd D hD
  have keep : ∀ b u, H b = some u → ¬ Own wd S.length b → upd H D o b = some u ∧ ¬ Own wd S.length b := fun b u e n => ⟨by rw [upd_ne (fun z => n (by rw [z]; exact .inl hD))]; exact e, n⟩
  refine ⟨⟨fun i u e => OR.mono (S := S) (S' := S) (Nat.le_refl _) (fun _ _ => rfl) keep (fun b hb => ?_) (w.ob i u e), w.dj, fun i b hi hb => ?_, fun b hb => ?_⟩, ⟨x.len, x.ad, fun b u e n => ?_, fun i u e => ?_, fun b hb => ?_⟩⟩
  · rw [upd_ne (fun z => nf i (lt_of_get e) (by rw [← z]; exact hb))]
  · obtain ⟨v, hv⟩ := w.lv i b hi hb
    by_cases z : b = D
    · subst z; exact ⟨_, upd_same⟩
    · exact ⟨v, by rw [upd_ne z]; exact hv⟩
  · obtain ⟨⟨v, hv⟩, z⟩ := w.hd b hb
    refine ⟨?_, z⟩
    by_cases z : b = D
    · subst z; exact ⟨_, upd_same⟩
    · exact ⟨v, by rw [upd_ne z]; exact hv⟩
  · obtain ⟨h1, h2⟩ := x.keep b u e n
    exact keep b u h1 h2
  · obtain ⟨h1, h2⟩ := x.lock i u e
    refine ⟨h1, ?_⟩
    rw [upd_ne ?_]
    · exact h2
    · intro z
      rw [z, hu0] at h2
      rw [h0] at h2
      cases h2
  · obtain ⟨h1, h2⟩ := x.hid b hb
    refine ⟨h1, ?_⟩
    rw [upd_ne (fun z => by
      obtain ⟨⟨v, hv⟩, _⟩ := w0.hd b hb
      rw [z, h0] at hv; cases hv)]
    exact h2
theorem WR.unHid {K : PySem.W.Frag} {wd0 wd : Wd} {S0 S : Store} {H0 H : Hp} {D : Addr} (w : WR K cl wd S H) (hD : wd.hid D) (x : Ext wd0 S0 H0 wd S H) (w0 : WR K cl wd0 S0 H0) (h0 : H0 D = none) : WR K cl (wd.show D) S H ∧ Ext wd0 S0 H0 (wd.show D) S H ∧ ¬ Own (wd.show D) S.length D ∧ ∀ b, ¬ Own wd S.length b → ¬ Own (wd.show D) S.length b := by
  obtain ⟨⟨u0, hu0⟩, nf⟩ := w.hd D hD
  have less : ∀ b, ¬ Own wd S.length b → ¬ Own (wd.show D) S.length b := fun b n => by
    rintro (⟨z, _⟩ | z)
    · exact n (.inl z)
    · exact n (.inr z)
  refine ⟨⟨fun i u e => OR.mono (S := S) (S' := S) (wd := wd) (Nat.le_refl _) (fun _ _ => rfl) (fun b u e n => ⟨e, less b n⟩) (fun b _ => rfl) (w.ob i u e), w.dj, w.lv, fun b hb => w.hd b hb.1⟩, ⟨x.len, x.ad, fun b u e n => ?_, x.lock, fun b hb => ?_⟩, ?_, less⟩
  · obtain ⟨h1, h2⟩ := x.keep b u e n
    exact ⟨h1, less b h2⟩
  · obtain ⟨h1, h2⟩ := x.hid b hb
    exact ⟨⟨h1, fun z => by
      obtain ⟨⟨v, hv⟩, _⟩ := w0.hd b hb
      rw [z, h0] at hv; cases hv⟩, h2⟩
  · rintro (⟨_, z⟩ | ⟨i, hi, z⟩)
    · exact z rfl
    · exact nf i hi z
/-- the simulation of a comprehension's reading, a frozen list -/
theorem sim_lc {K : PySem.W.Frag} {ti : TI} {tg : TG} {tt : TT} {te : TE} (hi : SimI K cl ti fi) (hg : SimGc K cl tg ix gg) (ht : SimT K cl tt ft) (he : SimE K cl te fe) (hk : ∀ ρ S it S', fi ρ S = some (it, S') → ∀ h o, it.lk = some (h, o) → (∃ xs, o = Ob.lst xs) ∨ ∃ xs, o = Ob.lsv xs) :
    SimE K cl (tLc ti tg tt te ix) (eLc fi gg ft fe ix) := fun wd σ ρ S H Q d S' w q h k => by
  obtain ⟨it, S1, h1, h⟩ := bindR_inv h
  obtain ⟨ys, S2, h2, h⟩ := bindR_inv h
  cases h
  refine hi wd σ ρ S H _ it S1 w q h1 fun wd1 S0 H1 J w0 x0 lk w1 jo => ?_
  intro D hD
  have q1 : ER K wd1 S1.length H1 σ ρ := by
    have z := q.ext x0
    have : S1.length = S0.length := by
      unfold LkOk at lk
      split at lk
      · rw [lk]
      · rw [lk.2.2]; simp
    rw [this]
    exact z
  obtain ⟨wB, xB⟩ := w1.mkHid (o := .lst []) hD
  refine ⟨fun i m H' => m = it.items.length - i ∧ i ≤ it.items.length ∧ ∃ wd' S' acc vs, WR K cl wd' S' H' ∧ Ext wd1 S1 H1 wd' S' H' ∧ wd'.hid D ∧ H' D = some (.lst vs) ∧ RpAll K H' (Own wd' S'.length) vs acc ∧ loopC gg ft fe (wipeD ρ ix) (it.items.drop i) acc S' = some (ys, S2),
    ⟨_, rfl, Nat.zero_le _, wd1.hide D, S1, [], [], wB, xB, .inr rfl, upd_same, .nil, by simpa using h2⟩, ?_⟩
  rintro i m H' ⟨rfl, hle, wd', S', acc, vs, w', x', hh, eD, ra, hl⟩
  obtain ⟨jst, jgo⟩ := jo wd' S' H' w' x'
  by_cases hlt : i < it.items.length
  · obtain ⟨go, yl⟩ := jgo i hlt
    refine .inr ⟨go, fun H3 => ∃ m', m' < it.items.length - i ∧ (m' = it.items.length - (i + 1) ∧ i + 1 ≤ it.items.length ∧ ∃ wd' S' acc vs, WR K cl wd' S' H3 ∧ Ext wd1 S1 H1 wd' S' H3 ∧ wd'.hid D ∧ H3 D = some (.lst vs) ∧ RpAll K H3 (Own wd' S'.length) vs acc ∧ loopC gg ft fe (wipeD ρ ix) (it.items.drop (i + 1)) acc S' = some (ys, S2)), fun H3 ⟨m', hm, z⟩ => ⟨m', hm, z⟩, fun x H'' y => ?_⟩
    obtain ⟨d, hd, w2, x2, r2⟩ := yl x H'' y
    rw [drop_get hd] at hl
    obtain ⟨ρ3, S3, h3, hl2⟩ := bindR_inv hl
    have := hg.st _ _ _ _ _ h3
    subst this
    obtain ⟨b, S4, h4, hl3⟩ := bindR_inv hl2
    clear hl hl2
    have qq := q1.ext (x'.trans x2)
    refine hg.sim wd' _ _ _ H'' x d _ ρ3 w2 (wipe_er qq ix) r2 h3 fun σ3 q3 hl3' ho3 => ⟨wipe_same (by rw [hl3', wipe_length]) ho3, ?_⟩
    refine ht wd' σ3 ρ3 _ H'' _ b S4 w2 q3 h4 fun wd4 H4 w4 x4 => ?_
    obtain ⟨hh2, e2⟩ := x2.hid D hh
    obtain ⟨hh4, e4⟩ := x4.hid D hh2
    have ra4 := RpAll.mono x4.keep _ _ (RpAll.mono x2.keep _ _ ra)
    cases b with
    | true =>
      rw [if_pos rfl] at hl3 ⊢
      obtain ⟨y, S5, h5, hl5⟩ := bindR_inv hl3
      refine he wd4 σ3 ρ3 S4 H4 _ y S5 w4 (q3.ext x4) h5 fun wd5 v5 H5 w5 x5 r5 => ?_
      obtain ⟨hh5, e5⟩ := x5.hid D hh4
      have ra5 := RpAll.mono x5.keep _ _ ra4
      have eD5 : H5 D = some (.lst vs) := by rw [e5, e4, e2]; exact eD
      split at hl5
      · rename_i y'
        split at hl5
        · rename_i hlen
          refine ⟨vs, eD5, by rw [ra5.length, szl]; exact hlen, ?_⟩
          obtain ⟨w6, x6⟩ := w5.updHid (o := .lst (vs ++ [v5])) hh5 (((x'.trans x2).trans x4).trans x5) w1 hD
          have kk : ∀ b u, H5 b = some u → ¬ Own wd5 S5.length b → upd H5 D (.lst (vs ++ [v5])) b = some u ∧ ¬ Own wd5 S5.length b := fun b u e n => ⟨by rw [upd_ne (fun z => n (by rw [z]; exact .inl hh5))]; exact e, n⟩
          exact ⟨_, by omega, rfl, hlt, wd5, S5, acc ++ [y'], vs ++ [v5], w6, x6, hh5, upd_same, RpAll.mono kk _ _ (ra5.append (.cons r5 .nil)), hl5⟩
        · cases hl5
      · cases hl5
    | false =>
      rw [if_neg Bool.false_ne_true] at hl3 ⊢
      exact ⟨_, by omega, rfl, hlt, wd4, S4, acc, vs, w4, (x'.trans x2).trans x4, hh4, by rw [e4, e2]; exact eD, ra4, hl3⟩
  · have e : i = it.items.length := by omega
    subst e
    rw [List.drop_length] at hl
    cases hl
    obtain ⟨wz, xz, nz, lz⟩ := w'.unHid hh x' w1 hD
    obtain ⟨y1, y2, y3⟩ := un_ok x0 lk (hk ρ S it S1 h1) wz xz
    refine .inl ⟨jst, k _ (.ref D) H' y1 y2 ?_⟩
    rw [y3]
    exact .lst ⟨.inl eD, nz⟩ (RpAll.mono (fun b u e n => ⟨e, lz b n⟩) _ _ ra)
/-- .. a list of the store -/
theorem sim_lcM {K : PySem.W.Frag} {ti : TI} {tg : TG} {tt : TT} {te : TE} {V0 : Bool} (hi : SimI K cl ti fi) (hg : SimGc K cl tg ix gg) (ht : SimT K cl tt ft) (he : SimE K cl te fe) (hk : ∀ ρ S it S', fi ρ S = some (it, S') → ∀ h o, it.lk = some (h, o) → (∃ xs, o = Ob.lst xs) ∨ ∃ xs, o = Ob.lsv xs) :
    SimE K cl (tLc ti tg tt te ix) (if V0 then eLcV fi gg ft fe ix else eLcM fi gg ft fe ix) := fun wd σ ρ S H Q d S' w q h k => by
  have : ∃ it S1 S2 o0, fi ρ S = some (it, S1) ∧ (o0 = Ob.lst [] ∨ o0 = Ob.lsv []) ∧ loopM gg ft fe (wipeD ρ ix) S1.length it.items (S1 ++ [o0]) = some ((), S2) ∧ d = .obj S1.length ∧ S' = it.un S2 := by
    cases V0 with
    | true =>
      rw [if_pos rfl] at h
      obtain ⟨it, S1, h1, h⟩ := bindR_inv h
      obtain ⟨ys, S2, h2, h⟩ := bindR_inv h
      cases h
      exact ⟨it, S1, S2, _, h1, .inr rfl, h2, rfl, rfl⟩
    | false =>
      rw [if_neg Bool.false_ne_true] at h
      obtain ⟨it, S1, h1, h⟩ := bindR_inv h
      obtain ⟨ys, S2, h2, h⟩ := bindR_inv h
      cases h
      exact ⟨it, S1, S2, _, h1, .inl rfl, h2, rfl, rfl⟩
  obtain ⟨it, S1, S2, o0, h1, ho0, h2, rfl, rfl⟩ := this
  clear h
  refine hi wd σ ρ S H _ it S1 w q h1 fun wd1 S0 H1 J w0 x0 lk w1 jo => ?_
  intro D hD
  have q1 : ER K wd1 S1.length H1 σ ρ := by
    have z := q.ext x0
    have : S1.length = S0.length := by
      unfold LkOk at lk
      split at lk
      · rw [lk]
      · rw [lk.2.2]; simp
    rw [this]
    exact z
  obtain ⟨wdB, wB, xB, rB⟩ : ∃ wd', WR K cl wd' (S1 ++ [o0]) (upd H1 D (.lst [])) ∧ Ext wd1 S1 H1 wd' (S1 ++ [o0]) (upd H1 D (.lst [])) ∧ RV K wd' (S1 ++ [o0]).length (upd H1 D (.lst [])) (.ref D) (.obj S1.length) := by
    rcases ho0 with rfl | rfl
    · exact w1.newL .nil hD
    · exact w1.newLV .nil hD
  -- what stands at S1.length is a list at D
  refine ⟨fun i m H' => m = it.items.length - i ∧ i ≤ it.items.length ∧ ∃ wd' S', WR K cl wd' S' H' ∧ Ext wd1 S1 H1 wd' S' H' ∧ wd'.ad S1.length = D ∧ S1.length < S'.length ∧ loopM gg ft fe (wipeD ρ ix) S1.length (it.items.drop i) S' = some ((), S2),
    ⟨_, rfl, Nat.zero_le _, wdB, S1 ++ [o0], wB, xB, by have := rB.2; simpa using this.symm, by simp, by simpa using h2⟩, ?_⟩
  rintro i m H' ⟨rfl, hle, wd', S', w', x', hh, hlen, hl⟩
  obtain ⟨jst, jgo⟩ := jo wd' S' H' w' x'
  by_cases hlt : i < it.items.length
  · obtain ⟨go, yl⟩ := jgo i hlt
    refine .inr ⟨go, fun H3 => ∃ m', m' < it.items.length - i ∧ (m' = it.items.length - (i + 1) ∧ i + 1 ≤ it.items.length ∧ ∃ wd' S', WR K cl wd' S' H3 ∧ Ext wd1 S1 H1 wd' S' H3 ∧ wd'.ad S1.length = D ∧ S1.length < S'.length ∧ loopM gg ft fe (wipeD ρ ix) S1.length (it.items.drop (i + 1)) S' = some ((), S2)), fun H3 ⟨m', hm, z⟩ => ⟨m', hm, z⟩, fun x H'' y => ?_⟩
    obtain ⟨d, hd, w2, x2, r2⟩ := yl x H'' y
    rw [drop_get hd] at hl
    obtain ⟨ρ3, S3, h3, hl2⟩ := bindR_inv hl
    have := hg.st _ _ _ _ _ h3
    subst this
    obtain ⟨b, S4, h4, hl3⟩ := bindR_inv hl2
    clear hl hl2
    have qq := q1.ext (x'.trans x2)
    refine hg.sim wd' _ _ _ H'' x d _ ρ3 w2 (wipe_er qq ix) r2 h3 fun σ3 q3 hl3' ho3 => ⟨wipe_same (by rw [hl3', wipe_length]) ho3, ?_⟩
    refine ht wd' σ3 ρ3 _ H'' _ b S4 w2 q3 h4 fun wd4 H4 w4 x4 => ?_
    have hh4 : wd4.ad S1.length = D := by rw [x4.ad _ hlen]; exact hh
    have hlen4 : S1.length < S4.length := Nat.lt_of_lt_of_le hlen x4.len
    cases b with
    | true =>
      rw [if_pos rfl] at hl3 ⊢
      obtain ⟨y, S5, h5, hl5⟩ := bindR_inv hl3
      obtain ⟨u6, S6, h6, hl6⟩ := bindR_inv hl5
      refine he wd4 σ3 ρ3 S4 H4 _ y S5 w4 (q3.ext x4) h5 fun wd5 v5 H5 w5 x5 r5 => ?_
      have hh5 : wd5.ad S1.length = D := by rw [x5.ad _ hlen4]; exact hh4
      have hlen5 : S1.length < S5.length := Nat.lt_of_lt_of_le hlen4 x5.len
      have ap := sm_append (K := K) (cl := cl) wd5 S5 H5 (.ref D) [v5] (.obj S1.length) [y] (fun _ H6 => ∃ m', m' < it.items.length - i ∧ (m' = it.items.length - (i + 1) ∧ i + 1 ≤ it.items.length ∧ ∃ wd' S', WR K cl wd' S' H6 ∧ Ext wd1 S1 H1 wd' S' H6 ∧ wd'.ad S1.length = D ∧ S1.length < S'.length ∧ loopM gg ft fe (wipeD ρ ix) S1.length (it.items.drop (i + 1)) S' = some ((), S2))) u6 S6 w5 ⟨hlen5, by rw [hh5]⟩ (.cons r5 .nil) h6 fun wd6 v6 H6 w6 x6 r6 =>
        ⟨_, by omega, rfl, hlt, wd6, S6, w6, ((((x'.trans x2).trans x4).trans x5).trans x6), by rw [x6.ad _ hlen5]; exact hh5, Nat.lt_of_lt_of_le hlen5 x6.len, hl6⟩
      obtain ⟨l, xs, y0, e1, e2, e3, e4, e5⟩ := ap
      cases e1
      cases e2
      exact ⟨xs, e3, e4, e5⟩
    | false =>
      rw [if_neg Bool.false_ne_true] at hl3 ⊢
      exact ⟨_, by omega, rfl, hlt, wd4, S4, w4, (x'.trans x2).trans x4, hh4, hlen4, hl3⟩
  · have e : i = it.items.length := by omega
    subst e
    rw [List.drop_length] at hl
    cases hl
    obtain ⟨y1, y2, y3⟩ := un_ok x0 lk (hk ρ S it S1 h1) w' x'
    refine .inl ⟨jst, k _ (.ref D) H' y1 y2 ?_⟩
    rw [y3]
    exact ⟨hlen, by rw [hh]⟩
end
/-! canonical readings -/
def canE (K : PySem.W.Frag) (cl : Nat → Addr) (f : DEnv → M Val) : TE := fun σ H Q => ∃ wd ρ S d S', WR K cl wd S H ∧ ER K wd S.length H σ ρ ∧ f ρ S = some (d, S') ∧ ∀ wd' v H', WR K cl wd' S' H' → Ext wd S H wd' S' H' → RV K wd' S'.length H' v d → Q v H'
def canT (K : PySem.W.Frag) (cl : Nat → Addr) (f : DEnv → M Bool) : TT := fun σ H Q => ∃ wd ρ S d S', WR K cl wd S H ∧ ER K wd S.length H σ ρ ∧ f ρ S = some (d, S') ∧ ∀ wd' H', WR K cl wd' S' H' → Ext wd S H wd' S' H' → Q d H'
theorem DE.can {X : Cx} {cl : Nat → Addr} {e : Expr} {f : DEnv → M Val} (h : DE X cl e f) : PE X e (canE X.K cl f) := by
  obtain ⟨t, p, s⟩ := h
  refine ⟨fun pins st σ H Q I hc => ?_⟩
  obtain ⟨wd, ρ, S, d, S', w, r, hf, k⟩ := hc
  exact p.run pins st σ H Q I (s wd σ ρ S H Q d S' w r hf k)
theorem simE_can {K : PySem.W.Frag} {cl : Nat → Addr} {f : DEnv → M Val} : SimE K cl (canE K cl f) f := fun wd σ ρ S H Q d S' w q h k => ⟨wd, ρ, S, d, S', w, q, h, k⟩
theorem simT_can {K : PySem.W.Frag} {cl : Nat → Addr} {f : DEnv → M Bool} : SimT K cl (canT K cl f) f := fun wd σ ρ S H Q d S' w q h k => ⟨wd, ρ, S, d, S', w, q, h, k⟩
/-- a clause's tests -/
def DTs (X : Cx) (cl : Nat → Addr) (ifs : List Expr) (f : DEnv → M Bool) : Prop := PTs X ifs (canT X.K cl f)
theorem dts_nil {X : Cx} {cl : Nat → Addr} : DTs X cl [] tYesD := ⟨fun pins s σ H Q I h => by
  obtain ⟨wd, ρ, S, d, S', w, r, hf, k⟩ := h
  cases hf
  exact pts_nil.run pins s σ H Q I (k wd H w .refl)⟩
theorem dts_one {X : Cx} {cl : Nat → Addr} {c : Expr} {ft : DEnv → M Bool} (h : DT X cl c ft) : DTs X cl [c] ft := by
  obtain ⟨t, p, s⟩ := h
  refine ⟨fun pins st σ H Q I hc => ?_⟩
  obtain ⟨wd, ρ, S, d, S', w, r, hf, k⟩ := hc
  exact (pts_one p).run pins st σ H Q I (s wd σ ρ S H Q d S' w r hf k)
section
variable {X : Cx} {cl : Nat → Addr} {elt tg iter : Expr} {ifs : List Expr} {scope : Scope} {own : List (Str × Nat)} {pos : Pos} {fi : DEnv → M Iter} {gg : Val → DEnv → M DEnv} {ft : DEnv → M Bool} {fe : DEnv → M Val} {t : TG}
theorem de_lc (hc : X.calm = true) (hN : X.N.Nodup) (hi : DI X cl tg iter fi) (ok : BlkOk X.N X.env.scope scope own)
    (hg : ∀ (s : Shared) (H : Hp) (C : Addr) (c : List (Str × Addr)) (fp : List Addr), DC (X.blk s H scope (compEnvC scope c C X.env) fp) cl tg (own.map (·.2)) t gg) (ht : ∀ (s : Shared) (H : Hp) (C : Addr) (c : List (Str × Addr)) (fp : List Addr), DTs (X.blk s H scope (compEnvC scope c C X.env) fp) cl ifs ft)
    (he : ∀ (s : Shared) (H : Hp) (C : Addr) (c : List (Str × Addr)) (fp : List Addr), DE (X.blk s H scope (compEnvC scope c C X.env) fp) cl elt fe)
    (hk : ∀ ρ S it S', fi ρ S = some (it, S') → ∀ h o, it.lk = some (h, o) → (∃ xs, o = Ob.lst xs) ∨ ∃ xs, o = Ob.lsv xs) (hs : ∀ x, foldedSetIterable iter X.env x = pure x := by intro _; rfl) :
    DE X cl (.ListComp elt [⟨tg, iter, ifs, 0⟩] scope pos) (eLc fi gg ft fe (own.map (·.2))) := by
  obtain ⟨ti, pi, si⟩ := hi
  have sg := (hg X.s_0 X.H_0 0 [] []).2
  exact ⟨_, pe_lc (tt := canT X.K cl ft) (te := canE X.K cl fe) hc hN pi ok (fun s H C c fp => (hg s H C c fp).1) (fun s H C c fp => ht s H C c fp) (fun s H C c fp => (he s H C c fp).can) hs, sim_lc si sg simT_can simE_can hk⟩
theorem de_lcM (hc : X.calm = true) (hN : X.N.Nodup) (hi : DI X cl tg iter fi) (ok : BlkOk X.N X.env.scope scope own)
    (hg : ∀ (s : Shared) (H : Hp) (C : Addr) (c : List (Str × Addr)) (fp : List Addr), DC (X.blk s H scope (compEnvC scope c C X.env) fp) cl tg (own.map (·.2)) t gg) (ht : ∀ (s : Shared) (H : Hp) (C : Addr) (c : List (Str × Addr)) (fp : List Addr), DTs (X.blk s H scope (compEnvC scope c C X.env) fp) cl ifs ft)
    (he : ∀ (s : Shared) (H : Hp) (C : Addr) (c : List (Str × Addr)) (fp : List Addr), DE (X.blk s H scope (compEnvC scope c C X.env) fp) cl elt fe)
    (hk : ∀ ρ S it S', fi ρ S = some (it, S') → ∀ h o, it.lk = some (h, o) → (∃ xs, o = Ob.lst xs) ∨ ∃ xs, o = Ob.lsv xs) (hs : ∀ x, foldedSetIterable iter X.env x = pure x := by intro _; rfl) :
    DE X cl (.ListComp elt [⟨tg, iter, ifs, 0⟩] scope pos) (eLcM fi gg ft fe (own.map (·.2))) := by
  obtain ⟨ti, pi, si⟩ := hi
  have sg := (hg X.s_0 X.H_0 0 [] []).2
  exact ⟨_, pe_lc (tt := canT X.K cl ft) (te := canE X.K cl fe) hc hN pi ok (fun s H C c fp => (hg s H C c fp).1) (fun s H C c fp => ht s H C c fp) (fun s H C c fp => (he s H C c fp).can) hs, sim_lcM (V0 := false) si sg simT_can simE_can hk⟩
theorem de_lcV (hc : X.calm = true) (hN : X.N.Nodup) (hi : DI X cl tg iter fi) (ok : BlkOk X.N X.env.scope scope own)
    (hg : ∀ (s : Shared) (H : Hp) (C : Addr) (c : List (Str × Addr)) (fp : List Addr), DC (X.blk s H scope (compEnvC scope c C X.env) fp) cl tg (own.map (·.2)) t gg) (ht : ∀ (s : Shared) (H : Hp) (C : Addr) (c : List (Str × Addr)) (fp : List Addr), DTs (X.blk s H scope (compEnvC scope c C X.env) fp) cl ifs ft)
    (he : ∀ (s : Shared) (H : Hp) (C : Addr) (c : List (Str × Addr)) (fp : List Addr), DE (X.blk s H scope (compEnvC scope c C X.env) fp) cl elt fe)
    (hk : ∀ ρ S it S', fi ρ S = some (it, S') → ∀ h o, it.lk = some (h, o) → (∃ xs, o = Ob.lst xs) ∨ ∃ xs, o = Ob.lsv xs) (hs : ∀ x, foldedSetIterable iter X.env x = pure x := by intro _; rfl) :
    DE X cl (.ListComp elt [⟨tg, iter, ifs, 0⟩] scope pos) (eLcV fi gg ft fe (own.map (·.2))) := by
  obtain ⟨ti, pi, si⟩ := hi
  have sg := (hg X.s_0 X.H_0 0 [] []).2
  exact ⟨_, pe_lc (tt := canT X.K cl ft) (te := canE X.K cl fe) hc hN pi ok (fun s H C c fp => (hg s H C c fp).1) (fun s H C c fp => ht s H C c fp) (fun s H C c fp => (he s H C c fp).can) hs, sim_lcM (V0 := true) si sg simT_can simE_can hk⟩
theorem ds_setLc {i : Nat} {y : Str} {py spos : Pos} (hc : X.calm = true) (hN : X.N.Nodup) (hy : X.N[i]? = some y) (hyl : X.env.scope.names.lookup y = some .local)
    (hsw : swapsWith (.ListComp elt [⟨tg, iter, ifs, 0⟩] scope pos) (some (.Name y py)) spos.line X.env = pure true) (hi : DI X cl tg iter fi) (ok : BlkOk X.N X.env.scope scope own)
    (hg : ∀ (s : Shared) (H : Hp) (C : Addr) (c : List (Str × Addr)) (fp : List Addr), DC (X.blk s H scope (compEnvC scope c C X.env) fp) cl tg (own.map (·.2)) t gg) (ht : ∀ (s : Shared) (H : Hp) (C : Addr) (c : List (Str × Addr)) (fp : List Addr), DTs (X.blk s H scope (compEnvC scope c C X.env) fp) cl ifs ft)
    (he : ∀ (s : Shared) (H : Hp) (C : Addr) (c : List (Str × Addr)) (fp : List Addr), DE (X.blk s H scope (compEnvC scope c C X.env) fp) cl elt fe)
    (hk : ∀ ρ S it S', fi ρ S = some (it, S') → ∀ h o, it.lk = some (h, o) → (∃ xs, o = Ob.lst xs) ∨ ∃ xs, o = Ob.lsv xs) (hs : ∀ x, foldedSetIterable iter X.env x = pure x := by intro _; rfl) :
    DS X cl (.Assign [.Name y py] (.ListComp elt [⟨tg, iter, ifs, 0⟩] scope pos) spos) (gAsg (eLc fi gg ft fe (own.map (·.2))) (nName i)) := by
  obtain ⟨ti, pi, si⟩ := hi
  have sg := (hg X.s_0 X.H_0 0 [] []).2
  refine ⟨_, ps_setLc (tt := canT X.K cl ft) (te := canE X.K cl fe) hc hN hy hyl hsw pi ok (fun s H C c fp => (hg s H C c fp).1) (fun s H C c fp => ht s H C c fp) (fun s H C c fp => (he s H C c fp).can) hs, fun wd σ ρ S H D fl S' w q h k => ?_⟩
  obtain ⟨x, S1, h1, h⟩ := bindR_inv h
  obtain ⟨y, S2, h2, h⟩ := bindR_inv h
  cases h2
  cases h
  exact (sim_lc si sg simT_can simE_can hk) wd σ ρ S H _ x _ w q h1 fun wd1 v1 H1 w1 x1 r1 => k wd1 _ H1 w1 x1 ((q.ext x1).set i r1)
theorem ds_setLcM {i : Nat} {y : Str} {py spos : Pos} (hc : X.calm = true) (hN : X.N.Nodup) (hy : X.N[i]? = some y) (hyl : X.env.scope.names.lookup y = some .local)
    (hsw : swapsWith (.ListComp elt [⟨tg, iter, ifs, 0⟩] scope pos) (some (.Name y py)) spos.line X.env = pure true) (hi : DI X cl tg iter fi) (ok : BlkOk X.N X.env.scope scope own)
    (hg : ∀ (s : Shared) (H : Hp) (C : Addr) (c : List (Str × Addr)) (fp : List Addr), DC (X.blk s H scope (compEnvC scope c C X.env) fp) cl tg (own.map (·.2)) t gg) (ht : ∀ (s : Shared) (H : Hp) (C : Addr) (c : List (Str × Addr)) (fp : List Addr), DTs (X.blk s H scope (compEnvC scope c C X.env) fp) cl ifs ft)
    (he : ∀ (s : Shared) (H : Hp) (C : Addr) (c : List (Str × Addr)) (fp : List Addr), DE (X.blk s H scope (compEnvC scope c C X.env) fp) cl elt fe)
    (hk : ∀ ρ S it S', fi ρ S = some (it, S') → ∀ h o, it.lk = some (h, o) → (∃ xs, o = Ob.lst xs) ∨ ∃ xs, o = Ob.lsv xs) (hs : ∀ x, foldedSetIterable iter X.env x = pure x := by intro _; rfl) :
    DS X cl (.Assign [.Name y py] (.ListComp elt [⟨tg, iter, ifs, 0⟩] scope pos) spos) (gAsg (eLcM fi gg ft fe (own.map (·.2))) (nName i)) := by
  obtain ⟨ti, pi, si⟩ := hi
  have sg := (hg X.s_0 X.H_0 0 [] []).2
  refine ⟨_, ps_setLc (tt := canT X.K cl ft) (te := canE X.K cl fe) hc hN hy hyl hsw pi ok (fun s H C c fp => (hg s H C c fp).1) (fun s H C c fp => ht s H C c fp) (fun s H C c fp => (he s H C c fp).can) hs, fun wd σ ρ S H D fl S' w q h k => ?_⟩
  obtain ⟨x, S1, h1, h⟩ := bindR_inv h
  obtain ⟨y, S2, h2, h⟩ := bindR_inv h
  cases h2
  cases h
  exact (sim_lcM (V0 := false) si sg simT_can simE_can hk) wd σ ρ S H _ x _ w q h1 fun wd1 v1 H1 w1 x1 r1 => k wd1 _ H1 w1 x1 ((q.ext x1).set i r1)
theorem ds_setLcV {i : Nat} {y : Str} {py spos : Pos} (hc : X.calm = true) (hN : X.N.Nodup) (hy : X.N[i]? = some y) (hyl : X.env.scope.names.lookup y = some .local)
    (hsw : swapsWith (.ListComp elt [⟨tg, iter, ifs, 0⟩] scope pos) (some (.Name y py)) spos.line X.env = pure true) (hi : DI X cl tg iter fi) (ok : BlkOk X.N X.env.scope scope own)
    (hg : ∀ (s : Shared) (H : Hp) (C : Addr) (c : List (Str × Addr)) (fp : List Addr), DC (X.blk s H scope (compEnvC scope c C X.env) fp) cl tg (own.map (·.2)) t gg) (ht : ∀ (s : Shared) (H : Hp) (C : Addr) (c : List (Str × Addr)) (fp : List Addr), DTs (X.blk s H scope (compEnvC scope c C X.env) fp) cl ifs ft)
    (he : ∀ (s : Shared) (H : Hp) (C : Addr) (c : List (Str × Addr)) (fp : List Addr), DE (X.blk s H scope (compEnvC scope c C X.env) fp) cl elt fe)
    (hk : ∀ ρ S it S', fi ρ S = some (it, S') → ∀ h o, it.lk = some (h, o) → (∃ xs, o = Ob.lst xs) ∨ ∃ xs, o = Ob.lsv xs) (hs : ∀ x, foldedSetIterable iter X.env x = pure x := by intro _; rfl) :
    DS X cl (.Assign [.Name y py] (.ListComp elt [⟨tg, iter, ifs, 0⟩] scope pos) spos) (gAsg (eLcV fi gg ft fe (own.map (·.2))) (nName i)) := by
  obtain ⟨ti, pi, si⟩ := hi
  have sg := (hg X.s_0 X.H_0 0 [] []).2
  refine ⟨_, ps_setLc (tt := canT X.K cl ft) (te := canE X.K cl fe) hc hN hy hyl hsw pi ok (fun s H C c fp => (hg s H C c fp).1) (fun s H C c fp => ht s H C c fp) (fun s H C c fp => (he s H C c fp).can) hs, fun wd σ ρ S H D fl S' w q h k => ?_⟩
  obtain ⟨x, S1, h1, h⟩ := bindR_inv h
  obtain ⟨y, S2, h2, h⟩ := bindR_inv h
  cases h2
  cases h
  exact (sim_lcM (V0 := true) si sg simT_can simE_can hk) wd σ ρ S H _ x _ w q h1 fun wd1 v1 H1 w1 x1 r1 => k wd1 _ H1 w1 x1 ((q.ext x1).set i r1)
end
end DM
set_option Elab.async false
set_option linter.all false
set_option maxRecDepth 100000
/-! DMLib: the combinators' equations, for simp -/
namespace DM
open PySem L2 PyProof.Rows
section
variable {ρ : DEnv} {S : Store}
@[simp] theorem eVar_z {d : Val} {r : DEnv} : eVar 0 (some d :: r) S = some (d, S) := rfl
@[simp] theorem eVar_s {n : Nat} {o : Option Val} {r : DEnv} : eVar (n + 1) (o :: r) S = eVar n r S := by simp [eVar]
@[simp] theorem eC_e {d : PyData} : eC d ρ S = some (.pd d, S) := rfl
@[simp] theorem eU_e {u : Val → M Val} {fa : DEnv → M Val} : eU u fa ρ S = bindR (fa ρ S) fun a S1 => u a S1 := rfl
@[simp] theorem eO_e {u : Val → Val → M Val} {fa fb : DEnv → M Val} : eO u fa fb ρ S = bindR (fa ρ S) fun a S1 => bindR (fb ρ S1) fun b S2 => u a b S2 := rfl
@[simp] theorem aNil_e : aNil ρ S = some ([], S) := rfl
@[simp] theorem aCons_e {fa : DEnv → M Val} {fr : DEnv → M (List Val)} : aCons fa fr ρ S = bindR (fa ρ S) fun a S1 => bindR (fr ρ S1) fun r S2 => some (a :: r, S2) := rfl
@[simp] theorem eA_e {u : List Val → M Val} {fa : DEnv → M (List Val)} : eA u fa ρ S = bindR (fa ρ S) fun a S1 => u a S1 := rfl
/-- the value of a test -/
def toB (a : Val) : M Bool := fun S => match a with
  | .pd (.bool b) => some (b, S)
  | _ => none
@[simp] theorem toB_e {b : Bool} : toB (.pd (.bool b)) S = some (b, S) := rfl
@[simp] theorem tVal_e {fa : DEnv → M Val} : tVal fa ρ S = bindR (fa ρ S) fun a S1 => toB a S1 := rfl
@[simp] theorem tAnd_e {fa fb : DEnv → M Bool} : DM.tAnd fa fb ρ S = bindR (fa ρ S) fun a S1 => if a = true then fb ρ S1 else some (false, S1) := rfl
@[simp] theorem tOr_e {fa fb : DEnv → M Bool} : DM.tOr fa fb ρ S = bindR (fa ρ S) fun a S1 => if a = true then some (true, S1) else fb ρ S1 := rfl
@[simp] theorem tNot_e {fa : DEnv → M Bool} : DM.tNot fa ρ S = bindR (fa ρ S) fun a S1 => some (!a, S1) := rfl
@[simp] theorem eAnd_e {fa fb : DEnv → M Val} : eAnd fa fb ρ S = bindR (fa ρ S) fun a S1 => bindR (toB a S1) fun b S2 => if b = true then fb ρ S2 else some (.pd (.bool false), S2) := by
  unfold eAnd
  congr 1
  funext a S1
  cases a with
  | obj _ => rfl
  | pd d => cases d with
    | bool b => cases b <;> rfl
    | _ => rfl
@[simp] theorem eOr_e {fa fb : DEnv → M Val} : eOr fa fb ρ S = bindR (fa ρ S) fun a S1 => bindR (toB a S1) fun b S2 => if b = true then some (.pd (.bool true), S2) else fb ρ S2 := by
  unfold eOr
  congr 1
  funext a S1
  cases a with
  | obj _ => rfl
  | pd d => cases d with
    | bool b => cases b <;> rfl
    | _ => rfl
@[simp] theorem eNot_e {fa : DEnv → M Val} : eNot fa ρ S = bindR (fa ρ S) fun a S1 => bindR (toB a S1) fun b S2 => some (.pd (.bool (!b)), S2) := by
  unfold eNot
  congr 1
  funext a S1
  cases a with
  | obj _ => rfl
  | pd d => cases d <;> rfl
@[simp] theorem eIf_e {c : DEnv → M Bool} {fa fb : DEnv → M Val} : eIf c fa fb ρ S = bindR (c ρ S) fun b S1 => if b = true then fa ρ S1 else fb ρ S1 := rfl
@[simp] theorem eChain_e {u u' : Val → Val → M Val} {fa fb fc : DEnv → M Val} : eChain u u' fa fb fc ρ S = bindR (fa ρ S) fun a S1 => bindR (fb ρ S1) fun b S2 => bindR (u a b S2) fun z S3 => bindR (toB z S3) fun t S4 => if t = true then bindR (fc ρ S4) fun c S5 => u' b c S5 else some (.pd (.bool false), S4) := by
  unfold eChain
  congr 1
  funext a S1
  congr 1
  funext b S2
  congr 1
  funext z S3
  cases z with
  | obj _ => rfl
  | pd d => cases d with
    | bool b => cases b <;> rfl
    | _ => rfl
/-- what stands behind a statement -/
def seqR (r : Option (Fl × Store)) (k : DEnv → M Fl) : Option (Fl × Store) := match r with
  | none => none
  | some (.nx ρ', S') => k ρ' S'
  | some (.rt d, S') => some (.rt d, S')
  | some (.bk ρ', S') => some (.bk ρ', S')
  | some (.ct ρ', S') => some (.ct ρ', S')
@[simp] theorem seqR_nx {k : DEnv → M Fl} : seqR (some (.nx ρ, S)) k = k ρ S := rfl
@[simp] theorem seqR_rt {d : Val} {k : DEnv → M Fl} : seqR (some (.rt d, S)) k = some (.rt d, S) := rfl
@[simp] theorem seqR_bk {k : DEnv → M Fl} : seqR (some (.bk ρ, S)) k = some (.bk ρ, S) := rfl
@[simp] theorem seqR_ct {k : DEnv → M Fl} : seqR (some (.ct ρ, S)) k = some (.ct ρ, S) := rfl
@[simp] theorem gSeq_e {g1 g2 : DEnv → M Fl} : gSeq g1 g2 ρ S = seqR (g1 ρ S) g2 := rfl
@[simp] theorem gNext_e : gNext ρ S = some (.nx ρ, S) := rfl
@[simp] theorem gAsg_e {fe : DEnv → M Val} {gg : Val → DEnv → M DEnv} : gAsg fe gg ρ S = bindR (fe ρ S) fun d S1 => bindR (gg d ρ S1) fun ρ' S2 => some (.nx ρ', S2) := rfl
@[simp] theorem gRet_e {fe : DEnv → M Val} : gRet fe ρ S = bindR (fe ρ S) fun d S1 => some (.rt d, S1) := rfl
@[simp] theorem gRetN_e : gRetN ρ S = some (.rt (.pd .none), S) := rfl
@[simp] theorem gIf_e {c : DEnv → M Bool} {g1 g2 : DEnv → M Fl} : gIf c g1 g2 ρ S = bindR (c ρ S) fun b S1 => if b = true then g1 ρ S1 else g2 ρ S1 := rfl
@[simp] theorem gExpr_e {fe : DEnv → M Val} : gExpr fe ρ S = bindR (fe ρ S) fun _ S1 => some (.nx ρ, S1) := rfl
@[simp] theorem gBreak_e : gBreak ρ S = some (.bk ρ, S) := rfl
@[simp] theorem gCont_e : gCont ρ S = some (.ct ρ, S) := rfl
@[simp] theorem nName_e {i : Nat} {d : Val} : nName i d ρ S = some (ρ.set i (some d), S) := rfl
@[simp] theorem nsNil_e : nsNil [] ρ S = some (ρ, S) := rfl
@[simp] theorem nsCons_e {g : Val → DEnv → M DEnv} {gs : List Val → DEnv → M DEnv} {d : Val} {r : List Val} : nsCons g gs (d :: r) ρ S = bindR (g d ρ S) fun ρ1 S1 => gs r ρ1 S1 := rfl
@[simp] theorem nTup_e {n : Nat} {gs : List Val → DEnv → M DEnv} {ds : List PyData} : nTup n gs (.pd (.tuple ds)) ρ S = if ds.length = n then gs (ds.map Val.pd) ρ S else none := rfl
@[simp] theorem nSub_e {u : Val → Val → Val → M Unit} {fo fi : DEnv → M Val} {d : Val} : nSub u fo fi d ρ S = bindR (fo ρ S) fun o S1 => bindR (fi ρ S1) fun i S2 => bindR (u o i d S2) fun _ S3 => some (ρ, S3) := rfl
@[simp] theorem eCall_e {F : List Val → M Val} {n : Nat} {fa : DEnv → M (List Val)} : eCall F n fa ρ S = bindR (fa ρ S) fun ds S1 => if ds.length = n then F ds S1 else none := rfl
@[simp] theorem eBM_e {T : String} {u : Val → List Val → M Val} {fo : DEnv → M Val} {fa : DEnv → M (List Val)} : eBM T u fo fa ρ S = bindR (fo ρ S) fun o S1 => if isTy T o S1 = true then bindR (fa ρ S1) fun ds S2 => u o ds S2 else none := rfl
/-- a call's end -/
def endR (r : Option (Fl × Store)) (ex : Val → M Val) : Option (Val × Store) := match r with
  | some (.nx _, S') => ex (.pd .none) S'
  | some (.rt d, S') => ex d S'
  | _ => none
@[simp] theorem endR_nx {ex : Val → M Val} : endR (some (.nx ρ, S)) ex = ex (.pd .none) S := rfl
@[simp] theorem endR_rt {ex : Val → M Val} {d : Val} : endR (some (.rt d, S)) ex = ex d S := rfl
theorem fnF_e {n : Nat} {g : DEnv → M Fl} {ex : Nat → Val → M Val} {ds : List Val} : fnF n g ex ds S = endR (g (startD n ds) S) (ex S.length) := by
  unfold fnF endR
  split <;> simp_all
/-! operations -/
variable {i j : Int}
@[simp] theorem uAdd_int : uAdd (.pd (.int i)) (.pd (.int j)) S = some (.pd (.int (i + j)), S) := rfl
@[simp] theorem uSub_int : uSub (.pd (.int i)) (.pd (.int j)) S = some (.pd (.int (i - j)), S) := rfl
@[simp] theorem uMul_int : uMul (.pd (.int i)) (.pd (.int j)) S = if CMul i j ∨ CMulW i j then some (.pd (.int (i * j)), S) else none := rfl
@[simp] theorem uMod_int : uMod (.pd (.int i)) (.pd (.int j)) S = if 0 < j then some (.pd (.int (i % j)), S) else none := rfl
@[simp] theorem uDiv_int : uDiv (.pd (.int i)) (.pd (.int j)) S = if 0 < j ∧ (j < 1073741824 ∨ j.natAbs.log2 < 9000) then some (.pd (.int (i / j)), S) else none := rfl
@[simp] theorem uLt_int {p : Int → Int → Bool} : uLt p (.pd (.int i)) (.pd (.int j)) S = some (.pd (.bool (p i j)), S) := rfl
@[simp] theorem uNeg_int : uNeg (.pd (.int i)) S = some (.pd (.int (-i)), S) := rfl
@[simp] theorem uInt_int : uInt [.pd (.int i)] S = some (.pd (.int i), S) := rfl
@[simp] theorem uInt_bool {b : Bool} : uInt [.pd (.bool b)] S = some (.pd (.int (if b then 1 else 0)), S) := rfl
@[simp] theorem shaped_int : SeqAt.shaped (.int i) = true := by
  unfold SeqAt.shaped
  simp [PyData.canLay0, PyData.depth]
@[simp] theorem shaped_bool {b : Bool} : SeqAt.shaped (.bool b) = true := by
  unfold SeqAt.shaped
  simp [PyData.canLay0, PyData.depth]
@[simp] theorem shaped_none : SeqAt.shaped .none = true := by
  unfold SeqAt.shaped
  simp [PyData.canLay0, PyData.depth]
theorem beqI : (i == j) = decide (i = j) := by
  by_cases h : i = j <;> simp [h]
@[simp] theorem uEq_int : uEq (.pd (.int i)) (.pd (.int j)) S = some (.pd (.bool (decide (i = j))), S) := by
  simp [uEq, toD, PyData.eqv, beqI]
@[simp] theorem uNe_int : uNe (.pd (.int i)) (.pd (.int j)) S = some (.pd (.bool (!decide (i = j))), S) := by
  simp [uNe, toD, PyData.eqv, beqI]
@[simp] theorem uEq_bool {a b : Bool} : uEq (.pd (.bool a)) (.pd (.bool b)) S = some (.pd (.bool (a == b)), S) := by
  simp [uEq, toD, PyData.eqv]
@[simp] theorem uNe_bool {a b : Bool} : uNe (.pd (.bool a)) (.pd (.bool b)) S = some (.pd (.bool (!(a == b))), S) := by
  simp [uNe, toD, PyData.eqv]
@[simp] theorem uIs_none {a : Val} : uIs a (.pd .none) S = some (.pd (.bool (isNon a)), S) := rfl
@[simp] theorem uIsNot_none {a : Val} : uIsNot a (.pd .none) S = some (.pd (.bool (!isNon a)), S) := rfl
@[simp] theorem isNon_none : isNon (.pd .none) = true := rfl
@[simp] theorem isNon_int : isNon (.pd (.int i)) = false := rfl
@[simp] theorem isNon_obj {h : Nat} : isNon (.obj h) = false := rfl
@[simp] theorem uPow_int : uPow (.pd (.int i)) (.pd (.int j)) S = if CPow i j then some (.pd (.int (i ^ j.toNat)), S) else none := rfl
@[simp] theorem uTup_e {ds : List PyData} (h : ds.length ≤ 16777216) : uTup (ds.map Val.pd) S = some (.pd (.tuple ds), S) := by
  simp [uTup, h]
@[simp] theorem allPd_nil : allPd [] = some [] := rfl
@[simp] theorem allPd_cons {d : PyData} {r : List Val} : allPd (.pd d :: r) = (allPd r).map (d :: ·) := rfl
/-- items -/
theorem uIx_list {xs : List PyData} : uIx (.pd (.list xs)) (.pd (.int i)) S = (atI xs i).map fun d => (.pd d, S) := by
  simp only [uIx, getV, Option.bind_some, atI_map]
  cases atI xs i <;> rfl
theorem uIx_tup {xs : List PyData} : uIx (.pd (.tuple xs)) (.pd (.int i)) S = (atI xs i).map fun d => (.pd d, S) := rfl
theorem uIx_obj {h : Nat} {xs : List PyData} (e : S[h]? = some (.lst xs)) : uIx (.obj h) (.pd (.int i)) S = (atI xs i).map fun d => (.pd d, S) := by
  simp only [uIx, getV, e, Option.bind_some, atI_map]
  cases atI xs i <;> rfl
/-! the newest object -/
theorem get_app {S0 : Store} {n : Nat} {o : Ob} (hn : S0.length = n) : (S0 ++ [o])[n]? = some o := by
  subst hn
  simp
theorem set_app {S0 : Store} {n : Nat} {o o' : Ob} (hn : S0.length = n) : (S0 ++ [o]).set n o' = S0 ++ [o'] := by
  subst hn
  simp
@[simp] theorem isTy_app {S0 : Store} {n : Nat} {xs : List PyData} (hn : S0.length = n) : isTy "list" (.obj n) (S0 ++ [.lst xs]) = true := by
  simp [isTy, get_app hn]
@[simp] theorem uAppend_app {S0 : Store} {n : Nat} {xs : List PyData} {d : PyData} (hn : S0.length = n) : uAppend (.obj n) [.pd d] (S0 ++ [.lst xs]) = if xs.length < 16777216 then some (.pd .none, S0 ++ [.lst (xs ++ [d])]) else none := by
  simp [uAppend, get_app hn, set_app hn]
@[simp] theorem uIx_app {S0 : Store} {n : Nat} {xs : List PyData} (hn : S0.length = n) : uIx (.obj n) (.pd (.int i)) (S0 ++ [.lst xs]) = (atI xs i).map fun d => (.pd d, S0 ++ [.lst xs]) := by
  have e := get_app (o := .lst xs) hn
  simp only [uIx, getV, e, Option.bind_some, atI_map]
  cases atI xs i <;> rfl
theorem uIx_set {h : Nat} {xs : List PyData} (hh : h < S.length) : uIx (.obj h) (.pd (.int i)) (S.set h (.lst xs)) = (atI xs i).map fun d => (.pd d, S.set h (.lst xs)) := uIx_obj (List.getElem?_set_self hh)
theorem atI_in {α : Type} {xs : List α} {n : Nat} (h : n < xs.length) : atI xs (n : Int) = xs[n]? := by
  unfold atI ixN
  rw [if_pos (by omega), if_pos (by omega)]
  simp
theorem atI_pos {α : Type} {xs : List α} (h0 : 0 ≤ i) (h : i < xs.length) : atI xs i = xs[i.toNat]? := by
  unfold atI ixN
  rw [if_pos h0, if_pos h]
  simp
theorem getD_lt {α : Type} {xs : List α} {n : Nat} {d : α} (h : n < xs.length) : xs.getD n d = xs[n] := by
  simp [List.getD, h]
/-- an item of a mapped list -/
theorem atI_mapD {α β : Type} {f : α → β} {xs : List α} {d : α} (h0 : 0 ≤ i) (h : i < xs.length) : atI (xs.map f) i = some (f (xs.getD i.toNat d)) := by
  have hl : i.toNat < xs.length := by omega
  rw [atI_pos h0 (by simpa using h), getD_lt hl]
  simp [hl]
theorem ixN_pos {n : Nat} (h0 : 0 ≤ i) (h : i < n) : ixN n i = some i.toNat := by
  unfold ixN
  rw [if_pos h0, if_pos h]
theorem uSet_obj {h : Nat} {xs : List PyData} {d : PyData} (e : S[h]? = some (.lst xs)) (h0 : 0 ≤ i) (h1 : i < xs.length) : uSet (.obj h) (.pd (.int i)) (.pd d) S = some ((), S.set h (.lst (xs.set i.toNat d))) := by
  unfold uSet
  simp [e, ixN_pos h0 h1]
/-- an item of some, at an open place -/
theorem uIx_some {xs : List PyData} (h0 : 0 ≤ i) (h : i < xs.length) : ∃ d, d ∈ xs ∧ uIx (.pd (.list xs)) (.pd (.int i)) S = some (.pd d, S) := by
  have hl : i.toNat < xs.length := by omega
  refine ⟨xs[i.toNat], List.getElem_mem _, ?_⟩
  rw [uIx_list, atI_pos h0 h]
  simp [hl]
theorem exitF_same {n : Nat} {d : Val} (h : S.length = n) : exitF n d S = some (d, S) := by
  unfold exitF
  rw [if_pos h]
/-- the store's objects speak of one another alone -/
def Wf (S : Store) : Prop := ∀ o ∈ S, Ob.blw S.length o = true
theorem Wf.set {S : Store} (w : Wf S) {h : Nat} {o : Ob} (ho : o.blw S.length = true) : Wf (S.set h o) := by
  intro u hu
  rw [List.length_set]
  rcases List.mem_or_eq_of_mem_set hu with z | rfl
  · exact w u z
  · exact ho
theorem Val.blw_mono {n m : Nat} (h : n ≤ m) : ∀ {d : Val}, d.blw n = true → d.blw m = true
  | .pd _, _ => rfl
  | .obj i, q => by
    simp [Val.blw] at q ⊢
    omega
theorem Ob.blw_mono {n m : Nat} (h : n ≤ m) {o : Ob} (q : o.blw n = true) : o.blw m = true := by
  have vs : ∀ xs : List Val, xs.all (Val.blw n) = true → xs.all (Val.blw m) = true := fun xs q => by
    rw [List.all_eq_true] at q ⊢
    exact fun x hx => Val.blw_mono h (q x hx)
  have kv : ∀ {κ : Type} (xs : List (κ × Val)), (xs.all fun p => p.2.blw n) = true → (xs.all fun p => p.2.blw m) = true := fun xs q => by
    rw [List.all_eq_true] at q ⊢
    exact fun x hx => Val.blw_mono h (q x hx)
  cases o with
  | lsv xs => exact vs xs q
  | dV xs => exact kv xs q
  | ins c fs => exact kv fs q
  | lock u =>
    cases u with
    | lsv xs => exact vs xs q
    | _ => rfl
  | _ => rfl
theorem Wf.app {S : Store} (w : Wf S) {o : Ob} (ho : o.blw (S.length + 1) = true) : Wf (S ++ [o]) := by
  intro u hu
  rw [List.length_append]
  rcases List.mem_append.mp hu with z | z
  · exact Ob.blw_mono (by simp) (w u z)
  · simp at z
    subst z
    exact ho
theorem exitF_app {S S1 : Store} {d : PyData} (h : Wf S) : exitF S.length (.pd d) (S ++ S1) = some (.pd d, S) := by
  unfold exitF
  by_cases h1 : S1 = []
  · subst h1
    simp
  · rw [if_neg (by cases S1 with
      | nil => exact absurd rfl h1
      | cons a r => simp), if_pos ⟨by
        simp only [List.take_left]
        exact List.all_eq_true.mpr h, by simp⟩]
    simp
theorem exitF_app' {S0 : Store} {n : Nat} {o : Ob} {d : PyData} (w : Wf S0) (hn : S0.length = n) : exitF n (.pd d) (S0 ++ [o]) = some (.pd d, S0) := by
  subst hn
  exact exitF_app w
theorem exitN_app {S : Store} {o : Ob} (h : Wf S) (ho : o.blw S.length = true) (hl : ∀ u, o ≠ .lock u) : exitN S.length (.obj S.length) (S ++ [o]) = some (.obj S.length, S ++ [o]) := by
  unfold exitN
  rw [if_pos ⟨by
    simp only [List.take_left]
    exact List.all_eq_true.mpr h, by simp⟩]
  simp [ho, hl]
end
theorem log2_lt {m : Int} (h : 0 < m ∧ m < 1073741824 * 4) : m.natAbs.log2 < 9000 := by
  have h1 : m.natAbs < 2 ^ 32 := by omega
  have h2 : m.natAbs ≠ 0 := by omega
  exact Nat.lt_trans ((Nat.log2_lt h2).mpr h1) (by omega)
/-! loops -/
section
variable {gg : Val → DEnv → M DEnv} {gb : DEnv → M Fl}
/-- one turn of a loop -/
def turnG (gg : Val → DEnv → M DEnv) (gb : DEnv → M Fl) (d : Val) : DEnv → M Fl := fun ρ S => bindR (gg d ρ S) fun ρ1 S1 => gb ρ1 S1
@[simp] theorem loopG_nil {ρ : DEnv} {S : Store} : loopG gg gb [] ρ S = some (.nx ρ, S) := rfl
theorem loopG_cons {d : Val} {ds : List Val} {ρ : DEnv} {S : Store} : loopG gg gb (d :: ds) ρ S = match turnG gg gb d ρ S with
    | none => none
    | some (.nx ρ2, S2) => loopG gg gb ds ρ2 S2
    | some (.ct ρ2, S2) => loopG gg gb ds ρ2 S2
    | some (.bk ρ2, S2) => some (.nx ρ2, S2)
    | some (.rt d, S2) => some (.rt d, S2) := by
  show (bindR (gg d ρ S) _ : Option (Fl × Store)) = _
  unfold turnG
  cases gg d ρ S with
  | none => rfl
  | some p => rfl
/-- a loop that goes through, by what holds between its turns -/
theorem loopG_inv {I : List Val → DEnv → Store → Prop} : ∀ (ds : List Val) (ρ : DEnv) (S : Store), I ds ρ S → (∀ d r ρ S, I (d :: r) ρ S → ∃ ρ' S', turnG gg gb d ρ S = some (.nx ρ', S') ∧ I r ρ' S') → ∃ ρ' S', loopG gg gb ds ρ S = some (.nx ρ', S') ∧ I [] ρ' S'
  | [], ρ, S, h, _ => ⟨ρ, S, rfl, h⟩
  | d :: r, ρ, S, h, t => by
    obtain ⟨ρ1, S1, e1, h1⟩ := t d r ρ S h
    obtain ⟨ρ2, S2, e2, h2⟩ := loopG_inv r ρ1 S1 h1 t
    exact ⟨ρ2, S2, by rw [loopG_cons, e1]; exact e2, h2⟩
@[simp] theorem gFor_e {fi : DEnv → M Iter} {ρ : DEnv} {S : Store} : gFor fi gg gb ρ S = bindR (fi ρ S) fun it S1 => bindR (loopG gg gb it.items ρ S1) fun fl S2 => some (fl, it.un S2) := rfl
def rng1 (d : Val) : M Iter := fun S => match d with
  | .pd (.int j) => if -(2 ^ 62) ≤ j ∧ j < 2 ^ 62 then some (⟨rgI 0 j.toNat, none⟩, S) else none
  | _ => none
@[simp] theorem rng1_int {j : Int} {S : Store} : rng1 (.pd (.int j)) S = if -(2 ^ 62) ≤ j ∧ j < 2 ^ 62 then some (⟨rgI 0 j.toNat, none⟩, S) else none := rfl
@[simp] theorem iRng1_e {f : DEnv → M Val} {ρ : DEnv} {S : Store} : DM.iRng1 f ρ S = bindR (f ρ S) fun d S1 => rng1 d S1 := rfl
def rng2 (d e : Val) : M Iter := fun S => match d, e with
  | .pd (.int i), .pd (.int j) => if -(2 ^ 62) ≤ i ∧ i < 2 ^ 62 ∧ -(2 ^ 62) ≤ j ∧ j < 2 ^ 62 then some (⟨rgI i (j - i).toNat, none⟩, S) else none
  | _, _ => none
@[simp] theorem rng2_int {i j : Int} {S : Store} : rng2 (.pd (.int i)) (.pd (.int j)) S = if -(2 ^ 62) ≤ i ∧ i < 2 ^ 62 ∧ -(2 ^ 62) ≤ j ∧ j < 2 ^ 62 then some (⟨rgI i (j - i).toNat, none⟩, S) else none := rfl
@[simp] theorem iRng2_e {f g : DEnv → M Val} {ρ : DEnv} {S : Store} : DM.iRng2 f g ρ S = bindR (f ρ S) fun d S1 => bindR (g ρ S1) fun e S2 => rng2 d e S2 := rfl
def seqI (d : Val) : M Iter := fun S => match d with
  | .pd (.list xs) => some (⟨xs.map Val.pd, none⟩, S)
  | .pd (.tuple xs) => some (⟨xs.map Val.pd, none⟩, S)
  | .obj h => match S[h]? with
    | some (.lst xs) => some (⟨xs.map Val.pd, some (h, .lst xs)⟩, S.set h (.lock (.lst xs)))
    | some (.lsv xs) => some (⟨xs, some (h, .lsv xs)⟩, S.set h (.lock (.lsv xs)))
    | some (.lock (.lst xs)) => some (⟨xs.map Val.pd, none⟩, S)
    | some (.lock (.lsv xs)) => some (⟨xs, none⟩, S)
    | _ => none
  | _ => none
@[simp] theorem iSeq_e {f : DEnv → M Val} {ρ : DEnv} {S : Store} : iSeq f ρ S = bindR (f ρ S) fun d S1 => seqI d S1 := by
  unfold iSeq
  split
  · rename_i xs S1 h
    rw [h]
    rfl
  · rename_i h
    unfold iList
    cases e : f ρ S with
    | none => rfl
    | some p =>
      obtain ⟨d, S1⟩ := p
      simp only [bindR_some]
      cases d with
      | obj i => rfl
      | pd d =>
        cases d with
        | tuple xs => exact absurd e (h xs S1)
        | _ => rfl
@[simp] theorem seqI_list {xs : List PyData} {S : Store} : seqI (.pd (.list xs)) S = some (⟨xs.map Val.pd, none⟩, S) := rfl
@[simp] theorem seqI_tup {xs : List PyData} {S : Store} : seqI (.pd (.tuple xs)) S = some (⟨xs.map Val.pd, none⟩, S) := rfl
@[simp] theorem un_none {xs : List Val} {S : Store} : Iter.un ⟨xs, none⟩ S = S := rfl
theorem loopW_s {c : DEnv → M Bool} {n : Nat} {ρ : DEnv} {S : Store} : loopW c gb (n + 1) ρ S = bindR (c ρ S) fun b S1 => if b = true then (match gb ρ S1 with
    | none => none
    | some (.nx ρ2, S2) => loopW c gb n ρ2 S2
    | some (.ct ρ2, S2) => loopW c gb n ρ2 S2
    | some (.bk ρ2, S2) => some (.nx ρ2, S2)
    | some (.rt d, S2) => some (.rt d, S2))
    else some (.nx ρ, S1) := rfl
@[simp] theorem fNo_e {ρ : DEnv} {S : Store} : fNo ρ S = some (none, S) := rfl
/-- a part of a slice -/
def asI (d : Val) : M (Option Int) := fun S => match d with
  | .pd (.int i) => some (some i, S)
  | _ => none
@[simp] theorem asI_int {i : Int} {S : Store} : asI (.pd (.int i)) S = some (some i, S) := rfl
@[simp] theorem fPart_e {f : DEnv → M Val} {ρ : DEnv} {S : Store} : fPart f ρ S = bindR (f ρ S) fun d S1 => asI d S1 := rfl
@[simp] theorem eSl_e {u : Val → Option Int → Option Int → M Val} {fe : DEnv → M Val} {fl fh : DEnv → M (Option Int)} {ρ : DEnv} {S : Store} : eSl u fe fl fh ρ S = bindR (fe ρ S) fun d S1 => bindR (fl ρ S1) fun lo S2 => bindR (fh ρ S2) fun hi S3 => u d lo hi S3 := rfl
@[simp] theorem cutP_take {α : Type} {xs : List α} {n : Nat} : cutP xs none (some (n : Int)) = xs.take n := by
  unfold cutP
  rw [HT.sIx_none, HT.sIx_nat, List.drop_zero, Nat.sub_zero]
  rcases Nat.le_total n xs.length with h | h
  · rw [Nat.min_eq_left h]
  · rw [Nat.min_eq_right h, List.take_of_length_le (Nat.le_refl _), List.take_of_length_le h]
@[simp] theorem cutP_takeL {α : Type} {xs : List α} {n : Nat} : cutP xs none (some (OfNat.ofNat n : Int)) = xs.take n := cutP_take
@[simp] theorem cutP_drop {α : Type} {xs : List α} {n : Nat} : cutP xs (some (n : Int)) none = xs.drop n := by
  unfold cutP
  rw [HT.sIx_none, HT.sIx_nat]
  rcases Nat.le_total n xs.length with h | h
  · rw [Nat.min_eq_left h, List.take_of_length_le (by simp)]
  · rw [Nat.min_eq_right h, List.drop_of_length_le (Nat.le_refl _), List.drop_of_length_le h]
    simp
@[simp] theorem cutP_dropL {α : Type} {xs : List α} {n : Nat} : cutP xs (some (OfNat.ofNat n : Int)) none = xs.drop n := cutP_drop
@[simp] theorem uAdd_list {S : Store} {xs ys : List PyData} : uAdd (.pd (.list xs)) (.pd (.list ys)) S = if xs.length + ys.length ≤ 16777216 then some (.pd (.list (xs ++ ys)), S) else none := rfl
theorem uSl_scr {S : Store} {h : Nat} {xs : List PyData} {lo hi : Option Int} (e : S[h]? = some (.scr xs)) : uSl (.obj h) lo hi S = some (.pd (.list (cutP xs lo hi)), S) := by
  simp [uSl, getL, e]
@[simp] theorem uSl_scr0 {T : Store} {xs : List PyData} {lo hi : Option Int} : uSl (.obj 0) lo hi (.scr xs :: T) = some (.pd (.list (cutP xs lo hi)), .scr xs :: T) := uSl_scr rfl
@[simp] theorem uSl_list {S : Store} {xs : List PyData} {lo hi : Option Int} : uSl (.pd (.list xs)) lo hi S = some (.pd (.list (cutP xs lo hi)), S) := rfl
end
end DM
set_option Elab.async false
set_option linter.all false
set_option maxRecDepth 100000
/-! bits turned about -/
namespace DM
def rev : Nat → Nat → Nat
  | 0, _ => 0
  | k + 1, m => 2 ^ k * (m % 2) + rev k (m / 2)
theorem rev_lt : ∀ (k m : Nat), rev k m < 2 ^ k
  | 0, _ => by simp [rev]
  | k + 1, m => by
    have h := rev_lt k (m / 2)
    unfold rev
    have : m % 2 = 0 ∨ m % 2 = 1 := by omega
    rcases this with e | e <;> rw [e] <;> rw [Nat.pow_succ] <;> omega
theorem rev_add : ∀ (a b m : Nat), rev (a + b) m = rev a m * 2 ^ b + rev b (m / 2 ^ a)
  | 0, b, m => by simp [rev]
  | a + 1, b, m => by
    have ih := rev_add a b (m / 2)
    have e : a + 1 + b = (a + b) + 1 := by omega
    rw [e]
    show 2 ^ (a + b) * (m % 2) + rev (a + b) (m / 2) = (2 ^ a * (m % 2) + rev a (m / 2)) * 2 ^ b + rev b (m / 2 ^ (a + 1))
    have e3 : m / 2 / 2 ^ a = m / 2 ^ (a + 1) := by rw [Nat.div_div_eq_div_mul, Nat.pow_succ, Nat.mul_comm]
    rw [ih, Nat.pow_add, e3, Nat.add_mul]
    have h : 2 ^ a * 2 ^ b * (m % 2) = 2 ^ a * (m % 2) * 2 ^ b := by rw [Nat.mul_assoc, Nat.mul_comm (2 ^ b), ← Nat.mul_assoc]
    omega
theorem rev_mod : ∀ (a m : Nat), rev a m = rev a (m % 2 ^ a)
  | 0, m => by simp [rev]
  | a + 1, m => by
    have ih := rev_mod a (m / 2)
    have ih2 := rev_mod a (m % 2 ^ (a + 1) / 2)
    have e1 : m % 2 ^ (a + 1) % 2 = m % 2 := Nat.mod_mod_of_dvd m ⟨2 ^ a, by rw [Nat.pow_succ, Nat.mul_comm]⟩
    have e2 : m % 2 ^ (a + 1) / 2 = m / 2 % 2 ^ a := by
      rw [Nat.pow_succ, Nat.mul_comm, Nat.mod_mul_right_div_self]
    unfold rev
    rw [e1, e2, ← ih]
/-- the upper part, the lower part -/
theorem rev_div (a b m : Nat) : rev (a + b) m / 2 ^ b = rev a m := by
  rw [rev_add, Nat.add_comm, Nat.add_mul_div_right _ _ (Nat.two_pow_pos b), Nat.div_eq_of_lt (rev_lt b _), Nat.zero_add]
theorem rev_low (a b m : Nat) : rev (a + b) m % 2 ^ b = rev b (m / 2 ^ a) := by
  rw [rev_add, Nat.add_comm, Nat.add_mul_mod_self_right, Nat.mod_eq_of_lt (rev_lt b _)]
theorem rev_one (m : Nat) : rev 1 m = m % 2 := by simp [rev]
theorem rev_snoc (k m : Nat) : rev (k + 1) m = 2 * rev k m + m / 2 ^ k % 2 := by
  rw [rev_add, rev_one, Nat.pow_one]
  omega
theorem rev_rev : ∀ (k m : Nat), rev k (rev k m) = m % 2 ^ k
  | 0, m => by simp [rev, Nat.mod_one]
  | k + 1, m => by
    have ih := rev_rev k (m / 2)
    have h1 : rev (k + 1) m = 2 ^ k * (m % 2) + rev k (m / 2) := rfl
    rw [rev_snoc k (rev (k + 1) m), rev_mod k (rev (k + 1) m)]
    have e1 : rev (k + 1) m % 2 ^ k = rev k (m / 2) := by
      rw [h1, Nat.mul_add_mod, Nat.mod_eq_of_lt (rev_lt k _)]
    have e2 : rev (k + 1) m / 2 ^ k = m % 2 := by
      rw [h1, Nat.mul_add_div (Nat.two_pow_pos k), Nat.div_eq_of_lt (rev_lt k _), Nat.add_zero]
    rw [e1, e2, ih, Nat.pow_succ, Nat.mul_comm (2 ^ k) 2, Nat.mod_mul]
    omega
theorem rev_inj {k a b : Nat} (ha : a < 2 ^ k) (hb : b < 2 ^ k) (h : rev k a = rev k b) : a = b := by
  have := congrArg (rev k) h
  rw [rev_rev, rev_rev, Nat.mod_eq_of_lt ha, Nat.mod_eq_of_lt hb] at this
  exact this
/-- as it is reckoned -/
def revA : Nat → Int → Int → Int
  | 0, _, p => p
  | k + 1, m, p => revA k (m / 2) (2 * p + m % 2)
theorem revA_eq : ∀ (k m p : Nat), revA k (m : Int) (p : Int) = ((p * 2 ^ k + rev k m : Nat) : Int)
  | 0, m, p => by simp [revA, rev]
  | k + 1, m, p => by
    have e1 : ((m : Int) / 2) = ((m / 2 : Nat) : Int) := by simp
    have e2 : (2 * (p : Int) + (m : Int) % 2) = ((2 * p + m % 2 : Nat) : Int) := by simp
    unfold revA rev
    rw [e1, e2, revA_eq k (m / 2) (2 * p + m % 2)]
    congr 1
    rw [Nat.add_mul, Nat.pow_succ, Nat.mul_comm (m % 2), Nat.mul_comm 2 p, Nat.mul_assoc, Nat.mul_comm 2 (2 ^ k)]
    omega
/-- two numbers that part at the bit j -/
theorem part_mod {a b j : Nat} (h1 : a % 2 ^ j = b % 2 ^ j) (h2 : a / 2 ^ j % 2 ≠ b / 2 ^ j % 2) (s : Nat) : a % 2 ^ s = b % 2 ^ s ↔ s ≤ j := by
  constructor
  · intro h
    rcases Nat.lt_or_ge j s with hs | hs
    · exfalso
      apply h2
      have hd : ∀ x : Nat, x / 2 ^ j % 2 = x % 2 ^ s / 2 ^ j % 2 := fun x => by
        have e : 2 ^ s = 2 ^ j * (2 * 2 ^ (s - j - 1)) := by
          rw [← Nat.pow_succ', ← Nat.pow_add]
          congr 1
          omega
        rw [e, Nat.mod_mul_right_div_self, Nat.mod_mod_of_dvd _ ⟨_, rfl⟩]
      rw [hd a, hd b, h]
    · exact hs
  · intro h
    have hd : ∀ x : Nat, x % 2 ^ s = x % 2 ^ j % 2 ^ s := fun x => (Nat.mod_mod_of_dvd x (Nat.pow_dvd_pow 2 h)).symm
    rw [hd a, hd b, h1]
end DM
set_option Elab.async false
set_option linter.all false
set_option maxRecDepth 100000
set_option maxHeartbeats 4000000
/-! DMMore: isinstance, int(text, 2), and what else the laws ask -/
namespace DM
open PySem L2 PyProof.Rows
section
variable {K : PySem.W.Frag} {cl : Nat → Addr} {wd : Wd} {S : Store} {H : Hp}
theorem TyX.rdL {a : Addr} {xs : List V} (h : Rd H a (.lst xs)) : TyX K H (.ref a) (.type "list") := by
  rcases h with h | ⟨o, h⟩
  · exact .base (.lst h)
  · exact .base (.frz h)
/-- a value's type's name -/
def tyN (d : Val) (S : Store) : Option String := match d with
  | .pd .none => some "NoneType"
  | .pd (.bool _) => some "bool"
  | .pd (.int _) => some "int"
  | .pd (.str _) => some "str"
  | .pd (.list _) => some "list"
  | .pd (.tuple _) => some "tuple"
  | .pd (.dict _) => none
  | .obj h => match S[h]? with
    | some (.lst _) => some "list"
    | some (.lsv _) => some "list"
    | some (.lock (.lst _)) => some "list"
    | some (.lock (.lsv _)) => some "list"
    | some (.dK _) => some "dict"
    | some (.dV _) => some "dict"
    | some (.dT _) => some "dict"
    | _ => none
theorem FzT.ty {O : Addr → Prop} {a : Addr} {xs : List V} (h : FzT K H O a xs) : TyX K H (.ref a) (.type "tuple") := by
  unfold FzT at h
  rcases h with h | ⟨o, its, n, h, c, _⟩
  · exact .base (.tup h.1)
  · exact .kTuple h c
theorem WR.tyN {v : V} {d : Val} {T : String} (w : WR K cl wd S H) (r : RV K wd S.length H v d) (h : DM.tyN d S = some T) : TyX K H v (.type T) := by
  unfold DM.tyN at h
  split at h
  · cases h; cases r; exact .base .non
  · cases h; cases r; exact .base (.bl _)
  · cases h; cases r; exact .base (.int _)
  · cases h; cases r; exact .base (.str _)
  · cases h; cases r with
    | lst f q => exact DM.TyX.rdL f.1
  · cases h; cases r with
    | tup f q => exact f.ty
  · cases h
  · obtain ⟨hi, rfl⟩ := r
    split at h
    · rename_i e
      obtain ⟨f, vs, e1, q⟩ := w.ob _ _ e
      cases h
      exact .base (.lst e1)
    · rename_i e
      obtain ⟨f, vs, e1, q⟩ := w.ob _ _ e
      cases h
      exact .base (.lst e1)
    · rename_i e
      obtain ⟨f, vs, e1, q⟩ := w.ob _ _ e
      cases h
      exact .base (.lst e1)
    · rename_i e
      obtain ⟨f, vs, e1, q⟩ := w.ob _ _ e
      cases h
      exact .base (.lst e1)
    · rename_i e
      obtain ⟨f, vs, e1, q⟩ := w.ob _ _ e
      cases h
      exact .base (.dK e1)
    · rename_i e
      obtain ⟨f, vs, e1, q⟩ := w.ob _ _ e
      cases h
      exact .base (.dK e1)
    · rename_i e
      obtain ⟨f, vs, e1, q⟩ := w.ob _ _ e
      cases h
      exact .base (.dT e1)
    · cases h
end
def uIsi (T : String) : Val → M Val := fun d S => match DM.tyN d S with
  | some t => (kitB t T).map fun b => (.pd (.bool b), S)
  | none => none
section
variable {X : Cx} {cl : Nat → Addr} {a : Expr} {p p2 pos : Pos} {x : Str} {T : String} {fa : DEnv → M Val}
theorem de_isi (hi : Gl X "isinstance") (hm : X.mg "isinstance" = none) (hx : Gl X x) (hm2 : X.mg x = none) (ha : DE X cl a fa) (hv : bootBuiltins x = some (.type T)) (hn : x ≠ "__name__" := by decide) (hd : (x == ("__debug__" : Str)) = false := by decide) (hvi : bootBuiltins "isinstance" = some (.builtin "isinstance") := by decide +kernel)
    (h1 : starEach [a, .Name x p2] X.env = (false, eval a X.env) :: starEach [.Name x p2] X.env := by rfl) (h2 : starEach [.Name x p2] X.env = (false, eval (.Name x p2) X.env) :: starEach [] X.env := by rfl)
    (hpl : (backTo pos (starEach [.Name x p2] X.env)).any (·.1) = false := by rfl) :
    DE X cl (.Call (.Name "isinstance" p) [a, .Name x p2] [] pos) (eU (uIsi T) fa) := by
  obtain ⟨ta, pa, sa⟩ := ha
  refine ⟨_, pe_callB call_isi hi hm hvi (pa_cons pa (pa_cons (pe_bltn (v := .ty T) hx hm2 hv rfl hn hd) pa_nil h2) h1) (by decide) (by decide) h1 hpl, fun wd σ ρ S H Q d S' w q h k => ?_⟩
  obtain ⟨y, S1, e1, h⟩ := bindR_inv h
  refine sa wd σ ρ S H _ y S1 w q e1 fun wd1 v1 H1 w1 x1 r1 => ?_
  unfold uIsi at h
  split at h
  · rename_i t et
    cases e2 : kitB t T with
    | none =>
      rw [e2] at h
      cases h
    | some b =>
      rw [e2] at h
      cases h
      exact ⟨_, _, _, _, b, rfl, .ty T, w1.tyN r1 et, kit_ty e2, k wd1 _ H1 w1 x1 (.bl b)⟩
  · cases h
end
/-! int(text, 2) -/
namespace Bn
open PySem.NumText PySem.Calls L2.Hx
def IsBit (c : Nat) : Prop := c = 48 ∨ c = 49
def bitNum (l : List Nat) : Nat := l.foldl (fun n c => n * 2 + (c - 48)) 0
theorem IsBit.hex {c : Nat} (h : IsBit c) : IsHex c := by
  unfold IsBit at h
  exact .inl (by omega)
theorem digit_bit {c : Nat} (h : IsBit c) : digit? c = some (c - 48) := by
  rw [digit_hex h.hex]
  unfold IsBit at h
  unfold hv
  rw [if_pos (by omega)]
theorem step_bit {ds : Array Nat} {b : Bool} {c : Nat} (h : IsBit c) : PySem.NumText.step 2 (ds, b) c = some (ds.push (c - 48), true) := by
  have e : ¬ (c == 95) = true := by
    unfold IsBit at h
    rw [beq_iff_eq]
    omega
  unfold PySem.NumText.step
  rw [if_neg e, digit_bit h]
  unfold IsBit at h
  exact if_pos (by omega)
theorem fold_bit : ∀ (cs : List Nat) (ds : Array Nat), (∀ c ∈ cs, IsBit c) → cs.foldlM (PySem.NumText.step 2) (ds, true) = some (cs.foldl (fun z c => z.push (c - 48)) ds, true)
  | [], _, _ => rfl
  | c :: cs, ds, h => by
    rw [List.foldlM_cons, step_bit (h c (List.mem_cons_self ..))]
    show cs.foldlM (PySem.NumText.step 2) (ds.push (c - 48), true) = _
    exact fold_bit cs _ fun d hd => h d (List.mem_cons_of_mem _ hd)
theorem digits_bit {cs : List Nat} (h : ∀ c ∈ cs, IsBit c) (hne : cs ≠ []) : digits? 2 cs = some (cs.foldl (fun z c => z.push (c - 48)) #[]) := by
  cases cs with
  | nil => exact absurd rfl hne
  | cons c cs =>
    unfold digits?
    rw [List.foldlM_cons, step_bit (h c (List.mem_cons_self ..))]
    show (cs.foldlM (PySem.NumText.step 2) ((#[] : Array Nat).push (c - 48), true)).bind _ = _
    rw [fold_bit cs _ fun d hd => h d (List.mem_cons_of_mem _ hd)]
    rfl
theorem push_bit : ∀ (cs : List Nat) (ds : Array Nat), (cs.foldl (fun z c => z.push (c - 48)) ds).foldl (fun z d => z * 2 + d) 0 = cs.foldl (fun n c => n * 2 + (c - 48)) (ds.foldl (fun z d => z * 2 + d) 0)
  | [], _ => rfl
  | c :: cs, ds => by
    rw [List.foldl_cons, push_bit cs, List.foldl_cons]
    congr 1
    simp
theorem based_bit {cs : List Nat} (h : ∀ c ∈ cs, IsBit c) : based 2 cs = (2, false, cs) := by
  match cs, h with
  | [], _ => rfl
  | [c], h =>
    have hc := h c (List.mem_cons_self ..)
    unfold IsBit at hc
    rcases hc with rfl | rfl <;> rfl
  | b :: c :: r, h =>
    have hc := h c (List.mem_cons_of_mem _ (List.mem_cons_self ..))
    have hb := h b (List.mem_cons_self ..)
    unfold IsBit at hc hb
    rcases hc with rfl | rfl <;> rcases hb with rfl | rfl <;> rfl
theorem read_bit {cs : List Nat} (h : ∀ c ∈ cs, IsBit c) (hne : cs ≠ []) : (int_private% "readNumeral") 0 2 cs = (int_private% "Numeral.value") ((bitNum cs : Nat) : Int) := by
  have hh : ∀ c ∈ cs, IsHex c := fun c hc => (h c hc).hex
  refine (readNumeral_eq 0 2 cs).trans ?_
  rw [dropB hh, signH hh]
  show judge 0 false (based 2 cs).1 (based 2 cs).2.1 (digits? (based 2 cs).1 (((based 2 cs).2.2.reverse.dropWhile blank).reverse)) = _
  rw [based_bit h]
  show judge 0 false 2 false (digits? 2 ((cs.reverse.dropWhile blank).reverse)) = _
  rw [dropB fun c hc => hh c (List.mem_reverse.mp hc), List.reverse_reverse, digits_bit h hne]
  show (int_private% "Numeral.value") (((cs.foldl (fun z c => z.push (c - 48)) (#[] : Array Nat)).foldl (fun z d => z * 2 + d) 0 : Nat) : Int) = _
  have z : (#[] : Array Nat).foldl (fun z d => z * 2 + d) 0 = 0 := by first | rfl | simp
  rw [push_bit, z]
  rfl
theorem gives_bit {x : PySem.Str} {u t : Tok} (hl : x.length ≤ 640) (h : ∀ c ∈ x.cps.toList, IsBit c) (hne : x.cps.toList ≠ []) :
    Gives (Builtin.«int.__new__» ⟨[.type "int", .str x u, .int 2 t], []⟩) (.int ((bitNum x.cps.toList : Nat) : Int)) :=
  .of_wp fun M A E s Q hQ => by
    obtain ⟨hp, g, d, tk, os⟩ := s
    have f1 := F.conv_sub_int
    have f2 := F.madeHere_int
    have f6 : typeOf (.str x u) = pure (.type "str") := rfl
    obtain ⟨e1, e2⟩ := seen_hex fun c hc => (h c hc).hex
    have hs : (numSeenOf x).length ≤ 640 := by
      rw [e2, Array.length_toList]
      exact hl
    have hr : (int_private% "readNumeral") 0 2 (numSeenOf x) = (int_private% "Numeral.value") ((bitNum x.cps.toList : Nat) : Int) := by
      rw [e2]
      exact read_bit h hne
    have ha : ((numSeenOf x).length == (numTextOf x).length) = true := by
      rw [e1, e2]
      exact beq_self_eq_true _
    have hk := Hid.mk (And.intro hs (And.intro hr ha))
    clear hs hr ha e1 e2 hl hne h
    repeat (any_goals (first
      | assumption
      | ((with_reducible show wpAny _ _ ((int_private% "intFromText") _ _ _) _ _ _); refine wp_textB hk.out.1 hk.out.2.1 hk.out.2.2 ?_)
      | wp_step))
    all_goals first | exact ⟨_, rfl, hQ⟩ | skip
theorem call_bit {prog : Program} {w : World} {A : Around} {E : Value → Shared → Prop} {s : Shared} {Q : Value → Shared → Prop} {x : PySem.Str} {u t : Tok} (hl : x.length ≤ 640) (h : ∀ c ∈ x.cps.toList, IsBit c) (hne : x.cps.toList ≠ [])
    (hQ : Q (.int ((bitNum x.cps.toList : Nat) : Int) s.toks) { s with toks := s.toks + 1 }) : wpAny (model prog w) A (call (.type "int") [.str x u, .int 2 t]) Q E s :=
  callType_new F.called_int F.newNe_int (typeCall_int_2 _ _) (newCall_int_2 _ _) (fun obj => F.initArgs_range_2 obj _ _) F.entry_int_new (gives_bit hl h hne).meets (show (Made.int ((bitNum x.cps.toList : Nat) : Int)).post _ s from ⟨rfl, hQ⟩)
end Bn
def rInt2 : List V → Hp → VK → Prop := fun xs H Q => ∃ x : Str, xs = [.str x, .int 2] ∧ x.cps.toList ≠ [] ∧ x.length ≤ 640 ∧ (∀ c ∈ x.cps.toList, Bn.IsBit c) ∧ Q (.int ((Bn.bitNum x.cps.toList : Nat) : Int)) H
theorem call_int2 {X : Cx} : CallR X (.type "int") rInt2 := by
  intro pins s σ H xs us Q I r h
  obtain ⟨x, rfl, hne, hl, hx, q⟩ := h
  obtain ⟨u, w', rfl, r1, r2⟩ := vals2 r
  obtain ⟨t1, rfl⟩ := r1
  obtain ⟨t2, rfl⟩ := r2
  exact Bn.call_bit hl hx hne ⟨.int ((Bn.bitNum x.cps.toList : Nat) : Int), H, I.tok _, ⟨_, rfl⟩, q⟩
def uInt2 : List Val → M Val := fun ds S => match ds with
  | [.pd (.str x), .pd (.int 2)] => if x.cps.toList ≠ [] ∧ x.length ≤ 640 ∧ x.cps.toList.all (fun c => c == 48 || c == 49) = true then some (.pd (.int ((Bn.bitNum x.cps.toList : Nat) : Int)), S) else none
  | _ => none
theorem sc_int2 {K : PySem.W.Frag} {cl : Nat → Addr} : SimC K cl rInt2 uInt2 := fun wd S H xs ds Q d S' w r h k => by
  unfold uInt2 at h
  split at h
  · split at h
    · rename_i x c
      cases h
      obtain ⟨v, u, rfl, r1, r2⟩ := r.two_inv
      obtain rfl := r1.str_inv
      obtain rfl := r2.int_inv
      refine ⟨x, rfl, c.1, c.2.1, fun z hz => ?_, k wd _ H w .refl (.int _)⟩
      have := List.all_eq_true.mp c.2.2 z hz
      rw [Bool.or_eq_true, beq_iff_eq, beq_iff_eq] at this
      exact this
    · cases h
  · cases h
@[simp] theorem kitB_NoneType_int : kitB "NoneType" "int" = some false := by decide +kernel
@[simp] theorem kitB_bool_int : kitB "bool" "int" = some true := by decide +kernel
@[simp] theorem kitB_int_int : kitB "int" "int" = some true := by decide +kernel
@[simp] theorem kitB_str_int : kitB "str" "int" = some false := by decide +kernel
@[simp] theorem kitB_list_int : kitB "list" "int" = some false := by decide +kernel
@[simp] theorem kitB_tuple_int : kitB "tuple" "int" = some false := by decide +kernel
@[simp] theorem kitB_dict_int : kitB "dict" "int" = some false := by decide +kernel
@[simp] theorem kitB_NoneType_bool : kitB "NoneType" "bool" = some false := by decide +kernel
@[simp] theorem kitB_bool_bool : kitB "bool" "bool" = some true := by decide +kernel
@[simp] theorem kitB_int_bool : kitB "int" "bool" = some false := by decide +kernel
@[simp] theorem kitB_str_bool : kitB "str" "bool" = some false := by decide +kernel
@[simp] theorem kitB_list_bool : kitB "list" "bool" = some false := by decide +kernel
@[simp] theorem kitB_tuple_bool : kitB "tuple" "bool" = some false := by decide +kernel
@[simp] theorem kitB_dict_bool : kitB "dict" "bool" = some false := by decide +kernel
@[simp] theorem kitB_NoneType_str : kitB "NoneType" "str" = some false := by decide +kernel
@[simp] theorem kitB_bool_str : kitB "bool" "str" = some false := by decide +kernel
@[simp] theorem kitB_int_str : kitB "int" "str" = some false := by decide +kernel
@[simp] theorem kitB_str_str : kitB "str" "str" = some true := by decide +kernel
@[simp] theorem kitB_list_str : kitB "list" "str" = some false := by decide +kernel
@[simp] theorem kitB_tuple_str : kitB "tuple" "str" = some false := by decide +kernel
@[simp] theorem kitB_dict_str : kitB "dict" "str" = some false := by decide +kernel
@[simp] theorem kitB_NoneType_list : kitB "NoneType" "list" = some false := by decide +kernel
@[simp] theorem kitB_bool_list : kitB "bool" "list" = some false := by decide +kernel
@[simp] theorem kitB_int_list : kitB "int" "list" = some false := by decide +kernel
@[simp] theorem kitB_str_list : kitB "str" "list" = some false := by decide +kernel
@[simp] theorem kitB_list_list : kitB "list" "list" = some true := by decide +kernel
@[simp] theorem kitB_tuple_list : kitB "tuple" "list" = some false := by decide +kernel
@[simp] theorem kitB_dict_list : kitB "dict" "list" = some false := by decide +kernel
@[simp] theorem kitB_NoneType_tuple : kitB "NoneType" "tuple" = some false := by decide +kernel
@[simp] theorem kitB_bool_tuple : kitB "bool" "tuple" = some false := by decide +kernel
@[simp] theorem kitB_int_tuple : kitB "int" "tuple" = some false := by decide +kernel
@[simp] theorem kitB_str_tuple : kitB "str" "tuple" = some false := by decide +kernel
@[simp] theorem kitB_list_tuple : kitB "list" "tuple" = some false := by decide +kernel
@[simp] theorem kitB_tuple_tuple : kitB "tuple" "tuple" = some true := by decide +kernel
@[simp] theorem kitB_dict_tuple : kitB "dict" "tuple" = some false := by decide +kernel
@[simp] theorem kitB_NoneType_dict : kitB "NoneType" "dict" = some false := by decide +kernel
@[simp] theorem kitB_bool_dict : kitB "bool" "dict" = some false := by decide +kernel
@[simp] theorem kitB_int_dict : kitB "int" "dict" = some false := by decide +kernel
@[simp] theorem kitB_str_dict : kitB "str" "dict" = some false := by decide +kernel
@[simp] theorem kitB_list_dict : kitB "list" "dict" = some false := by decide +kernel
@[simp] theorem kitB_tuple_dict : kitB "tuple" "dict" = some false := by decide +kernel
@[simp] theorem kitB_dict_dict : kitB "dict" "dict" = some true := by decide +kernel
section
variable {S : Store}
@[simp] theorem tyN_int {i : Int} : tyN (.pd (.int i)) S = some "int" := rfl
@[simp] theorem tyN_bool {b : Bool} : tyN (.pd (.bool b)) S = some "bool" := rfl
@[simp] theorem tyN_none : tyN (.pd .none) S = some "NoneType" := rfl
@[simp] theorem tyN_str {z : Str} : tyN (.pd (.str z)) S = some "str" := rfl
@[simp] theorem tyN_list {xs : List PyData} : tyN (.pd (.list xs)) S = some "list" := rfl
@[simp] theorem tyN_tup {xs : List PyData} : tyN (.pd (.tuple xs)) S = some "tuple" := rfl
theorem uIsi_e {T t : String} {d : Val} {b : Bool} (h : tyN d S = some t) (e : kitB t T = some b) : uIsi T d S = some (.pd (.bool b), S) := by
  unfold uIsi
  rw [h]
  show (kitB t T).map _ = _
  rw [e]
  rfl
@[simp] theorem isi_int_int {i : Int} : uIsi "int" (.pd (.int i)) S = some (.pd (.bool true), S) := uIsi_e tyN_int kitB_int_int
@[simp] theorem isi_int_bool {i : Int} : uIsi "bool" (.pd (.int i)) S = some (.pd (.bool false), S) := uIsi_e tyN_int kitB_int_bool
@[simp] theorem isi_bool_bool {i : Bool} : uIsi "bool" (.pd (.bool i)) S = some (.pd (.bool true), S) := uIsi_e tyN_bool kitB_bool_bool
@[simp] theorem isi_tup_tup {xs : List PyData} : uIsi "tuple" (.pd (.tuple xs)) S = some (.pd (.bool true), S) := uIsi_e tyN_tup kitB_tuple_tuple
@[simp] theorem isi_list_list {xs : List PyData} : uIsi "list" (.pd (.list xs)) S = some (.pd (.bool true), S) := uIsi_e tyN_list kitB_list_list
end
/-! the law that goes over its cells -/
theorem cells_loop {gg : Val → DEnv → M DEnv} {gb : DEnv → M Fl} {I : DEnv → Store → Prop} (ht : ∀ (c : Int) ρ S, I ρ S → ∃ ρ' S', turnG gg gb (.pd (.int c)) ρ S = some (.nx ρ', S') ∧ I ρ' S') : ∀ (cs : List Int) (ρ : DEnv) (S : Store), I ρ S → ∃ ρ' S', loopG gg gb (cs.map fun c => Val.pd (.int c)) ρ S = some (.nx ρ', S') ∧ I ρ' S'
  | [], ρ, S, h => ⟨ρ, S, rfl, h⟩
  | c :: r, ρ, S, h => by
    obtain ⟨ρ1, S1, e1, h1⟩ := ht c ρ S h
    obtain ⟨ρ2, S2, e2, h2⟩ := cells_loop ht r ρ1 S1 h1
    exact ⟨ρ2, S2, by rw [List.map_cons, loopG_cons, e1]; exact e2, h2⟩
theorem cells_iter {gg : Val → DEnv → M DEnv} {gb : DEnv → M Fl} {ns : List Int} {k : Nat} {kk : Int} {r : DEnv} (hk : kk = k) (hl : k ≤ 100) :
    gFor (iSeq (eO uAdd (eA uLst (aCons (eC (.int 0)) aNil)) (eSl uSl (eVar 0) fNo (fPart (eC (.int kk)))))) gg gb (some (.obj 0) :: r) [.scr (ns.map PyData.int)] =
      bindR (loopG gg gb ((0 :: ns.take k).map fun c => Val.pd (.int c)) (some (.obj 0) :: r) [.scr (ns.map PyData.int)]) fun fl S2 => some (fl, S2) := by
  subst hk
  have hm : min k ns.length ≤ k := Nat.min_le_left _ _
  have c : 1 + min k ns.length ≤ 16777216 := by omega
  simp [uLst, c, Function.comp_def]
theorem law_cells {n k : Nat} {kk : Int} {gb : DEnv → M Fl} {fe : DEnv → M Val} {r : DEnv} (I : List Int → DEnv → Store → Prop) (hk : kk = k) (hl : k ≤ 100) (hr : startD n [.obj 0] = some (.obj 0) :: r)
    (h0 : ∀ ns : List Int, I ns (some (.obj 0) :: r) [.scr (ns.map PyData.int)]) (ht : ∀ ns (c : Int) ρ S, I ns ρ S → ∃ ρ' S', turnG (nName 1) gb (.pd (.int c)) ρ S = some (.nx ρ', S') ∧ I ns ρ' S')
    (he : ∀ ns ρ S, I ns ρ S → fe ρ S = some (.pd (.bool true), S) ∧ ∃ T, S = [.scr (ns.map PyData.int)] ++ T) :
    ∀ ns : List Int, ns.length ≤ 63 → ∃ S', fnF n (gSeq (gFor (iSeq (eO uAdd (eA uLst (aCons (eC (.int 0)) aNil)) (eSl uSl (eVar 0) fNo (fPart (eC (.int kk)))))) (nName 1) gb) (gRet fe)) exitF [.obj 0] [.scr (ns.map PyData.int)] = some (.pd (.bool true), S') := by
  intro ns _
  obtain ⟨ρ', S', e, i⟩ := cells_loop (I := I ns) (ht ns) (0 :: ns.take k) _ _ (h0 ns)
  obtain ⟨e2, T, rfl⟩ := he ns ρ' S' i
  refine ⟨[.scr (ns.map PyData.int)], ?_⟩
  rw [fnF_e, hr, gSeq_e, cells_iter hk hl, e, bindR_some, seqR_nx, gRet_e, e2, bindR_some, endR_rt]
  exact exitF_app (S := [.scr (ns.map PyData.int)]) (fun o ho => by simp at ho; subst ho; rfl)
/-- one of a list, by a number -/
theorem getD_mem {α : Type} {xs : List α} {d : α} {n : Nat} (h : n < xs.length) : xs.getD n d ∈ xs := by
  rw [getD_lt h]
  exact List.getElem_mem _
theorem uIx_pick {S : Store} {xs : List Int} {i : Int} (h0 : 0 ≤ i) (h1 : i < xs.length) : ∃ z, z ∈ xs ∧ ∀ S : Store, uIx (.pd (.list (xs.map PyData.int))) (.pd (.int i)) S = some (.pd (.int z), S) := by
  refine ⟨xs.getD i.toNat 0, getD_mem (by omega), fun S => ?_⟩
  rw [uIx_list, atI_mapD (d := 0) h0 h1]
  rfl
/-! equality of plain data: no truths, no dicts -/
mutual
def plD : Nat → PyData → Bool
  | _, .none => true
  | _, .int _ => true
  | _, .str x => PyData.strOk x
  | n + 1, .list xs => plA n xs
  | n + 1, .tuple xs => plA n xs
  | _, _ => false
def plA : Nat → List PyData → Bool
  | _, [] => true
  | n, x :: xs => plD n x && plA n xs
end
mutual
theorem plD_ok : ∀ (n : Nat) (d : PyData), plD n d = true → d.canLay0 = true ∧ d.depth ≤ n
  | _, .none, _ => ⟨rfl, Nat.zero_le _⟩
  | _, .int _, _ => ⟨rfl, Nat.zero_le _⟩
  | n, .str x, h => ⟨by
      unfold plD at h
      unfold PyData.canLay0
      exact h, by unfold PyData.depth; omega⟩
  | n + 1, .list xs, h => by
    unfold plD at h
    obtain ⟨h1, h2⟩ := plA_ok n xs h
    unfold PyData.canLay0 PyData.depth
    exact ⟨h1, by omega⟩
  | n + 1, .tuple xs, h => by
    unfold plD at h
    obtain ⟨h1, h2⟩ := plA_ok n xs h
    unfold PyData.canLay0 PyData.depth
    exact ⟨h1, by omega⟩
  | _, .bool _, h => by unfold plD at h; cases h
  | _, .dict _, h => by unfold plD at h; cases h
  | 0, .list _, h => by unfold plD at h; cases h
  | 0, .tuple _, h => by unfold plD at h; cases h
theorem plA_ok : ∀ (n : Nat) (ds : List PyData), plA n ds = true → PyData.canLayAll0 ds = true ∧ PyData.depthAll ds ≤ n
  | n, [], _ => ⟨rfl, Nat.zero_le _⟩
  | n, x :: xs, h => by
    unfold plA at h
    obtain ⟨a, b⟩ := Bool.and_eq_true_iff.mp h
    obtain ⟨h1, h2⟩ := plD_ok n x a
    obtain ⟨h3, h4⟩ := plA_ok n xs b
    unfold PyData.canLayAll0 PyData.depthAll
    exact ⟨by rw [h1, h3]; rfl, by omega⟩
end
theorem pl_shaped {n : Nat} {d : PyData} (h : plD n d = true) (hn : n ≤ 64) : SeqAt.shaped d = true := by
  obtain ⟨a, b⟩ := plD_ok n d h
  unfold SeqAt.shaped
  rw [a, Bool.true_and]
  exact decide_eq_true (by omega)
mutual
theorem eqv_pl : ∀ (n : Nat) (x : PyData) (y : PyData) (m : Nat), plD n x = true → plD m y = true → (PyData.eqv x y = true ↔ x = y)
  | n, .none, y, m, _, hy => by
    cases y <;> simp [PyData.eqv]
  | n, .int i, y, m, _, hy => by
    cases y with
    | bool b => unfold plD at hy; cases hy
    | _ => simp [PyData.eqv]
  | n, .str i, y, m, _, hy => by
    cases y <;> simp [PyData.eqv]
  | n + 1, .list xs, y, m, hx, hy => by
    cases y with
    | list ys =>
      cases m with
      | zero => unfold plD at hy; cases hy
      | succ m =>
        unfold plD at hx hy
        simp only [PyData.eqv, eqvA_pl n xs ys m hx hy, PyData.list.injEq]
    | _ => simp [PyData.eqv]
  | n + 1, .tuple xs, y, m, hx, hy => by
    cases y with
    | tuple ys =>
      cases m with
      | zero => unfold plD at hy; cases hy
      | succ m =>
        unfold plD at hx hy
        simp only [PyData.eqv, eqvA_pl n xs ys m hx hy, PyData.tuple.injEq]
    | _ => simp [PyData.eqv]
  | _, .bool _, _, _, h, _ => by unfold plD at h; cases h
  | _, .dict _, _, _, h, _ => by unfold plD at h; cases h
  | 0, .list _, _, _, h, _ => by unfold plD at h; cases h
  | 0, .tuple _, _, _, h, _ => by unfold plD at h; cases h
theorem eqvA_pl : ∀ (n : Nat) (xs : List PyData) (ys : List PyData) (m : Nat), plA n xs = true → plA m ys = true → (PyData.eqvAll xs ys = true ↔ xs = ys)
  | n, [], ys, m, _, _ => by cases ys <;> simp [PyData.eqvAll]
  | n, x :: xs, ys, m, hx, hy => by
    cases ys with
    | nil => simp [PyData.eqvAll]
    | cons y ys =>
      unfold plA at hx hy
      obtain ⟨a, b⟩ := Bool.and_eq_true_iff.mp hx
      obtain ⟨a', b'⟩ := Bool.and_eq_true_iff.mp hy
      simp only [PyData.eqvAll, Bool.and_eq_true, eqv_pl n x y m a a', eqvA_pl n xs ys m b b', List.cons.injEq]
end
theorem uEq_D {S : Store} {a b : Val} {x y : PyData} {n m : Nat} {p : Bool} (hx : toD a S = some x) (hy : toD b S = some y) (px : plD n x = true) (py : plD m y = true) (hn : n ≤ 64) (hm : m ≤ 64) (hp : p = true ↔ x = y) : uEq a b S = some (.pd (.bool p), S) := by
  unfold uEq
  rw [hx, hy]
  show (if SeqAt.shaped x = true ∧ SeqAt.shaped y = true then _ else _) = _
  rw [if_pos ⟨pl_shaped px hn, pl_shaped py hm⟩]
  have e : PyData.eqv x y = p := by
    rw [Bool.eq_iff_iff, eqv_pl n x y m px py, hp]
  rw [e]
theorem uNe_D {S : Store} {a b : Val} {x y : PyData} {n m : Nat} {p : Bool} (hx : toD a S = some x) (hy : toD b S = some y) (px : plD n x = true) (py : plD m y = true) (hn : n ≤ 64) (hm : m ≤ 64) (hp : p = true ↔ x ≠ y) : uNe a b S = some (.pd (.bool p), S) := by
  unfold uNe
  rw [hx, hy]
  show (if SeqAt.shaped x = true ∧ SeqAt.shaped y = true then _ else _) = _
  rw [if_pos ⟨pl_shaped px hn, pl_shaped py hm⟩]
  have e : (!PyData.eqv x y) = p := by
    rw [Bool.eq_iff_iff, hp, Bool.not_eq_true', ← Bool.not_eq_true, eqv_pl n x y m px py]
  rw [e]
theorem uEq_self {S : Store} {x : PyData} {n : Nat} (px : plD n x = true) (hn : n ≤ 64) : uEq (.pd x) (.pd x) S = some (.pd (.bool true), S) := uEq_D rfl rfl px px hn hn (by simp)
theorem uNe_self {S : Store} {x : PyData} {n : Nat} (px : plD n x = true) (hn : n ≤ 64) : uNe (.pd x) (.pd x) S = some (.pd (.bool false), S) := uNe_D rfl rfl px px hn hn (by simp)
/-! comprehensions -/
section
variable {ρ : DEnv} {S : Store} {gg : Val → DEnv → M DEnv} {ft : DEnv → M Bool} {fe : DEnv → M Val}
@[simp] theorem eLc_e {fi : DEnv → M Iter} {ix : List Nat} : eLc fi gg ft fe ix ρ S = bindR (fi ρ S) fun it S1 => bindR (loopC gg ft fe (wipeD ρ ix) it.items [] S1) fun ys S2 => some (.pd (.list ys), it.un S2) := rfl
@[simp] theorem loopC_nil {acc : List PyData} : loopC gg ft fe ρ [] acc S = some (acc, S) := rfl
def addC (y : Val) (acc : List PyData) (k : List PyData → Option (List PyData × Store)) : Option (List PyData × Store) := match y with
  | .pd y => if acc.length < 16777216 then k (acc ++ [y]) else none
  | .obj _ => none
@[simp] theorem addC_pd {y : PyData} {acc : List PyData} {k : List PyData → Option (List PyData × Store)} : addC (.pd y) acc k = if acc.length < 16777216 then k (acc ++ [y]) else none := rfl
theorem loopC_cons {d : Val} {ds : List Val} {acc : List PyData} : loopC gg ft fe ρ (d :: ds) acc S = bindR (gg d ρ S) fun ρ1 S1 => bindR (ft ρ1 S1) fun b S2 => if b = true then bindR (fe ρ1 S2) fun y S3 => addC y acc fun a => loopC gg ft fe ρ ds a S3
    else loopC gg ft fe ρ ds acc S2 := by
  rw [loopC]
  refine congrArg (bindR (gg d ρ S)) (funext fun ρ1 => funext fun S1 => congrArg (bindR (ft ρ1 S1)) (funext fun b => funext fun S2 => ?_))
  cases b with
  | false => rfl
  | true =>
    rw [if_pos rfl, if_pos rfl]
    refine congrArg (bindR (fe ρ1 S2)) (funext fun y => funext fun S3 => ?_)
    cases y <;> rfl
@[simp] theorem tYesD_e : tYesD ρ S = some (true, S) := rfl
@[simp] theorem wipeD_nil : wipeD ρ [] = ρ := rfl
@[simp] theorem wipeD_cons {v : Nat} {vs : List Nat} : wipeD ρ (v :: vs) = (wipeD ρ vs).set v none := rfl
@[simp] theorem uLen_list {xs : List PyData} : uLen [.pd (.list xs)] S = some (.pd (.int xs.length), S) := rfl
@[simp] theorem uLen_tup {xs : List PyData} : uLen [.pd (.tuple xs)] S = some (.pd (.int xs.length), S) := rfl
@[simp] theorem uLst_e {ds : List PyData} : uLst (ds.map Val.pd) S = if ds.length ≤ 16777216 then some (.pd (.list ds), S) else none := by
  have e : allPd (ds.map Val.pd) = some ds := by
    induction ds with
    | nil => rfl
    | cons d r ih => simp [ih]
  unfold uLst
  rw [e]
@[simp] theorem uLst_nil : uLst [] S = some (.pd (.list []), S) := rfl
end
end DM
set_option Elab.async false
set_option linter.all false
set_option maxRecDepth 100000
set_option maxHeartbeats 4000000
namespace K02
open PySem L2 PyProof.Rows DM
def top (i : Nat) : Stmt := PySem.Challenge.pw_slowshift_k02_stretches_told.main.body.getD i (.Pass ⟨0, 0, 0, 0⟩)
abbrev B1_point_of : DEnv → M Fl := (gSeq (gAsg (eO uAdd (eO uMul (eC (.int 2)) (eVar 1)) (eO uMod (eVar 0) (eC (.int 2)))) (nName 1))
    (gAsg (eO uDiv (eVar 0) (eC (.int 2))) (nName 0)))
def G_point_of : DEnv → M Fl := (gSeq (gAsg (eC (.int 0)) (nName 1))
    (gSeq (gFor (iRng1 (eC (.int 16))) (nName 2) B1_point_of)
    (gRet (eVar 1))))
def F_point_of : List Val → M Val := fnF 3 G_point_of exitF
def G_law_stream : DEnv → M Fl := (gSeq (gAsg (eO uMod (eVar 0) (eC (.int 536870909))) (nName 1))
    (gSeq (gAsg (eO uMod (eO uAdd (eO uMul (eO uMod (eO uMul (eVar 1) (eVar 1)) (eC (.int 536870909))) (eO uAdd (eVar 1) (eC (.int 7)))) (eC (.int 13))) (eC (.int 536870909))) (nName 1))
    (gRet (eA uLstM (aCons (eVar 0) (aCons (eVar 1) (aCons (eA uInt (aCons (eO (uLt fun i j => decide (j ≤ i)) (eVar 0) (eO uPow (eC (.int 10)) (eC (.int 18)))) aNil)) aNil)))))))
def F_law_stream : List Val → M Val := fnF 2 G_law_stream exitN
def G_law_take : DEnv → M Fl := (gSeq (gIf (tVal (eO uEq (eO uIx (eVar 0) (eC (.int 2))) (eC (.int 1)))) (gSeq (gAsg (eO uMod (eO uIx (eVar 0) (eC (.int 0))) (eVar 1)) (nName 2))
    (gSeq (gAsg (eO uDiv (eO uIx (eVar 0) (eC (.int 0))) (eVar 1)) (nSub uSet (eVar 0) (eC (.int 0))))
    (gRet (eVar 2)))) gNext)
    (gSeq (gAsg (eO uMod (eO uMul (eO uAdd (eO uIx (eVar 0) (eC (.int 1))) (eC (.int 7919))) (eO uAdd (eO uIx (eVar 0) (eC (.int 1))) (eC (.int 104729)))) (eC (.int 536870909))) (nSub uSet (eVar 0) (eC (.int 1))))
    (gRet (eO uMod (eO uDiv (eO uAdd (eO uMul (eO uIx (eVar 0) (eC (.int 1))) (eC (.int 48271))) (eC (.int 11))) (eC (.int 64))) (eVar 1)))))
def F_law_take : List Val → M Val := fnF 3 G_law_take exitF
abbrev B1_law_due : DEnv → M Fl := (gSeq (gAsg (eO uAdd (eVar 2) (eO uIx (eC (.str "01")) (eO uMod (eVar 0) (eC (.int 2))))) (nName 2))
    (gAsg (eO uDiv (eVar 0) (eC (.int 2))) (nName 0)))
def G_law_due : DEnv → M Fl := (gSeq (gAsg (eC (.str "")) (nName 2))
    (gSeq (gFor (iRng1 (eVar 1)) (nName 3) B1_law_due)
    (gRet (eA uTup (aCons (eA uInt2 (aCons (eO uAdd (eVar 2) (eO uMul (eC (.str "0")) (eO uSub (eC (.int 16)) (eVar 1)))) (aCons (eC (.int 2)) aNil))) (aCons (eA uInt2 (aCons (eO uAdd (eVar 2) (eO uMul (eC (.str "1")) (eO uSub (eC (.int 16)) (eVar 1)))) (aCons (eC (.int 2)) aNil))) aNil))))))
def F_law_due : List Val → M Val := fnF 4 G_law_due exitF
def G_law_same : DEnv → M Fl := (gSeq (gIf (tOr (tNot (tVal (eU (uIsi "tuple") (eVar 0)))) (tVal (eO uNe (eA uLen (aCons (eVar 0) aNil)) (eC (.int 2))))) (gRet (eC (.bool false))) gNext)
    (gRet (eO uEq (eLc (iRng1 (eC (.int 2))) (nName 2) (tOr (tVal (eU (uIsi "bool") (eO uIx (eVar 0) (eVar 2)))) (tVal (eO uNe (eO uIx (eVar 0) (eVar 2)) (eO uIx (eVar 1) (eVar 2))))) (eVar 2) [2]) (eA uLst aNil))))
def F_law_same : List Val → M Val := fnF 3 G_law_same exitF
def G_stretch_of : DEnv → M Fl := (gSeq (gAsg (eCall F_point_of 1 (aCons (eVar 0) aNil)) (nName 2))
    (gRet (eA uTup (aCons (eVar 2) (aCons (eO uSub (eO uAdd (eVar 2) (eO uDiv (eC (.int 65536)) (eVar 1))) (eC (.int 1))) aNil)))))
def F_stretch_of : List Val → M Val := fnF 3 G_stretch_of exitF
abbrev B1_law : DEnv → M Fl := (gIf (tNot (tVal (eCall F_law_same 2 (aCons (eCall F_stretch_of 2 (aCons (eVar 5) (aCons (eVar 4) aNil))) (aCons (eCall F_law_due 2 (aCons (eVar 5) (aCons (eVar 3) aNil))) aNil))))) (gRet (eC (.bool false))) gNext)
abbrev B2_law : DEnv → M Fl := (gSeq (gAsg (eCall F_law_stream 1 (aCons (eVar 1) aNil)) (nName 2))
    (gSeq (gAsg (eO uAdd (eC (.int 2)) (eCall F_law_take 2 (aCons (eVar 2) (aCons (eC (.int 11)) aNil)))) (nName 3))
    (gSeq (gAsg (eO uIx (eA uLst (aCons (eC (.int 4)) (aCons (eC (.int 8)) (aCons (eC (.int 16)) (aCons (eC (.int 32)) (aCons (eC (.int 64)) (aCons (eC (.int 128)) (aCons (eC (.int 256)) (aCons (eC (.int 512)) (aCons (eC (.int 1024)) (aCons (eC (.int 2048)) (aCons (eC (.int 4096)) aNil)))))))))))) (eO uSub (eVar 3) (eC (.int 2)))) (nName 4))
    (gFor (iSeq (eA uLst (aCons (eC (.int 0)) (aCons (eC (.int 1)) (aCons (eO uSub (eVar 4) (eC (.int 1))) (aCons (eO uDiv (eVar 4) (eC (.int 2))) (aCons (eCall F_law_take 2 (aCons (eVar 2) (aCons (eVar 4) aNil))) (aCons (eCall F_law_take 2 (aCons (eVar 2) (aCons (eVar 4) aNil))) aNil)))))))) (nName 5) B1_law))))
def G_law : DEnv → M Fl := (gSeq (gFor (iSeq (eO uAdd (eA uLst (aCons (eC (.int 0)) aNil)) (eSl uSl (eVar 0) fNo (fPart (eC (.int 63)))))) (nName 1) B2_law)
    (gRet (eAnd (eO uEq (eCall F_stretch_of 2 (aCons (eC (.int 1)) (aCons (eC (.int 4)) aNil))) (eA uTup (aCons (eC (.int 32768)) (aCons (eC (.int 49151)) aNil)))) (eO uEq (eCall F_stretch_of 2 (aCons (eC (.int 4095)) (aCons (eC (.int 4096)) aNil))) (eA uTup (aCons (eC (.int 65520)) (aCons (eC (.int 65535)) aNil)))))))
def F_law : List Val → M Val := fnF 6 G_law exitF
def rOk (r : Int × Int × Int) : Prop := 0 ≤ r.2.1 ∧ r.2.1 < 536870909
def rowOb (r : Int × Int × Int) : Ob := .lst [.int r.1, .int r.2.1, .int r.2.2]
def tkV (r : Int × Int × Int) (m : Int) : Int := if r.2.2 = 1 then r.1 % m else ((r.2.1 + 7919) * (r.2.1 + 104729) % 536870909 * 48271 + 11) / 64 % m
def tkS (r : Int × Int × Int) (m : Int) : Int × Int × Int := if r.2.2 = 1 then (r.1 / m, r.2.1, r.2.2) else (r.1, (r.2.1 + 7919) * (r.2.1 + 104729) % 536870909, r.2.2)
theorem take_eq {S : Store} {h : Nat} {r : Int × Int × Int} {m : Int} (e : S[h]? = some (rowOb r)) (hb : rOk r) (hm : 0 < m ∧ m < 1073741824 * 4) : F_law_take [.obj h, .pd (.int m)] S = some (.pd (.int (tkV r m)), S.set h (rowOb (tkS r m))) := by
  obtain ⟨a, b, c⟩ := r
  have hh := lt_of_get e
  unfold rowOb at e
  simp only [rOk] at hb
  have cm : CMul (b + 7919) (b + 104729) := .inl (by omega)
  have hd : m < 1073741824 ∨ m.natAbs.log2 < 9000 := .inr (log2_lt hm)
  have cm2 : CMul ((b + 7919) * (b + 104729) % 536870909) 48271 := .inr (by omega)
  rw [F_law_take, fnF_e]
  unfold G_law_take
  by_cases hc : c = 1
  · simp [startD, uIx_obj e, atI, ixN, hc, hm.1, hd, uSet_obj e, exitF_same, tkV, tkS, rowOb]
  · simp [startD, uIx_obj e, atI, ixN, hc, hm.1, hd, uSet_obj e, uIx_set hh, exitF_same, tkV, tkS, rowOb, cm, cm2]
theorem tk_rng {r : Int × Int × Int} {m : Int} (hm : 0 < m) : 0 ≤ tkV r m ∧ tkV r m < m := by
  unfold tkV
  split
  · exact ⟨Int.emod_nonneg _ (by omega), Int.emod_lt_of_pos _ hm⟩
  · exact ⟨Int.emod_nonneg _ (by omega), Int.emod_lt_of_pos _ hm⟩
@[simp] theorem tkS_ok {r : Int × Int × Int} {m : Int} (hb : rOk r) : rOk (tkS r m) := by
  unfold rOk at *
  unfold tkS
  split
  · exact hb
  · exact ⟨Int.emod_nonneg _ (by omega), Int.emod_lt_of_pos _ (by omega)⟩
def stS (c : Int) : Int × Int × Int := (c, (c % 536870909 * (c % 536870909) % 536870909 * (c % 536870909 + 7) + 13) % 536870909, if c ≥ 10 ^ 18 then 1 else 0)
theorem stream_eq {S : Store} {c : Int} (w : Wf S) : F_law_stream [.pd (.int c)] S = some (.obj S.length, S ++ [rowOb (stS c)]) := by
  have h1 := Int.emod_nonneg c (b := 536870909) (by omega)
  have h2 := Int.emod_lt_of_pos c (b := 536870909) (by omega)
  have h3 := Int.emod_lt_of_pos (c % 536870909 * (c % 536870909)) (b := 536870909) (by omega)
  have h4 := Int.emod_nonneg (c % 536870909 * (c % 536870909)) (b := 536870909) (by omega)
  have c1 : CMul (c % 536870909) (c % 536870909) := .inl (by omega)
  have c2 : CMul (c % 536870909 * (c % 536870909) % 536870909) (c % 536870909 + 7) := .inl (by omega)
  have c3 : CPow 10 18 := by decide
  rw [F_law_stream, fnF_e]
  unfold G_law_stream
  simp [startD, c1, c2, c3, uLstM, rowOb, stS]
  exact exitN_app w rfl (fun u z => by cases z)
@[simp] theorem stS_ok (c : Int) : rOk (stS c) := by
  unfold rOk stS
  exact ⟨Int.emod_nonneg _ (by omega), Int.emod_lt_of_pos _ (by omega)⟩
theorem take_set {S : Store} {h : Nat} {q : Int × Int × Int} {m : Int} (hh : h < S.length) (hq : rOk q) (hm : 0 < m ∧ m < 1073741824 * 4) : F_law_take [.obj h, .pd (.int m)] (S.set h (rowOb q)) = some (.pd (.int (tkV q m)), S.set h (rowOb (tkS q m))) := by
  rw [take_eq (List.getElem?_set_self hh) hq hm, List.set_set]
theorem take_app {S : Store} {h : Nat} {q : Int × Int × Int} {m : Int} (hn : S.length = h) (hq : rOk q) (hm : 0 < m ∧ m < 1073741824 * 4) : F_law_take [.obj h, .pd (.int m)] (S ++ [rowOb q]) = some (.pd (.int (tkV q m)), S ++ [rowOb (tkS q m)]) := by
  rw [take_eq (get_app hn) hq hm, set_app hn]
def pr (p : Int × Int) : PyData := .tuple [.int p.1, .int p.2]
theorem point_loop {S : Store} : ∀ (items : List Val) (m p : Int) (x : Option Val), ∃ y z, loopG (nName 2) (gSeq (gAsg (eO uAdd (eO uMul (eC (.int 2)) (eVar 1)) (eO uMod (eVar 0) (eC (.int 2)))) (nName 1)) (gAsg (eO uDiv (eVar 0) (eC (.int 2))) (nName 0))) items [some (.pd (.int m)), some (.pd (.int p)), x] S =
    some (.nx [some (.pd (.int z)), some (.pd (.int (revA items.length m p))), y], S)
  | [], m, p, x => ⟨x, m, rfl⟩
  | d :: r, m, p, x => by
    obtain ⟨y, z, h⟩ := point_loop r (m / 2) (2 * p + m % 2) (some d)
    have c1 : CMul 2 p := .inl (by decide)
    refine ⟨y, z, ?_⟩
    rw [loopG_cons]
    simp [turnG, c1]
    exact h
theorem point_eq {S : Store} {m : Nat} : F_point_of [.pd (.int (m : Int))] S = some (.pd (.int (rev 16 m : Nat)), S) := by
  obtain ⟨y, z, h⟩ := point_loop (S := S) (rgI 0 16) m 0 none
  rw [F_point_of, fnF_e]
  unfold G_point_of
  have hl : (rgI 0 16).length = 16 := by simp [rgI]
  have e := revA_eq 16 m 0
  simp at e
  rw [hl, e] at h
  simp [startD, h, exitF_same]
def bitsOf : Nat → Nat → List Nat
  | 0, _ => []
  | k + 1, m => (48 + m % 2) :: bitsOf k (m / 2)
theorem bitsOf_len : ∀ k m, (bitsOf k m).length = k
  | 0, _ => rfl
  | k + 1, m => by simp [bitsOf, bitsOf_len k]
theorem bitsOf_bit : ∀ k m c, c ∈ bitsOf k m → c = 48 ∨ c = 49
  | 0, _, c, h => by simp [bitsOf] at h
  | k + 1, m, c, h => by
    simp only [bitsOf, List.mem_cons] at h
    rcases h with h | h
    · omega
    · exact bitsOf_bit k _ c h
theorem bitNum_app (l r : List Nat) : Bn.bitNum (l ++ r) = r.foldl (fun n c => n * 2 + (c - 48)) (Bn.bitNum l) := by
  unfold Bn.bitNum
  rw [List.foldl_append]
theorem fold_bits : ∀ (k m a : Nat), (bitsOf k m).foldl (fun n c => n * 2 + (c - 48)) a = a * 2 ^ k + rev k m
  | 0, m, a => by simp [bitsOf, rev]
  | k + 1, m, a => by
    rw [bitsOf, List.foldl_cons, fold_bits k, rev, Nat.pow_succ]
    have : 48 + m % 2 - 48 = m % 2 := by omega
    rw [this, Nat.add_mul]
    have e : a * 2 * 2 ^ k = a * (2 ^ k * 2) := by rw [Nat.mul_assoc, Nat.mul_comm 2]
    rw [e]
    first | omega | (simp [Nat.add_assoc, Nat.mul_comm])
theorem bitNum_bits (k m : Nat) : Bn.bitNum (bitsOf k m) = rev k m := by
  have := fold_bits k m 0
  unfold Bn.bitNum
  simpa using this
def tx (l : List Nat) : Str := ⟨l.toArray⟩
theorem tx_app (l r : List Nat) : tx l ++ tx r = tx (l ++ r) := by
  show (⟨l.toArray ++ r.toArray⟩ : Str) = _
  simp [tx]
theorem tx_len (l : List Nat) : (tx l).length = l.length := by simp [tx, Str.length]
theorem ix01 {S : Store} {m : Nat} : uIx (.pd (.str "01")) (.pd (.int ((m : Int) % 2))) S = some (.pd (.str (tx [48 + m % 2])), S) := by
  have e : (("01" : Str)).cps.toList = [48, 49] := by decide +kernel
  have l : ("01" : Str).length = 2 := by decide +kernel
  simp only [uIx, e, l]
  have : m % 2 = 0 ∨ m % 2 = 1 := by omega
  rcases this with h | h
  · have z : (m : Int) % 2 = 0 := by omega
    rw [z, h]
    rfl
  · have z : (m : Int) % 2 = 1 := by omega
    rw [z, h]
    rfl
theorem uAdd_tx {S : Store} {l r : List Nat} (h : l.length + r.length ≤ 16777216) : uAdd (.pd (.str (tx l))) (.pd (.str (tx r))) S = some (.pd (.str (tx (l ++ r))), S) := by
  show (if (tx l).length + (tx r).length ≤ 16777216 then some (Val.pd (.str (tx l ++ tx r)), S) else none) = _
  rw [tx_len, tx_len, if_pos h, tx_app]
theorem bits_loop {S : Store} : ∀ (items : List Val) (m : Nat) (l : List Nat) (x : Option Val), l.length + items.length ≤ 100 → ∃ y z, loopG (nName 2) (gSeq (gAsg (eO uAdd (eVar 1) (eO uIx (eC (.str "01")) (eO uMod (eVar 0) (eC (.int 2))))) (nName 1)) (gAsg (eO uDiv (eVar 0) (eC (.int 2))) (nName 0))) items [some (.pd (.int m)), some (.pd (.str (tx l))), x] S =
    some (.nx [some (.pd (.int z)), some (.pd (.str (tx (l ++ bitsOf items.length m)))), y], S)
  | [], m, l, x, _ => ⟨x, m, by simp [bitsOf]⟩
  | d :: r, m, l, x, h => by
    simp only [List.length_cons] at h
    obtain ⟨y, z, e⟩ := bits_loop r (m / 2) (l ++ [48 + m % 2]) (some d) (by simp; omega)
    refine ⟨y, z, ?_⟩
    rw [loopG_cons]
    have a := uAdd_tx (S := S) (l := l) (r := [48 + m % 2]) (by simp; omega)
    simp [turnG, ix01, a, bitsOf]
    simpa using e
theorem int2_bits {S : Store} {k m : Nat} (h0 : 0 < k) (h : k ≤ 640) : uInt2 [.pd (.str (tx (bitsOf k m))), .pd (.int 2)] S = some (.pd (.int (rev k m : Nat)), S) := by
  have l : (tx (bitsOf k m)).cps.toList = bitsOf k m := by simp [tx]
  refine Eq.trans (if_pos ⟨by rw [l]; intro z; have := bitsOf_len k m; rw [z] at this; simp at this; omega, by rw [tx_len, bitsOf_len]; exact h, by
    rw [l, List.all_eq_true]
    intro c hc
    rcases bitsOf_bit k m c hc with rfl | rfl <;> rfl⟩) ?_
  rw [l, bitNum_bits]
theorem empty_tx : ("" : Str) = tx [] := by decide +kernel
theorem stretch_eq {S : Store} {m : Nat} {z : Int} (hz : 0 < z ∧ z < 1073741824) : F_stretch_of [.pd (.int m), .pd (.int z)] S = some (.pd (pr ((rev 16 m : Nat), (rev 16 m : Nat) + 65536 / z - 1)), S) := by
  have d : (z < 1073741824 ∨ z.natAbs.log2 < 9000) := .inl hz.2
  rw [F_stretch_of, fnF_e]
  unfold G_stretch_of
  simp [startD, point_eq, hz.1, d, uTup, exitF_same, pr]
theorem fold_zero : ∀ (k a : Nat), (List.replicate k 48).foldl (fun n c => n * 2 + (c - 48)) a = a * 2 ^ k
  | 0, a => by simp
  | k + 1, a => by
    rw [List.replicate_succ, List.foldl_cons, fold_zero k, Nat.pow_succ]
    rw [Nat.add_zero, Nat.mul_assoc, Nat.mul_comm 2]
theorem fold_one : ∀ (k a : Nat), (List.replicate k 49).foldl (fun n c => n * 2 + (c - 48)) a = a * 2 ^ k + (2 ^ k - 1)
  | 0, a => by simp
  | k + 1, a => by
    rw [List.replicate_succ, List.foldl_cons, fold_one k, Nat.pow_succ]
    have h : 0 < 2 ^ k := Nat.two_pow_pos k
    have e : (a * 2 + (49 - 48)) * 2 ^ k = a * (2 ^ k * 2) + 2 ^ k := by
      rw [Nat.add_mul, Nat.mul_assoc, Nat.mul_comm 2]
      simp
    rw [e]
    omega
theorem repS_tx (c n : Nat) : repS (tx [c]) n = tx (List.replicate n c) := by
  unfold repS tx
  congr 1
  simp
theorem zero_tx : ("0" : Str) = tx [48] := by decide +kernel
theorem one_tx : ("1" : Str) = tx [49] := by decide +kernel
theorem int2_app {S : Store} {k m n c : Nat} (h0 : 0 < k) (h : k + n ≤ 640) (hc : c = 48 ∨ c = 49) : uInt2 [.pd (.str (tx (bitsOf k m ++ List.replicate n c))), .pd (.int 2)] S = some (.pd (.int ((List.replicate n c).foldl (fun n c => n * 2 + (c - 48)) (rev k m) : Nat)), S) := by
  have l : (tx (bitsOf k m ++ List.replicate n c)).cps.toList = bitsOf k m ++ List.replicate n c := by simp [tx]
  have bl := bitsOf_len k m
  refine Eq.trans (if_pos ⟨by
    rw [l]
    intro z
    have := congrArg List.length z
    simp [bl] at this
    omega, by rw [tx_len, List.length_append, bl, List.length_replicate]; exact h, by
    rw [l, List.all_eq_true]
    intro d hd
    rcases List.mem_append.mp hd with hd | hd
    · rcases bitsOf_bit k m d hd with rfl | rfl <;> rfl
    · obtain rfl := List.eq_of_mem_replicate hd
      rcases hc with rfl | rfl <;> rfl⟩) ?_
  rw [l, bitNum_app, bitNum_bits]
theorem rev_zero : ∀ k, rev k 0 = 0
  | 0 => rfl
  | k + 1 => by simp [rev, rev_zero k]
theorem bits_loop3 {S : Store} : ∀ (items : List Val) (m : Nat) (l : List Nat) (x1 x : Option Val), l.length + items.length ≤ 100 → ∃ y z, loopG (nName 3) B1_law_due items [some (.pd (.int m)), x1, some (.pd (.str (tx l))), x] S =
    some (.nx [some (.pd (.int z)), x1, some (.pd (.str (tx (l ++ bitsOf items.length m)))), y], S)
  | [], m, l, x1, x, _ => ⟨x, m, by simp [bitsOf]⟩
  | d :: r, m, l, x1, x, h => by
    simp only [List.length_cons] at h
    obtain ⟨y, z, e⟩ := bits_loop3 r (m / 2) (l ++ [48 + m % 2]) x1 (some d) (by simp; omega)
    refine ⟨y, z, ?_⟩
    rw [loopG_cons]
    have a := uAdd_tx (S := S) (l := l) (r := [48 + m % 2]) (by simp; omega)
    unfold B1_law_due
    simp [turnG, ix01, a, bitsOf]
    unfold B1_law_due at e
    simpa using e
theorem due_eq {S : Store} {m p : Nat} (h0 : 0 < p) (h1 : p ≤ 16) : F_law_due [.pd (.int m), .pd (.int p)] S = some (.pd (pr ((rev p m * 2 ^ (16 - p) : Nat), (rev p m * 2 ^ (16 - p) + (2 ^ (16 - p) - 1) : Nat))), S) := by
  have hl : (rgI 0 p).length = p := by simp [rgI]
  obtain ⟨y, z, e⟩ := bits_loop3 (S := S) (rgI 0 p) m [] (some (.pd (.int p))) none (by simp [hl]; omega)
  rw [hl, List.nil_append] at e
  have q : (16 : Int) - p = ((16 - p : Nat) : Int) := by omega
  have bl := bitsOf_len p m
  have a0 := uAdd_tx (S := S) (l := bitsOf p m) (r := List.replicate (16 - p) 48) (by simp [bl]; omega)
  have a1 := uAdd_tx (S := S) (l := bitsOf p m) (r := List.replicate (16 - p) 49) (by simp [bl]; omega)
  have i0 := int2_app (S := S) (k := p) (m := m) (n := 16 - p) (c := 48) h0 (by omega) (.inl rfl)
  have i1 := int2_app (S := S) (k := p) (m := m) (n := 16 - p) (c := 49) h0 (by omega) (.inr rfl)
  rw [fold_zero] at i0
  rw [fold_one] at i1
  have u : ∀ c, uMul (.pd (.str (tx [c]))) (.pd (.int ((16 - p : Nat) : Int))) S = some (.pd (.str (tx (List.replicate (16 - p) c))), S) := fun c => by
    refine Eq.trans (if_pos ⟨by omega, by omega, by rw [tx_len]; simp⟩) ?_
    rw [Int.toNat_natCast, repS_tx]
  have hr : (p : Int) < 4611686018427387904 := by omega
  have hr' : (-4611686018427387904 : Int) ≤ p := by omega
  rw [F_law_due, fnF_e]
  unfold G_law_due
  rw [empty_tx, zero_tx, one_tx]
  simp -implicitDefEqProofs [startD, hr, hr', e, q, u, a0, a1, i0, i1, uTup, exitF_same, pr]
theorem same_eq {S : Store} {a b : Int} : F_law_same [.pd (pr (a, b)), .pd (pr (a, b))] S = some (.pd (.bool true), S) := by
  have r : rgI 0 2 = [.pd (.int 0), .pd (.int 1)] := rfl
  have e := uEq_self (S := S) (x := .list []) (n := 1) rfl (by omega)
  have u0 : ∀ S : Store, uIx (.pd (.tuple [.int a, .int b])) (.pd (.int 0)) S = some (.pd (.int a), S) := fun S => rfl
  have u1 : ∀ S : Store, uIx (.pd (.tuple [.int a, .int b])) (.pd (.int 1)) S = some (.pd (.int b), S) := fun S => rfl
  rw [F_law_same, fnF_e]
  unfold G_law_same pr
  simp [startD, r, loopC_cons, u0, u1, e, exitF_same]
theorem turn1 {S : Store} {m p : Nat} {x0 x1 x2 x5 : Option Val} (h0 : 2 ≤ p) (h1 : p ≤ 12) (hm : m < 2 ^ p) :
    turnG (nName 5) B1_law (.pd (.int m)) [x0, x1, x2, some (.pd (.int p)), some (.pd (.int ((2 ^ p : Nat) : Int))), x5] S = some (.nx [x0, x1, x2, some (.pd (.int p)), some (.pd (.int ((2 ^ p : Nat) : Int))), some (.pd (.int m))], S) := by
  have p0 : 0 < 2 ^ p := Nat.two_pow_pos p
  have p1 : 2 ^ p ≤ 2 ^ 12 := Nat.pow_le_pow_right (by omega) h1
  have s := stretch_eq (S := S) (m := m) (z := ((2 ^ p : Nat) : Int)) (by omega)
  have d := due_eq (S := S) (m := m) (p := p) (by omega) (by omega)
  have e1 : rev 16 m = rev p m * 2 ^ (16 - p) := by
    have := rev_add p (16 - p) m
    rw [show p + (16 - p) = 16 by omega, Nat.div_eq_of_lt hm, rev_zero, Nat.add_zero] at this
    exact this
  have e2 : (65536 : Int) / ((2 ^ p : Nat) : Int) = ((2 ^ (16 - p) : Nat) : Int) := by
    have : (65536 : Nat) / 2 ^ p = 2 ^ (16 - p) := by
      rw [show (65536 : Nat) = 2 ^ 16 by decide, Nat.pow_div (by omega) (by omega)]
    rw [← this]
    rfl
  have p2 : 0 < 2 ^ (16 - p) := Nat.two_pow_pos _
  rw [e1, e2] at s
  have e3 : ((rev p m * 2 ^ (16 - p) : Nat) : Int) + ((2 ^ (16 - p) : Nat) : Int) - 1 = ((rev p m * 2 ^ (16 - p) + (2 ^ (16 - p) - 1) : Nat) : Int) := by omega
  rw [e3] at s
  generalize (2 ^ p : Nat) = P at *
  generalize (rev p m * 2 ^ (16 - p) : Nat) = A at *
  generalize (A + (2 ^ (16 - p) - 1) : Nat) = B at *
  unfold turnG B1_law
  simp -implicitDefEqProofs [s, d, same_eq]
theorem six_loop {S : Store} {p : Nat} {x0 x1 x2 : Option Val} (h0 : 2 ≤ p) (h1 : p ≤ 12) : ∀ (ds : List Int) (x5 : Option Val), (∀ d ∈ ds, 0 ≤ d ∧ d < ((2 ^ p : Nat) : Int)) → ∃ y5, loopG (nName 5) B1_law (ds.map fun d => .pd (.int d)) [x0, x1, x2, some (.pd (.int p)), some (.pd (.int ((2 ^ p : Nat) : Int))), x5] S = some (.nx [x0, x1, x2, some (.pd (.int p)), some (.pd (.int ((2 ^ p : Nat) : Int))), y5], S)
  | [], x5, _ => ⟨x5, rfl⟩
  | d :: r, x5, h => by
    obtain ⟨n, rfl⟩ : ∃ n : Nat, d = n := ⟨d.toNat, by have := h d (List.mem_cons_self ..); omega⟩
    have hn := h n (List.mem_cons_self ..)
    obtain ⟨y5, e⟩ := six_loop h0 h1 r (some (.pd (.int n))) fun d hd => h d (List.mem_cons_of_mem _ hd)
    refine ⟨y5, ?_⟩
    rw [List.map_cons, loopG_cons, turn1 h0 h1 (by omega)]
    exact e
theorem size_pick {i : Int} (h0 : 0 ≤ i) (h1 : i < 11) : ∃ q : Nat, q ≤ 10 ∧ i = q ∧ ∀ S : Store, uIx (.pd (.list [.int 4, .int 8, .int 16, .int 32, .int 64, .int 128, .int 256, .int 512, .int 1024, .int 2048, .int 4096])) (.pd (.int i)) S = some (.pd (.int ((2 ^ (q + 2) : Nat) : Int)), S) := by
  obtain ⟨n, rfl⟩ : ∃ n : Nat, i = n := ⟨i.toNat, by omega⟩
  refine ⟨n, by omega, rfl, fun S => ?_⟩
  have : n < 11 := by omega
  match n, this with
  | 0, _ => rfl
  | 1, _ => rfl
  | 2, _ => rfl
  | 3, _ => rfl
  | 4, _ => rfl
  | 5, _ => rfl
  | 6, _ => rfl
  | 7, _ => rfl
  | 8, _ => rfl
  | 9, _ => rfl
  | 10, _ => rfl
theorem turn2 {S : Store} {c : Int} {x1 x2 x3 x4 x5 : Option Val} (w : Wf S) :
    ∃ (y1 y2 y3 y4 y5 : Option Val) (o : Ob), turnG (nName 1) B2_law (.pd (.int c)) [some (.obj 0), x1, x2, x3, x4, x5] S = some (.nx [some (.obj 0), y1, y2, y3, y4, y5], S ++ [o]) ∧ Wf (S ++ [o]) := by
  have o1 := stS_ok c
  generalize hr : stS c = r0 at *
  have t1 := take_app (S := S) (h := S.length) (m := 11) rfl o1 (by omega)
  obtain ⟨a0, a1⟩ := tk_rng (r := r0) (m := 11) (by omega)
  obtain ⟨q, hq, eq, pz⟩ := size_pick a0 a1
  have o2 : rOk (tkS r0 11) := tkS_ok o1
  generalize tkS r0 11 = r1 at *
  have p0 : 0 < 2 ^ q := Nat.two_pow_pos q
  have p1 : 2 ^ q ≤ 2 ^ 10 := Nat.pow_le_pow_right (by omega) hq
  have p2 : 2 ^ (q + 2) = 4 * 2 ^ q := by rw [Nat.pow_add, Nat.mul_comm]
  have hZ : 0 < (((2 ^ (q + 2) : Nat)) : Int) ∧ (((2 ^ (q + 2) : Nat)) : Int) ≤ 4096 := by omega
  have t2 := take_app (S := S) (h := S.length) (m := ((2 ^ (q + 2) : Nat) : Int)) rfl o2 (by omega)
  obtain ⟨b0, b1⟩ := tk_rng (r := r1) (m := ((2 ^ (q + 2) : Nat) : Int)) (by omega)
  have o3 : rOk (tkS r1 ((2 ^ (q + 2) : Nat) : Int)) := tkS_ok o2
  generalize tkS r1 ((2 ^ (q + 2) : Nat) : Int) = r2 at *
  have t3 := take_app (S := S) (h := S.length) (m := ((2 ^ (q + 2) : Nat) : Int)) rfl o3 (by omega)
  obtain ⟨g0, g1⟩ := tk_rng (r := r2) (m := ((2 ^ (q + 2) : Nat) : Int)) (by omega)
  generalize tkV r1 ((2 ^ (q + 2) : Nat) : Int) = d1 at *
  generalize tkV r2 ((2 ^ (q + 2) : Nat) : Int) = d2 at *
  obtain ⟨y5, e⟩ := six_loop (S := S ++ [rowOb (tkS r2 ((2 ^ (q + 2) : Nat) : Int))]) (p := q + 2) (x0 := some (.obj 0)) (x1 := some (.pd (.int c))) (x2 := some (.obj S.length)) (by omega) (by omega) [0, 1, ((2 ^ (q + 2) : Nat) : Int) - 1, ((2 ^ (q + 2) : Nat) : Int) / 2, d1, d2] x5 (by
    intro d hd
    simp only [List.mem_cons, List.not_mem_nil, or_false] at hd
    omega)
  refine ⟨some (.pd (.int c)), some (.obj S.length), some (.pd (.int (q + 2 : Nat))), some (.pd (.int ((2 ^ (q + 2) : Nat) : Int))), y5, rowOb (tkS r2 ((2 ^ (q + 2) : Nat) : Int)), ?_, w.app rfl⟩
  unfold turnG B2_law
  have e0 : (2 : Int) + q = ((q + 2 : Nat) : Int) := by omega
  have e1 : ((q + 2 : Nat) : Int) - 2 = q := by omega
  rw [eq] at t1 pz
  have st := stream_eq (c := c) w
  rw [hr] at st
  generalize hP : (2 ^ (q + 2) : Nat) = P at *
  generalize hN : (q + 2 : Nat) = N at *
  simp only [List.map_cons, List.map_nil] at e
  simp -implicitDefEqProofs [st, t1, t2, t3, uLst, pz, e0, e1]
  rw [e]
  rfl
theorem law_true : ∀ ns : List Int, ns.length ≤ 63 → ∃ S', F_law [.obj 0] [.scr (ns.map PyData.int)] = some (.pd (.bool true), S') := by
  refine law_cells (n := 6) (k := 63) (kk := 63) (fun ns ρ S => Wf S ∧ (∃ T, S = [.scr (ns.map PyData.int)] ++ T) ∧ ∃ x1 x2 x3 x4 x5 : Option Val, ρ = [some (.obj 0), x1, x2, x3, x4, x5]) rfl (by omega) rfl (fun ns => ⟨fun o ho => by simp at ho; subst ho; rfl, ⟨[], rfl⟩, none, none, none, none, none, rfl⟩) (fun ns c ρ S i => ?_) (fun ns ρ S i => ?_)
  · obtain ⟨w, ⟨T, hT⟩, x1, x2, x3, x4, x5, rfl⟩ := i
    obtain ⟨y1, y2, y3, y4, y5, o, e, w'⟩ := turn2 (c := c) (x1 := x1) (x2 := x2) (x3 := x3) (x4 := x4) (x5 := x5) w
    exact ⟨_, _, e, w', ⟨T ++ [o], by rw [hT, List.append_assoc]⟩, y1, y2, y3, y4, y5, rfl⟩
  · obtain ⟨w, hT, x1, x2, x3, x4, x5, rfl⟩ := i
    refine ⟨?_, hT⟩
    have s1 := stretch_eq (S := S) (m := 1) (z := 4) (by omega)
    have s2 := stretch_eq (S := S) (m := 4095) (z := 4096) (by omega)
    have r1 : rev 16 1 = 32768 := by decide
    have r2 : rev 16 4095 = 65520 := by decide
    rw [r1] at s1
    rw [r2] at s2
    simp [pr] at s1 s2
    have e1 := uEq_self (S := S) (x := .tuple [.int 32768, .int 49151]) (n := 1) rfl (by omega)
    have e2 := uEq_self (S := S) (x := .tuple [.int 65520, .int 65535]) (n := 1) rfl (by omega)
    simp [s1, s2, e1, e2, uTup]
def d_point_of : He.DefD := ⟨("point_of", none), "point_of", "point_of", defArgs (top 3), defBody (top 3), defScope (top 3), [], []⟩
def d_law_stream : He.DefD := ⟨("_law_stream", none), "_law_stream", "_law_stream", defArgs (top 6), defBody (top 6), defScope (top 6), [], []⟩
def d_law_take : He.DefD := ⟨("_law_take", none), "_law_take", "_law_take", defArgs (top 7), defBody (top 7), defScope (top 7), [], []⟩
def d_law_due : He.DefD := ⟨("_law_due", none), "_law_due", "_law_due", defArgs (top 10), defBody (top 10), defScope (top 10), [], []⟩
def d_law_same : He.DefD := ⟨("_law_same", none), "_law_same", "_law_same", defArgs (top 11), defBody (top 11), defScope (top 11), [], []⟩
def d_stretch_of : He.DefD := ⟨("stretch_of", none), "stretch_of", "stretch_of", defArgs (top 4), defBody (top 4), defScope (top 4), [], []⟩
def d_law : He.DefD := ⟨("law", none), "law", "law", defArgs (top 12), defBody (top 12), defScope (top 12), [], []⟩
def fn : List He.DefD := [d_point_of, d_law_stream, d_law_take, d_law_due, d_law_same, d_stretch_of, d_law]
def fa : List He.Fa := [.free "int", .free "range", .free "isinstance", .free "bool", .free "len", .free "tuple", .int "MARKS" 65536, .int "BITS" 16, .glo "point_of", .glo "_law_stream", .glo "_law_take", .glo "_law_due", .glo "_law_same", .glo "stretch_of", .glo "law"]
def cl (K : PySem.W.Frag) : Nat → Addr := fun n => match n with
  | _ => 0
theorem sc_point_of : FnScope ["mark", "point", "turn"] ["mark"] (defScope (top 3)) := ⟨rfl, rfl, rfl, by decide +kernel, rfl, by decide +kernel, by decide +kernel⟩
theorem sc_law_stream : FnScope ["cell", "low"] ["cell"] (defScope (top 6)) := ⟨rfl, rfl, rfl, by decide +kernel, rfl, by decide +kernel, by decide +kernel⟩
theorem sc_law_take : FnScope ["row", "many", "got"] ["row", "many"] (defScope (top 7)) := ⟨rfl, rfl, rfl, by decide +kernel, rfl, by decide +kernel, by decide +kernel⟩
theorem sc_law_due : FnScope ["place", "power", "bits", "k"] ["place", "power"] (defScope (top 10)) := ⟨rfl, rfl, rfl, by decide +kernel, rfl, by decide +kernel, by decide +kernel⟩
theorem sc_law_same : FnScope ["found", "due", "k"] ["found", "due"] (defScope (top 11)) := ⟨rfl, rfl, rfl, by decide +kernel, rfl, by decide +kernel, by decide +kernel⟩
theorem sc_stretch_of : FnScope ["place", "size", "first"] ["place", "size"] (defScope (top 4)) := ⟨rfl, rfl, rfl, by decide +kernel, rfl, by decide +kernel, by decide +kernel⟩
theorem sc_law : FnScope ["script", "cell", "row", "power", "size", "place"] ["script"] (defScope (top 12)) := ⟨rfl, rfl, rfl, by decide +kernel, rfl, by decide +kernel, by decide +kernel⟩
section
variable {P : Program} {w : World} {K : PySem.W.Frag} {mg : Str → Option Value} {base h : Heap}
theorem ok_point_of (X : K.In h) (G : h.Ns mainGlobals mg) (c : He.SaysD fa fn K) {fd : FuncData} (F : FunD K d_point_of.name d_point_of.qual d_point_of.params d_point_of.body d_point_of.scope [] [] (He.fAd K d_point_of.at_) fd) : FnOk P w K mg base CX0 1 (He.fAd K d_point_of.at_) fd ["mark"] (spOf K (cl K) 1 F_point_of) := by
  refine fn_okD F sc_point_of sim_exitF (fun cdv A outer s H E hr => ?_)
  exact (ds_cons (ds_set 1 sc_point_of.nd rfl (by first | exact Or.inl rfl | exact Or.inr rfl) de_int)
    (ds_cons (ds_for PassesOwn.never rfl (di_rng1 (by rfl) (He.free_ok X G (c.fact 1 rfl)) (de_globI (by rfl) (He.int_ok X G (c.fact 7 rfl)).choose_spec)) (dg_name 2 sc_point_of.nd rfl (by first | exact Or.inl rfl | exact Or.inr rfl)) (ds_cons (ds_set 1 sc_point_of.nd rfl (by first | exact Or.inl rfl | exact Or.inr rfl) (de_op op_addA so_add (de_op op_mulA so_mul de_int (de_var 1)) (de_op op_mod so_mod (de_var 0) de_int)))
    (ds_one (ds_set 0 sc_point_of.nd rfl (by first | exact Or.inl rfl | exact Or.inr rfl) (de_op op_divA so_div (de_var 0) de_int)))) lk_rng1)
    (ds_one (ds_ret (de_var 1)))))
theorem bd_point_of {fd : FuncData} (F : FunD K d_point_of.name d_point_of.qual d_point_of.params d_point_of.body d_point_of.scope [] [] (He.fAd K d_point_of.at_) fd) : Binds K fd ["mark"] [] := FunD.bindsN F (fun _ _ _ _ _ _ us hl => match us, hl with | [_], _ => rfl)
theorem cal_point_of (X : K.In h) (G : h.Ns mainGlobals mg) (c : He.SaysD fa fn K) : CalD P w K mg base (cl K) 1 "point_of" 1 F_point_of := by
  obtain ⟨fd, F⟩ := c.def_ 0 (d := d_point_of) rfl
  exact ⟨_, fd, _, rfl, (ok_point_of (P := P) (w := w) (base := base) X G c F), He.glo_ok X G (c.fact 8 rfl), F.kp, bd_point_of F⟩
theorem ok_law_stream (X : K.In h) (G : h.Ns mainGlobals mg) (c : He.SaysD fa fn K) {fd : FuncData} (F : FunD K d_law_stream.name d_law_stream.qual d_law_stream.params d_law_stream.body d_law_stream.scope [] [] (He.fAd K d_law_stream.at_) fd) : FnOk P w K mg base CX0 1 (He.fAd K d_law_stream.at_) fd ["cell"] (spOf K (cl K) 1 F_law_stream) := by
  refine fn_okD F sc_law_stream sim_exitN (fun cdv A outer s H E hr => ?_)
  exact (ds_cons (ds_set 1 sc_law_stream.nd rfl (by first | exact Or.inl rfl | exact Or.inr rfl) (de_op op_mod so_mod (de_var 0) de_int))
    (ds_cons (ds_set 1 sc_law_stream.nd rfl (by first | exact Or.inl rfl | exact Or.inr rfl) (de_op op_mod so_mod (de_op op_addA so_add (de_op op_mulA so_mul (de_op op_mod so_mod (de_op op_mulA so_mul (de_var 1) (de_var 1)) de_int) (de_op op_addA so_add (de_var 1) de_int)) de_int) de_int))
    (ds_one (ds_ret (de_lstM (da_cons (de_var 0) (da_cons (de_var 1) (da_cons (de_callTy call_int1 sc_int (by rfl) (He.free_ok X G (c.fact 0 rfl)) (by decide +kernel) (da_cons (de_cmp op_ge so_lt (de_var 0) (de_op op_pow so_pow de_int de_int)) da_nil)) da_nil))))))))
theorem bd_law_stream {fd : FuncData} (F : FunD K d_law_stream.name d_law_stream.qual d_law_stream.params d_law_stream.body d_law_stream.scope [] [] (He.fAd K d_law_stream.at_) fd) : Binds K fd ["cell"] [] := FunD.bindsN F (fun _ _ _ _ _ _ us hl => match us, hl with | [_], _ => rfl)
theorem cal_law_stream (X : K.In h) (G : h.Ns mainGlobals mg) (c : He.SaysD fa fn K) : CalD P w K mg base (cl K) 1 "_law_stream" 1 F_law_stream := by
  obtain ⟨fd, F⟩ := c.def_ 1 (d := d_law_stream) rfl
  exact ⟨_, fd, _, rfl, (ok_law_stream (P := P) (w := w) (base := base) X G c F), He.glo_ok X G (c.fact 9 rfl), F.kp, bd_law_stream F⟩
theorem ok_law_take (X : K.In h) (G : h.Ns mainGlobals mg) (c : He.SaysD fa fn K) {fd : FuncData} (F : FunD K d_law_take.name d_law_take.qual d_law_take.params d_law_take.body d_law_take.scope [] [] (He.fAd K d_law_take.at_) fd) : FnOk P w K mg base CX0 1 (He.fAd K d_law_take.at_) fd ["row", "many"] (spOf K (cl K) 2 F_law_take) := by
  refine fn_okD F sc_law_take sim_exitF (fun cdv A outer s H E hr => ?_)
  exact (ds_cons (ds_if (dt_cmp (op_eqD hr.units) so_eq (de_ix (de_var 0) de_int) de_int) (ds_cons (ds_set 2 sc_law_take.nd rfl (by first | exact Or.inl rfl | exact Or.inr rfl) (de_op op_mod so_mod (de_ix (de_var 0) de_int) (de_var 1)))
    (ds_cons (ds_asg (de_op op_divA so_div (de_ix (de_var 0) de_int) (de_var 1)) (dg_sub set_list ss_list (de_var 0) de_int))
    (ds_one (ds_ret (de_var 2))))) ds_nil)
    (ds_cons (ds_asg (de_op op_mod so_mod (de_op op_mulA so_mul (de_op op_addA so_add (de_ix (de_var 0) de_int) de_int) (de_op op_addA so_add (de_ix (de_var 0) de_int) de_int)) de_int) (dg_sub set_list ss_list (de_var 0) de_int))
    (ds_one (ds_ret (de_op op_mod so_mod (de_op op_divA so_div (de_op op_addA so_add (de_op op_mulA so_mul (de_ix (de_var 0) de_int) de_int) de_int) de_int) (de_var 1))))))
theorem bd_law_take {fd : FuncData} (F : FunD K d_law_take.name d_law_take.qual d_law_take.params d_law_take.body d_law_take.scope [] [] (He.fAd K d_law_take.at_) fd) : Binds K fd ["row", "many"] [] := FunD.bindsN F (fun _ _ _ _ _ _ us hl => match us, hl with | [_, _], _ => rfl)
theorem cal_law_take (X : K.In h) (G : h.Ns mainGlobals mg) (c : He.SaysD fa fn K) : CalD P w K mg base (cl K) 1 "_law_take" 2 F_law_take := by
  obtain ⟨fd, F⟩ := c.def_ 2 (d := d_law_take) rfl
  exact ⟨_, fd, _, rfl, (ok_law_take (P := P) (w := w) (base := base) X G c F), He.glo_ok X G (c.fact 10 rfl), F.kp, bd_law_take F⟩
theorem ok_law_due (X : K.In h) (G : h.Ns mainGlobals mg) (c : He.SaysD fa fn K) {fd : FuncData} (F : FunD K d_law_due.name d_law_due.qual d_law_due.params d_law_due.body d_law_due.scope [] [] (He.fAd K d_law_due.at_) fd) : FnOk P w K mg base CX0 1 (He.fAd K d_law_due.at_) fd ["place", "power"] (spOf K (cl K) 2 F_law_due) := by
  refine fn_okD F sc_law_due sim_exitF (fun cdv A outer s H E hr => ?_)
  exact (ds_cons (ds_set 2 sc_law_due.nd rfl (by first | exact Or.inl rfl | exact Or.inr rfl) de_str)
    (ds_cons (ds_for PassesOwn.never rfl (di_rng1 (by rfl) (He.free_ok X G (c.fact 1 rfl)) (de_var 1)) (dg_name 3 sc_law_due.nd rfl (by first | exact Or.inl rfl | exact Or.inr rfl)) (ds_cons (ds_set 2 sc_law_due.nd rfl (by first | exact Or.inl rfl | exact Or.inr rfl) (de_op op_addA so_add (de_var 2) (de_ix de_str (de_op op_mod so_mod (de_var 0) de_int))))
    (ds_one (ds_set 0 sc_law_due.nd rfl (by first | exact Or.inl rfl | exact Or.inr rfl) (de_op op_divA so_div (de_var 0) de_int)))) lk_rng1)
    (ds_one (ds_ret (de_tup (da_cons (de_callTy call_int2 sc_int2 (by rfl) (He.free_ok X G (c.fact 0 rfl)) (by decide +kernel) (da_cons (de_op op_addA so_add (de_var 2) (de_op op_mulA so_mul de_str (de_op op_sub so_sub de_int (de_var 1)))) (da_cons de_int da_nil))) (da_cons (de_callTy call_int2 sc_int2 (by rfl) (He.free_ok X G (c.fact 0 rfl)) (by decide +kernel) (da_cons (de_op op_addA so_add (de_var 2) (de_op op_mulA so_mul de_str (de_op op_sub so_sub de_int (de_var 1)))) (da_cons de_int da_nil))) da_nil)))))))
theorem bd_law_due {fd : FuncData} (F : FunD K d_law_due.name d_law_due.qual d_law_due.params d_law_due.body d_law_due.scope [] [] (He.fAd K d_law_due.at_) fd) : Binds K fd ["place", "power"] [] := FunD.bindsN F (fun _ _ _ _ _ _ us hl => match us, hl with | [_, _], _ => rfl)
theorem cal_law_due (X : K.In h) (G : h.Ns mainGlobals mg) (c : He.SaysD fa fn K) : CalD P w K mg base (cl K) 1 "_law_due" 2 F_law_due := by
  obtain ⟨fd, F⟩ := c.def_ 3 (d := d_law_due) rfl
  exact ⟨_, fd, _, rfl, (ok_law_due (P := P) (w := w) (base := base) X G c F), He.glo_ok X G (c.fact 11 rfl), F.kp, bd_law_due F⟩
theorem ok_law_same (X : K.In h) (G : h.Ns mainGlobals mg) (c : He.SaysD fa fn K) {fd : FuncData} (F : FunD K d_law_same.name d_law_same.qual d_law_same.params d_law_same.body d_law_same.scope [] [] (He.fAd K d_law_same.at_) fd) : FnOk P w K mg base CX0 1 (He.fAd K d_law_same.at_) fd ["found", "due"] (spOf K (cl K) 2 F_law_same) := by
  refine fn_okD F sc_law_same sim_exitF (fun cdv A outer s H E hr => ?_)
  exact (ds_cons (ds_if (DW.dt (dw_or (dt_not (dt_val (de_isi (by rfl) (He.free_ok X G (c.fact 2 rfl)) (by rfl) (He.free_ok X G (c.fact 5 rfl)) (de_var 0) (by decide +kernel)))) (dw_or1 (dt_cmp (op_neD hr.units) so_ne (de_callB cr_lenA sc_len (by rfl) (He.free_ok X G (c.fact 4 rfl)) boot_len (da_cons (de_var 0) da_nil)) de_int)))) (ds_one (ds_ret de_bl)) ds_nil)
    (ds_one (ds_ret (de_cmp (op_eqD hr.units) so_eq (de_lc (own := [("k", 2)]) rfl sc_law_same.nd (di_rng1 (by rfl) (He.free_ok X G (c.fact 1 rfl)) de_int) (blkOk_by (own := [("k", 2)]) (N := ["found", "due", "k"]) (sc := defScope (top 11)) (by decide +kernel)) (fun _ _ _ _ _ => (dc_name 2 sc_law_same.nd rfl (by first | exact Or.inl rfl | exact Or.inr rfl))) (fun _ _ _ _ _ => (dts_one (DW.dt (dw_or (dt_val (de_isi (by rfl) (He.free_ok X G (c.fact 2 rfl)) (by rfl) (He.free_ok X G (c.fact 3 rfl)) (de_ix (de_var 0) (de_var 2)) (by decide +kernel))) (dw_or1 (dt_cmp (op_neD hr.units) so_ne (de_ix (de_var 0) (de_var 2)) (de_ix (de_var 1) (de_var 2)))))))) (fun _ _ _ _ _ => (de_var 2)) lk_rng1) (de_lst da_nil)))))
theorem bd_law_same {fd : FuncData} (F : FunD K d_law_same.name d_law_same.qual d_law_same.params d_law_same.body d_law_same.scope [] [] (He.fAd K d_law_same.at_) fd) : Binds K fd ["found", "due"] [] := FunD.bindsN F (fun _ _ _ _ _ _ us hl => match us, hl with | [_, _], _ => rfl)
theorem cal_law_same (X : K.In h) (G : h.Ns mainGlobals mg) (c : He.SaysD fa fn K) : CalD P w K mg base (cl K) 1 "_law_same" 2 F_law_same := by
  obtain ⟨fd, F⟩ := c.def_ 4 (d := d_law_same) rfl
  exact ⟨_, fd, _, rfl, (ok_law_same (P := P) (w := w) (base := base) X G c F), He.glo_ok X G (c.fact 12 rfl), F.kp, bd_law_same F⟩
theorem ok_stretch_of (X : K.In h) (G : h.Ns mainGlobals mg) (c : He.SaysD fa fn K) {fd : FuncData} (F : FunD K d_stretch_of.name d_stretch_of.qual d_stretch_of.params d_stretch_of.body d_stretch_of.scope [] [] (He.fAd K d_stretch_of.at_) fd) : FnOk P w K mg base CX0 2 (He.fAd K d_stretch_of.at_) fd ["place", "size"] (spOf K (cl K) 2 F_stretch_of) := by
  refine fn_okD F sc_stretch_of sim_exitF (fun cdv A outer s H E hr => ?_)
  exact (ds_cons (ds_set 2 sc_stretch_of.nd rfl (by first | exact Or.inl rfl | exact Or.inr rfl) (de_call (cal_point_of X G c) hr (by decide) (by rfl) (da_cons (de_var 0) da_nil)))
    (ds_one (ds_ret (de_tup (da_cons (de_var 2) (da_cons (de_op op_sub so_sub (de_op op_addA so_add (de_var 2) (de_op op_divA so_div (de_globI (by rfl) (He.int_ok X G (c.fact 6 rfl)).choose_spec) (de_var 1))) de_int) da_nil))))))
theorem bd_stretch_of {fd : FuncData} (F : FunD K d_stretch_of.name d_stretch_of.qual d_stretch_of.params d_stretch_of.body d_stretch_of.scope [] [] (He.fAd K d_stretch_of.at_) fd) : Binds K fd ["place", "size"] [] := FunD.bindsN F (fun _ _ _ _ _ _ us hl => match us, hl with | [_, _], _ => rfl)
theorem cal_stretch_of (X : K.In h) (G : h.Ns mainGlobals mg) (c : He.SaysD fa fn K) : CalD P w K mg base (cl K) 2 "stretch_of" 2 F_stretch_of := by
  obtain ⟨fd, F⟩ := c.def_ 5 (d := d_stretch_of) rfl
  exact ⟨_, fd, _, rfl, (ok_stretch_of (P := P) (w := w) (base := base) X G c F), He.glo_ok X G (c.fact 13 rfl), F.kp, bd_stretch_of F⟩
theorem ok_law (X : K.In h) (G : h.Ns mainGlobals mg) (c : He.SaysD fa fn K) {fd : FuncData} (F : FunD K d_law.name d_law.qual d_law.params d_law.body d_law.scope [] [] (He.fAd K d_law.at_) fd) : FnOk P w K mg base CX0 3 (He.fAd K d_law.at_) fd ["script"] (spOf K (cl K) 1 F_law) := by
  refine fn_okD F sc_law sim_exitF (fun cdv A outer s H E hr => ?_)
  exact (ds_cons (ds_for PassesOwn.never rfl (di_seq (de_op op_addA so_add (de_lst (da_cons de_int da_nil)) (de_sl sl_a (de_var 0) do_none (do_some de_int)))) (dg_name 1 sc_law.nd rfl (by first | exact Or.inl rfl | exact Or.inr rfl)) (ds_cons (ds_set 2 sc_law.nd rfl (by first | exact Or.inl rfl | exact Or.inr rfl) (de_call (cal_law_stream X G c) hr (by decide) (by rfl) (da_cons (de_var 1) da_nil)))
    (ds_cons (ds_set 3 sc_law.nd rfl (by first | exact Or.inl rfl | exact Or.inr rfl) (de_op op_addA so_add de_int (de_call (cal_law_take X G c) hr (by decide) (by rfl) (da_cons (de_var 2) (da_cons de_int da_nil)))))
    (ds_cons (ds_set 4 sc_law.nd rfl (by first | exact Or.inl rfl | exact Or.inr rfl) (de_ix (de_lst (da_cons de_int (da_cons de_int (da_cons de_int (da_cons de_int (da_cons de_int (da_cons de_int (da_cons de_int (da_cons de_int (da_cons de_int (da_cons de_int (da_cons de_int da_nil)))))))))))) (de_op op_sub so_sub (de_var 3) de_int)))
    (ds_one (ds_for PassesOwn.never rfl (di_seq (de_lst (da_cons de_int (da_cons de_int (da_cons (de_op op_sub so_sub (de_var 4) de_int) (da_cons (de_op op_divA so_div (de_var 4) de_int) (da_cons (de_call (cal_law_take X G c) hr (by decide) (by rfl) (da_cons (de_var 2) (da_cons (de_var 4) da_nil))) (da_cons (de_call (cal_law_take X G c) hr (by decide) (by rfl) (da_cons (de_var 2) (da_cons (de_var 4) da_nil))) da_nil)))))))) (dg_name 5 sc_law.nd rfl (by first | exact Or.inl rfl | exact Or.inr rfl)) (ds_one (ds_if (dt_not (dt_val (de_call (cal_law_same X G c) hr (by decide) (by rfl) (da_cons (de_call (cal_stretch_of X G c) hr (by decide) (by rfl) (da_cons (de_var 5) (da_cons (de_var 4) da_nil))) (da_cons (de_call (cal_law_due X G c) hr (by decide) (by rfl) (da_cons (de_var 5) (da_cons (de_var 3) da_nil))) da_nil))))) (ds_one (ds_ret de_bl)) ds_nil)) lk_seq))))) lk_seq)
    (ds_one (ds_ret (de_and (de_cmp (op_eqD hr.units) so_eq (de_call (cal_stretch_of X G c) hr (by decide) (by rfl) (da_cons de_int (da_cons de_int da_nil))) (de_tup (da_cons de_int (da_cons de_int da_nil)))) (de_one (de_cmp (op_eqD hr.units) so_eq (de_call (cal_stretch_of X G c) hr (by decide) (by rfl) (da_cons de_int (da_cons de_int da_nil))) (de_tup (da_cons de_int (da_cons de_int da_nil)))))))))
theorem bd_law {fd : FuncData} (F : FunD K d_law.name d_law.qual d_law.params d_law.body d_law.scope [] [] (He.fAd K d_law.at_) fd) : Binds K fd ["script"] [] := FunD.bindsN F (fun _ _ _ _ _ _ us hl => match us, hl with | [_], _ => rfl)
theorem cal_law (X : K.In h) (G : h.Ns mainGlobals mg) (c : He.SaysD fa fn K) : CalD P w K mg base (cl K) 3 "law" 1 F_law := by
  obtain ⟨fd, F⟩ := c.def_ 6 (d := d_law) rfl
  exact ⟨_, fd, _, rfl, (ok_law (P := P) (w := w) (base := base) X G c F), He.glo_ok X G (c.fact 14 rfl), F.kp, bd_law F⟩
end
abbrev R : PySem.W.OpenRow := PySem.W.OpenLaw.row PySem.Challenge.rw_slowshift_k02_stretches_told
abbrev hk : PySem.W.Hook := He.hookD 6 fa fn
def ob (s : PySem.W.SharedT) : He.AlD := He.obsDG 6 fa fn (HandSHeadRun.getT s)
theorem ob_eq (s : PySem.W.SharedT) : ob s = hk.obs s.abs := He.obsDG_eq (HandSHeadRun.getT_eq s)
def loose : List PySem.Str := (["MARKS", "BITS", "point_of", "stretch_of", "_law_stream", "_law_take", "_law_mixer", "_law_key", "_law_due", "_law_same"] : List PySem.Str)
theorem run (w : World) : HandSHeadRun.RunEq R (PySem.W.view R.prog [12]) hk ob 2000 loose w := by
  intro os
  kernel_rfl
theorem facts {P : Program} {w : World} {K : PySem.W.Frag} {h : Heap} {mg : Str → Option Value} {f : Addr} (X : K.In h) (G : h.Ns mainGlobals mg) (hfa : mg ("law" : Str) = some (.ref f)) (c : He.SaysD fa fn K) :
    ∃ fd : FuncData, (∀ (s : Shared) (v : Value), BindsTo s fd ⟨[v], []⟩ [("script", v)]) ∧ ∀ base : Heap, K.In base → base.Ns mainGlobals mg → FnOk P w K mg base CX0 3 f fd ["script"] (spOf K (cl K) 1 F_law) := by
  have e := hfa.symm.trans (He.glo_ok X G (c.fact 14 rfl))
  cases e
  obtain ⟨fd, F⟩ := c.def_ 6 (d := d_law) rfl
  exact ⟨fd, fun s v => FunD.bindsA (ps := ["script"]) F (fun _ _ _ _ _ _ us hl => match us, hl with | [_], _ => rfl) s [v] rfl, fun base _ _ => ok_law (P := P) (w := w) (base := base) X G c F⟩
end K02
open PySem PySem.W PySem.Calls PyProof.Rows
set_option maxRecDepth 100000 in
set_option maxHeartbeats 0 in
theorem PySem.Challenge.cw_slowshift_k02_stretches_told_holds : PySem.Challenge.rw_slowshift_k02_stretches_told.Holds := by
  w_on; o_law
  refine HandSHeadRun.head_any (r := OpenLaw.row PySem.Challenge.rw_slowshift_k02_stretches_told) (q := view (OpenLaw.row PySem.Challenge.rw_slowshift_k02_stretches_told).prog [12]) (H := K02.hk) (ob := K02.ob) (M := 2000) (loose := K02.loose) (d := HandSHeadRun.topDef (OpenLaw.row PySem.Challenge.rw_slowshift_k02_stretches_told).prog 12) (kwd := []) K02.ob_eq
    (by kernel_rfl) (fun s => by kernel_rfl) K02.run (by kernel_rfl) (by kernel_rfl) (by kernel_rfl) (by rfl) (by first | assumption | decide +kernel) (by decide +kernel) ⟨rfl, rfl, rfl, rfl, rfl, by decide +kernel⟩ ?hw ?hc
  case hw => w_witness2
  case hc =>
    refine L2.walk_ofE (l := PySem.Challenge.rw_slowshift_k02_stretches_told) (n := 63) (k := 3) (x := "script") (CX := L2.CX0) rfl (by decide) (by kernel_rfl) ⟨rfl, by decide, by decide⟩ ?F (fun _ _ _ _ z => z)
    intro w mg fa h Y G hmg0
    obtain ⟨K, KX, c⟩ := Y
    have hmg : mg ("law" : PySem.Str) = some (.ref fa) := by
      have e : (HandSHeadRun.topDef (OpenLaw.row PySem.Challenge.rw_slowshift_k02_stretches_told).prog 12).name = ("law" : PySem.Str) := by kernel_rfl
      rw [← e]
      exact hmg0
    obtain ⟨fd, hb, hF⟩ := K02.facts (P := (PySem.Challenge.rw_slowshift_k02_stretches_told).prog) (w := w) KX G hmg c
    exact ⟨K, fd, _, KX, hb, fun H a ns hl _ hS => DM.law_sp (n := 63) K02.law_true H a ns hl hS, hF⟩
