import PyProof.Rows.All
import Wide.All
import OpenK.AllK
import Wide.FinOn
import HandS.ForMost
import HandS.TupAny
import HandS.Flow
import HandS.Walk
import KE.DataEq
import HandS.More
import HandS.IsInst
import HandS.SortInts
import HandS.StrMore
import HandS.Strs
import KE.GoesMore
import HandS.Codes
import PySem.Challenge.RW_ownanswer_k57_targets_and_hosts
set_option Elab.async false
set_option maxRecDepth 100000
set_option linter.all false
namespace Cn
open PySem L2

/-- a clean value: tuples by value, all that changes by its number in the clean heap -/
inductive PV where
  | non | bl (b : Bool) | int (i : Int) | str (x : Str) | tup (xs : List PV) | con (xs : List PV) | ref (n : Nat)
deriving Inhabited

inductive CO where
  | lst (xs : List PV)
  | dct (kvs : List (Key × PV))
  | ins (c : Nat) (vs : List (Option PV))
deriving Inhabited

mutual
def PV.beq : PV → PV → Bool
  | .non, .non => true
  | .bl a, .bl b => a == b
  | .int a, .int b => a == b
  | .str a, .str b => a == b
  | .tup a, .tup b => PV.beqs a b
  | .con a, .con b => PV.beqs a b
  | .ref a, .ref b => a == b
  | _, _ => false
def PV.beqs : List PV → List PV → Bool
  | [], [] => true
  | a :: as, b :: bs => PV.beq a b && PV.beqs as bs
  | _, _ => false
end
mutual
theorem PV.beq_eq : ∀ {a b : PV}, PV.beq a b = true → a = b
  | .non, .non, _ => rfl
  | .bl a, .bl b, h => by simp [PV.beq] at h; rw [h]
  | .int a, .int b, h => by simp [PV.beq] at h; rw [h]
  | .str a, .str b, h => by simp [PV.beq] at h; rw [h]
  | .tup a, .tup b, h => by simp only [PV.beq] at h; rw [PV.beqs_eq h]
  | .con a, .con b, h => by simp only [PV.beq] at h; rw [PV.beqs_eq h]
  | .ref a, .ref b, h => by simp [PV.beq] at h; rw [h]
theorem PV.beqs_eq : ∀ {a b : List PV}, PV.beqs a b = true → a = b
  | [], [], _ => rfl
  | a :: as, b :: bs, h => by
    simp only [PV.beqs, Bool.and_eq_true] at h
    rw [PV.beq_eq h.1, PV.beqs_eq h.2]
end
mutual
theorem PV.beq_refl : ∀ (a : PV), PV.beq a a = true
  | .non => rfl
  | .bl a => by simp [PV.beq]
  | .int a => by simp [PV.beq]
  | .str a => by simp [PV.beq]
  | .tup a => by simp only [PV.beq]; exact PV.beqs_refl a
  | .con a => by simp only [PV.beq]; exact PV.beqs_refl a
  | .ref a => by simp [PV.beq]
theorem PV.beqs_refl : ∀ (a : List PV), PV.beqs a a = true
  | [] => rfl
  | a :: as => by simp only [PV.beqs, PV.beq_refl a, PV.beqs_refl as, Bool.and_self]
end
abbrev CH := List CO
abbrev CSt := List (Option PV)
structure CT where
  a : Addr
  fl : List Str

def SqZ (K : PySem.W.Frag) (H : Hp) (a : Addr) (xs : List V) : Prop :=
  (∃ o, H a = some (.frz o (.lst xs))) ∨
    ∃ (o : Obj) (its : Array Value) (n : Nat), K.lookup a = some o ∧ o.cls = .type "list" ∧ o.dict = none ∧ o.data = .seq its n ∧ its.size ≤ sizeLine ∧ Vals xs its.toList
theorem SqZ.l {K : PySem.W.Frag} {H : Hp} {a : Addr} {xs : List V} (h : SqZ K H a xs) : SqL K H a xs := by
  rcases h with ⟨o, h⟩ | h
  · exact .inl (.inr ⟨o, h⟩)
  · exact .inr h

/-- a tuple that is known to its object: it has no dict -/
def SqU (K : PySem.W.Frag) (H : Hp) (a : Addr) (xs : List V) : Prop :=
  (∃ o, H a = some (.frz o (.tup xs)) ∧ o.cls = .type "tuple" ∧ o.dict = none) ∨
    ∃ (o : Obj) (its : Array Value) (n : Nat), K.lookup a = some o ∧ o.cls = .type "tuple" ∧ o.dict = none ∧ o.data = .seq its n ∧ its.size ≤ sizeLine ∧ Vals xs its.toList
theorem SqU.t {K : PySem.W.Frag} {H : Hp} {a : Addr} {xs : List V} (h : SqU K H a xs) : SqT K H a xs := by
  rcases h with ⟨o, h, _⟩ | ⟨o, its, n, h1, h2, _, h3⟩
  · exact .inl (.inr ⟨o, h⟩)
  · exact .inr ⟨o, its, n, h1, h2, h3⟩
theorem SqU.of {K : PySem.W.Frag} {H : Hp} {a : Addr} {xs : List V} {o : Obj} (h : H a = some (.frz o (.tup xs))) (hc : o.cls = .type "tuple") (hd : o.dict = none) : SqU K H a xs := .inl ⟨o, h, hc, hd⟩
/-- the object of a new tuple -/
structure TupO (o : Obj) : Prop where
  cls : o.cls = .type "tuple"
  dict : o.dict = none

section
variable (K : PySem.W.Frag) (m : List Addr) (H : Hp)
mutual
inductive RV : PV → V → Prop
  | non : RV .non .non
  | bl (b : Bool) : RV (.bl b) (.bl b)
  | int (i : Int) : RV (.int i) (.int i)
  | str (x : Str) : RV (.str x) (.str x)
  | tup {a : Addr} {xs : List PV} {vs : List V} : SqU K H a vs → RVs xs vs → RV (.tup xs) (.ref a)
  | con {a : Addr} {xs : List PV} {vs : List V} : SqZ K H a vs → RVs xs vs → RV (.con xs) (.ref a)
  | ref {n : Nat} {a : Addr} : m[n]? = some a → RV (.ref n) (.ref a)
inductive RVs : List PV → List V → Prop
  | nil : RVs [] []
  | cons {x : PV} {xs : List PV} {v : V} {vs : List V} : RV x v → RVs xs vs → RVs (x :: xs) (v :: vs)
end
end

structure Ext (K : PySem.W.Frag) (m : List Addr) (H : Hp) (m' : List Addr) (H' : Hp) : Prop where
  pre : ∀ (i : Nat) (a : Addr), m[i]? = some a → m'[i]? = some a
  tup : ∀ a vs, SqU K H a vs → SqU K H' a vs
  con : ∀ a vs, SqZ K H a vs → SqZ K H' a vs
theorem Ext.refl {K : PySem.W.Frag} {m : List Addr} {H : Hp} : Ext K m H m H := ⟨fun _ _ h => h, fun _ _ h => h, fun _ _ h => h⟩
theorem Ext.trans {K : PySem.W.Frag} {m m1 m2 : List Addr} {H H1 H2 : Hp} (a : Ext K m H m1 H1) (b : Ext K m1 H1 m2 H2) : Ext K m H m2 H2 :=
  ⟨fun i x h => b.pre i x (a.pre i x h), fun i x h => b.tup i x (a.tup i x h), fun i x h => b.con i x (a.con i x h)⟩

section
variable {K : PySem.W.Frag} {m m' : List Addr} {H H' : Hp}
mutual
theorem RV.mono (e : Ext K m H m' H') : ∀ {x : PV} {v : V}, RV K m H x v → RV K m' H' x v
  | _, _, .non => .non
  | _, _, .bl b => .bl b
  | _, _, .int i => .int i
  | _, _, .str x => .str x
  | _, _, .tup h r => .tup (e.tup _ _ h) (RVs.mono e r)
  | _, _, .con h r => .con (e.con _ _ h) (RVs.mono e r)
  | _, _, .ref h => .ref (e.pre _ _ h)
theorem RVs.mono (e : Ext K m H m' H') : ∀ {xs : List PV} {vs : List V}, RVs K m H xs vs → RVs K m' H' xs vs
  | _, _, .nil => .nil
  | _, _, .cons h r => .cons (RV.mono e h) (RVs.mono e r)
end
theorem RVs.length : ∀ {xs : List PV} {vs : List V}, RVs K m H xs vs → xs.length = vs.length
  | _, _, .nil => rfl
  | _, _, .cons _ r => by simp [RVs.length r]
theorem RVs.get : ∀ {xs : List PV} {vs : List V} {i : Nat} {x : PV}, RVs K m H xs vs → xs[i]? = some x → ∃ v, vs[i]? = some v ∧ RV K m H x v
  | _, _, _, _, .nil, e => by simp at e
  | _, _, 0, _, .cons r _, e => by simp at e; subst e; exact ⟨_, rfl, r⟩
  | _, _, i + 1, x, .cons _ t, e => by
    obtain ⟨u, h1, h2⟩ := RVs.get (i := i) (x := x) t (by simpa using e)
    exact ⟨u, by simpa using h1, h2⟩
theorem RVs.getV : ∀ {xs : List PV} {vs : List V} {i : Nat} {v : V}, RVs K m H xs vs → vs[i]? = some v → ∃ x, xs[i]? = some x ∧ RV K m H x v
  | _, _, _, _, .nil, e => by simp at e
  | _, _, 0, _, .cons r _, e => by simp at e; subst e; exact ⟨_, rfl, r⟩
  | _, _, i + 1, v, .cons _ t, e => by
    obtain ⟨u, h1, h2⟩ := RVs.getV (i := i) (v := v) t (by simpa using e)
    exact ⟨u, by simpa using h1, h2⟩
theorem RVs.append : ∀ {xs ys : List PV} {vs ws : List V}, RVs K m H xs vs → RVs K m H ys ws → RVs K m H (xs ++ ys) (vs ++ ws)
  | _, _, _, _, .nil, s => s
  | _, _, _, _, .cons r t, s => .cons r (RVs.append t s)
theorem RVs.take : ∀ {xs : List PV} {vs : List V} (n : Nat), RVs K m H xs vs → RVs K m H (xs.take n) (vs.take n)
  | _, _, 0, _ => .nil
  | _, _, _ + 1, .nil => .nil
  | _, _, n + 1, .cons r t => .cons r (RVs.take n t)
theorem RVs.drop : ∀ {xs : List PV} {vs : List V} (n : Nat), RVs K m H xs vs → RVs K m H (xs.drop n) (vs.drop n)
  | _, _, 0, r => r
  | _, _, _ + 1, .nil => .nil
  | _, _, n + 1, .cons _ t => RVs.drop n t
theorem RVs.set {x : PV} {v : V} (r : RV K m H x v) : ∀ {xs : List PV} {vs : List V} (i : Nat), RVs K m H xs vs → RVs K m H (xs.set i x) (vs.set i v)
  | _, _, _, .nil => .nil
  | _, _, 0, .cons _ t => .cons r t
  | _, _, i + 1, .cons q t => .cons q (RVs.set r i t)
theorem RVs.dropLast : ∀ {xs : List PV} {vs : List V}, RVs K m H xs vs → RVs K m H xs.dropLast vs.dropLast
  | _, _, .nil => .nil
  | _, _, .cons _ .nil => .nil
  | _, _, .cons r (.cons r' t) => .cons r (RVs.dropLast (.cons r' t))
theorem RVs.eraseIdx : ∀ {xs : List PV} {vs : List V} (i : Nat), RVs K m H xs vs → RVs K m H (xs.eraseIdx i) (vs.eraseIdx i)
  | _, _, _, .nil => .nil
  | _, _, 0, .cons _ t => t
  | _, _, i + 1, .cons r t => .cons r (RVs.eraseIdx i t)
theorem RVs.reverse : ∀ {xs : List PV} {vs : List V}, RVs K m H xs vs → RVs K m H xs.reverse vs.reverse
  | _, _, .nil => .nil
  | _, _, .cons r t => by
    rw [List.reverse_cons, List.reverse_cons]
    exact RVs.append (RVs.reverse t) (.cons r .nil)
theorem RVs.ints : ∀ {ns : List Int} {vs : List V}, RVs K m H (ns.map PV.int) vs → vs = ns.map V.int
  | [], vs, h => by cases h; rfl
  | n :: ns, vs, h => by
    rw [List.map_cons] at h
    cases h with
    | cons r t => cases r; rw [RVs.ints t]; rfl
theorem RVs.of_ints : ∀ {ns : List Int}, RVs K m H (ns.map PV.int) (ns.map V.int)
  | [] => .nil
  | n :: ns => .cons (.int n) RVs.of_ints
theorem RVs.strs : ∀ {ns : List Str} {vs : List V}, RVs K m H (ns.map PV.str) vs → vs = ns.map V.str
  | [], vs, h => by cases h; rfl
  | n :: ns, vs, h => by
    rw [List.map_cons] at h
    cases h with
    | cons r t => cases r; rw [RVs.strs t]; rfl
theorem RVs.of_strs : ∀ {ns : List Str}, RVs K m H (ns.map PV.str) (ns.map V.str)
  | [] => .nil
  | n :: ns => .cons (.str n) RVs.of_strs
end

/-! ### objects -/
abbrev RKV (K : PySem.W.Frag) (m : List Addr) (H : Hp) : List (Key × PV) → List (Key × V) → Prop := Paired fun p q => p.1 = q.1 ∧ RV K m H p.2 q.2
structure RFl (K : PySem.W.Frag) (m : List Addr) (H : Hp) (fl : List Str) (vs : List (Option PV)) (fs : List (Str × V)) : Prop where
  len : vs.length = fl.length
  nd : fl.Nodup
  few : fl.length < 1000
  fnd : (fs.map (·.1)).Nodup
  sub : ∀ k ∈ fs.map (·.1), k ∈ fl
  get : ∀ (i : Nat) (x : Str) (p : PV), fl[i]? = some x → vs[i]? = some (some p) → ∃ v, fs.lookup x = some v ∧ RV K m H p v
def ROb (K : PySem.W.Frag) (cl : List CT) (m : List Addr) (H : Hp) (a : Addr) : CO → Prop
  | .lst xs => ∃ vs, H a = some (.lst vs) ∧ RVs K m H xs vs
  | .dct kvs => ∃ ws, H a = some (.dK ws) ∧ RKV K m H kvs ws
  | .ins c vs => ∃ ct dx fs, cl[c]? = some ct ∧ H a = some (.ins ct.a dx fs) ∧ RFl K m H ct.fl vs fs
structure Sim (K : PySem.W.Frag) (cl : List CT) (m : List Addr) (ch : CH) (H : Hp) : Prop where
  len : m.length = ch.length
  nd : m.Nodup
  ob : ∀ (i : Nat) (a : Addr) (o : CO), m[i]? = some a → ch[i]? = some o → ROb K cl m H a o

section
variable {K : PySem.W.Frag} {cl : List CT} {m m' : List Addr} {ch : CH} {H H' : Hp}
theorem Sim.at (S : Sim K cl m ch H) {i : Nat} {o : CO} (h : ch[i]? = some o) : ∃ a, m[i]? = some a ∧ ROb K cl m H a o := by
  have hi : i < m.length := by rw [S.len]; exact (List.getElem?_eq_some_iff.mp h).1
  exact ⟨m[i], List.getElem?_eq_getElem hi, S.ob i _ o (List.getElem?_eq_getElem hi) h⟩
theorem ROb.some {a : Addr} {o : CO} (h : ROb K cl m H a o) : ∃ u, H a = some u := by
  cases o with
  | lst xs => obtain ⟨vs, h, _⟩ := h; exact ⟨_, h⟩
  | dct kvs => obtain ⟨vs, h, _⟩ := h; exact ⟨_, h⟩
  | ins c vs => obtain ⟨ct, dx, fs, _, h, _⟩ := h; exact ⟨_, h⟩
theorem Sim.there (S : Sim K cl m ch H) {a : Addr} (h : a ∈ m) : ∃ u, H a = some u := by
  obtain ⟨i, hi, rfl⟩ := List.mem_iff_getElem.mp h
  have hi' : i < ch.length := by rw [← S.len]; exact hi
  exact (S.ob i _ _ (List.getElem?_eq_getElem hi) (List.getElem?_eq_getElem hi')).some
theorem RKV.mono (e : Ext K m H m' H') {kvs : List (Key × PV)} {ws : List (Key × V)} (r : RKV K m H kvs ws) : RKV K m' H' kvs ws := Paired.mapP r fun _ _ q => ⟨q.1, q.2.mono e⟩
theorem RFl.mono (e : Ext K m H m' H') {fl : List Str} {vs : List (Option PV)} {fs : List (Str × V)} (r : RFl K m H fl vs fs) : RFl K m' H' fl vs fs :=
  ⟨r.len, r.nd, r.few, r.fnd, r.sub, fun i x p h1 h2 => let ⟨v, h3, h4⟩ := r.get i x p h1 h2; ⟨v, h3, h4.mono e⟩⟩
theorem ROb.mono (e : Ext K m H m' H') {a : Addr} (ha : H' a = H a) {o : CO} (h : ROb K cl m H a o) : ROb K cl m' H' a o := by
  cases o with
  | lst xs => obtain ⟨vs, h, r⟩ := h; exact ⟨vs, ha.trans h, r.mono e⟩
  | dct kvs => obtain ⟨vs, h, r⟩ := h; exact ⟨vs, ha.trans h, RKV.mono e r⟩
  | ins c vs => obtain ⟨ct, dx, fs, hc, h, r⟩ := h; exact ⟨ct, dx, fs, hc, ha.trans h, RFl.mono e r⟩
/-- what may be written -/
def MutO : HO → Prop
  | .lst _ => True
  | .dK _ => True
  | .ins _ _ _ => True
  | _ => False
theorem frz_upd {a p : Addr} {u o w : HO} {ob : Obj} (hp : H p = some u) (hu : MutO u) (h : H a = some (.frz ob w)) : upd H p o a = some (.frz ob w) := by
  rw [upd_ne]
  · exact h
  · rintro rfl
    rw [hp] at h; cases h; exact hu
theorem Ext.upd {p : Addr} {u o : HO} (hp : H p = some u) (hu : MutO u) : Ext K m H m (upd H p o) := by
  refine ⟨fun _ _ h => h, fun a vs h => ?_, fun a vs h => ?_⟩
  · rcases h with ⟨ob, h, q⟩ | h
    · exact .inl ⟨ob, frz_upd hp hu h, q⟩
    · exact .inr h
  · rcases h with ⟨ob, h⟩ | h
    · exact .inl ⟨ob, frz_upd hp hu h⟩
    · exact .inr h
theorem Ext.fresh {p : Addr} {o : HO} (hp : H p = none) : Ext K m H m (L2.upd H p o) := by
  refine ⟨fun _ _ h => h, fun a vs h => ?_, fun a vs h => ?_⟩
  · rcases h with ⟨ob, h, q⟩ | h
    · exact .inl ⟨ob, (upd_ne (ne_of_none h hp)).trans h, q⟩
    · exact .inr h
  · rcases h with ⟨ob, h⟩ | h
    · exact .inl ⟨ob, (upd_ne (ne_of_none h hp)).trans h⟩
    · exact .inr h
theorem Ext.snoc {p : Addr} : Ext K m H (m ++ [p]) H := ⟨fun i a h => by rw [List.getElem?_append_left (List.getElem?_eq_some_iff.mp h).1]; exact h, fun _ _ h => h, fun _ _ h => h⟩
/-- an object of no clean number is laid (a tuple) -/
theorem Sim.fresh (S : Sim K cl m ch H) {p : Addr} {o : HO} (hp : H p = none) : Sim K cl m ch (L2.upd H p o) :=
  ⟨S.len, S.nd, fun i a u h1 h2 => (S.ob i a u h1 h2).mono (Ext.fresh hp) (by
    obtain ⟨z, hz⟩ := (S.ob i a u h1 h2).some
    exact upd_ne (ne_of_none hz hp))⟩
/-- a new object with the next number -/
theorem Sim.new (S : Sim K cl m ch H) {p : Addr} {o : HO} {u : CO} (hp : H p = none) (r : ROb K cl (m ++ [p]) (L2.upd H p o) p u) :
    Sim K cl (m ++ [p]) (ch ++ [u]) (L2.upd H p o) ∧ Ext K m H (m ++ [p]) (L2.upd H p o) ∧ (m ++ [p])[ch.length]? = some p := by
  have ex : Ext K m H (m ++ [p]) (L2.upd H p o) := (Ext.fresh hp).trans Ext.snoc
  have np : p ∉ m := fun h => by
    obtain ⟨z, hz⟩ := S.there h
    rw [hp] at hz; cases hz
  refine ⟨⟨by simp [S.len], ?_, fun i a z h1 h2 => ?_⟩, ex, by rw [← S.len, List.getElem?_append_right (Nat.le_refl _)]; simp⟩
  · rw [List.nodup_append]
    refine ⟨S.nd, by simp, fun a ha b hb => ?_⟩
    rw [List.mem_singleton] at hb
    subst hb
    rintro rfl
    exact np ha
  · by_cases hi : i < m.length
    · rw [List.getElem?_append_left hi] at h1
      rw [List.getElem?_append_left (by rw [← S.len]; exact hi)] at h2
      have q := S.ob i a z h1 h2
      exact q.mono ex (by
        obtain ⟨y, hy⟩ := q.some
        exact upd_ne (ne_of_none hy hp))
    · have e : i = m.length := by
        have := (List.getElem?_eq_some_iff.mp h1).1
        simp at this
        omega
      subst e
      rw [List.getElem?_append_right (Nat.le_refl _)] at h1
      rw [S.len, List.getElem?_append_right (Nat.le_refl _)] at h2
      simp at h1 h2
      subst h1
      subst h2
      exact r
/-- an object is written -/
theorem Sim.set (S : Sim K cl m ch H) {i : Nat} {p : Addr} {o w : HO} {u : CO} (hi : m[i]? = some p) (hp : H p = some w) (hw : MutO w) (r : ROb K cl m (L2.upd H p o) p u) : Sim K cl m (ch.set i u) (L2.upd H p o) := by
  refine ⟨by simp [S.len], S.nd, fun j a z h1 h2 => ?_⟩
  by_cases hj : j = i
  · subst hj
    rw [hi] at h1; cases h1
    have hl : j < ch.length := by rw [← S.len]; exact (List.getElem?_eq_some_iff.mp hi).1
    rw [List.getElem?_set_self hl] at h2
    cases h2
    exact r
  · rw [List.getElem?_set_ne (Ne.symm hj)] at h2
    refine (S.ob j a z h1 h2).mono (Ext.upd hp hw) (upd_ne ?_)
    rintro rfl
    obtain ⟨l1, e1⟩ := List.getElem?_eq_some_iff.mp hi
    obtain ⟨l2, e2⟩ := List.getElem?_eq_some_iff.mp h1
    exact hj ((List.getElem_inj S.nd).mp (e2.trans e1.symm))
end

/-- a new tuple's value -/
theorem RV.new {K : PySem.W.Frag} {m : List Addr} {H : Hp} {p : Addr} {o : Obj} {xs : List PV} {vs : List V} (np : H p = none) (ho : TupO o) (r : RVs K m H xs vs) : RV K m (upd H p (.frz o (.tup vs))) (.tup xs) (.ref p) :=
  .tup (.of upd_same ho.cls ho.dict) (r.mono (.fresh np))
/-! ### slots -/
structure RS (K : PySem.W.Frag) (m : List Addr) (H : Hp) (cσ : CSt) (σ : St) : Prop where
  len : cσ.length = σ.length
  get : ∀ (i : Nat) (p : PV), cσ[i]? = some (some p) → ∃ v, σ[i]? = some (some v) ∧ RV K m H p v
section
variable {K : PySem.W.Frag} {m m' : List Addr} {H H' : Hp} {cσ : CSt} {σ : St}
theorem RS.mono (e : Ext K m H m' H') (r : RS K m H cσ σ) : RS K m' H' cσ σ := ⟨r.len, fun i p h => let ⟨v, h1, h2⟩ := r.get i p h; ⟨v, h1, h2.mono e⟩⟩
theorem RS.set (r : RS K m H cσ σ) {i : Nat} {p : PV} {v : V} (q : RV K m H p v) : RS K m H (cσ.set i (some p)) (σ.set i (some v)) := by
  refine ⟨by simp [r.len], fun j y h => ?_⟩
  by_cases hj : j = i
  · subst hj
    have hl : j < cσ.length := by
      have := (List.getElem?_eq_some_iff.mp h).1
      simpa using this
    rw [List.getElem?_set_self hl] at h
    cases h
    exact ⟨v, by rw [List.getElem?_set_self (by rw [← r.len]; exact hl)], q⟩
  · rw [List.getElem?_set_ne (Ne.symm hj)] at h
    obtain ⟨w, h1, h2⟩ := r.get j y h
    exact ⟨w, by rw [List.getElem?_set_ne (Ne.symm hj)]; exact h1, h2⟩
theorem RS.setN (r : RS K m H cσ σ) (i : Nat) : RS K m H (cσ.set i none) (σ.set i none) := by
  refine ⟨by simp [r.len], fun j y h => ?_⟩
  by_cases hj : j = i
  · subst hj
    have hl : j < cσ.length := by
      have := (List.getElem?_eq_some_iff.mp h).1
      simpa using this
    rw [List.getElem?_set_self hl] at h
    cases h
  · rw [List.getElem?_set_ne (Ne.symm hj)] at h
    obtain ⟨w, h1, h2⟩ := r.get j y h
    exact ⟨w, by rw [List.getElem?_set_ne (Ne.symm hj)]; exact h1, h2⟩
end
end Cn
namespace Cn
open PySem L2

abbrev CE := CSt → CH → Option (PV × CH)
abbrev CTt := CSt → CH → Option (Bool × CH)
abbrev CAs := CSt → CH → Option (List PV × CH)
abbrev CPo := CSt → CH → Option (Option Int × CH)

def SE (cl : List CT) (X : Cx) (e : Expr) (f : CE) : Prop := ∃ t : TE, PE X e t ∧ ∀ cσ ch v ch', f cσ ch = some (v, ch') → ∀ m σ H, RS X.K m H cσ σ → Sim X.K cl m ch H →
  ∀ Q : VK, (∀ m' H' w, Ext X.K m H m' H' → Sim X.K cl m' ch' H' → RV X.K m' H' v w → Q w H') → t σ H Q
def ST (cl : List CT) (X : Cx) (e : Expr) (f : CTt) : Prop := ∃ t : TT, PT X e t ∧ ∀ cσ ch v ch', f cσ ch = some (v, ch') → ∀ m σ H, RS X.K m H cσ σ → Sim X.K cl m ch H →
  ∀ Q : Bool → Hp → Prop, (∀ m' H', Ext X.K m H m' H' → Sim X.K cl m' ch' H' → Q v H') → t σ H Q
def SW (cl : List CT) (X : Cx) (e : Expr) (f : CTt) : Prop := ∃ t : TT, PW X e t ∧ ∀ cσ ch v ch', f cσ ch = some (v, ch') → ∀ m σ H, RS X.K m H cσ σ → Sim X.K cl m ch H →
  ∀ Q : Bool → Hp → Prop, (∀ m' H', Ext X.K m H m' H' → Sim X.K cl m' ch' H' → Q v H') → t σ H Q
def SA (cl : List CT) (X : Cx) (es : List Expr) (f : CAs) : Prop := ∃ t : TA, PA X es t ∧ ∀ cσ ch v ch', f cσ ch = some (v, ch') → ∀ m σ H, RS X.K m H cσ σ → Sim X.K cl m ch H →
  ∀ Q : List V → Hp → Prop, (∀ m' H' w, Ext X.K m H m' H' → Sim X.K cl m' ch' H' → RVs X.K m' H' v w → Q w H') → t σ H Q
def SPo (cl : List CT) (X : Cx) (e : Option Expr) (f : CPo) : Prop := ∃ t : TO, PO X e t ∧ ∀ cσ ch v ch', f cσ ch = some (v, ch') → ∀ m σ H, RS X.K m H cσ σ → Sim X.K cl m ch H →
  ∀ Q : Option Int → Hp → Prop, (∀ m' H', Ext X.K m H m' H' → Sim X.K cl m' ch' H' → Q v H') → t σ H Q
/-- an operation on two values; on one; on a list of values -/
def SOp (K : PySem.W.Frag) (cl : List CT) (r : R2) (g : PV → PV → CH → Option (PV × CH)) : Prop := ∀ x y ch z ch', g x y ch = some (z, ch') → ∀ m H v w, Sim K cl m ch H → RV K m H x v → RV K m H y w →
  ∀ Q : VK, (∀ m' H' u, Ext K m H m' H' → Sim K cl m' ch' H' → RV K m' H' z u → Q u H') → r v w H Q
def SUn (K : PySem.W.Frag) (cl : List CT) (r : V → Hp → VK → Prop) (g : PV → CH → Option (PV × CH)) : Prop := ∀ x ch z ch', g x ch = some (z, ch') → ∀ m H v, Sim K cl m ch H → RV K m H x v →
  ∀ Q : VK, (∀ m' H' u, Ext K m H m' H' → Sim K cl m' ch' H' → RV K m' H' z u → Q u H') → r v H Q
def SCl (K : PySem.W.Frag) (cl : List CT) (r : List V → Hp → VK → Prop) (g : List PV → CH → Option (PV × CH)) : Prop := ∀ x ch z ch', g x ch = some (z, ch') → ∀ m H v, Sim K cl m ch H → RVs K m H x v →
  ∀ Q : VK, (∀ m' H' u, Ext K m H m' H' → Sim K cl m' ch' H' → RV K m' H' z u → Q u H') → r v H Q

/-! ### combinators -/
def cVar (i : Nat) : CE := fun σ ch => match σ[i]? with
  | some (some v) => some (v, ch)
  | _ => none
def cC (v : PV) : CE := fun _ ch => some (v, ch)
def cBin (g : PV → PV → CH → Option (PV × CH)) (a b : CE) : CE := fun σ ch => (a σ ch).bind fun p => (b σ p.2).bind fun q => g p.1 q.1 q.2
def cUn (g : PV → CH → Option (PV × CH)) (a : CE) : CE := fun σ ch => (a σ ch).bind fun p => g p.1 p.2
def tru : PV → CH → Option (Bool × CH)
  | .bl b, ch => some (b, ch)
  | _, _ => none
def cTst (a : CE) : CTt := fun σ ch => (a σ ch).bind fun p => tru p.1 p.2
def cAnd (a b : CTt) : CTt := fun σ ch => (a σ ch).bind fun p => if p.1 = true then b σ p.2 else some (false, p.2)
def cOr (a b : CTt) : CTt := fun σ ch => (a σ ch).bind fun p => if p.1 = true then some (true, p.2) else b σ p.2
def cNot (a : CTt) : CTt := fun σ ch => (a σ ch).bind fun p => some (!p.1, p.2)
def cAndV (a b : CE) : CE := fun σ ch => (a σ ch).bind fun p => (tru p.1 p.2).bind fun q => if q.1 = true then b σ p.2 else some (.bl false, p.2)
def cOrV (a b : CE) : CE := fun σ ch => (a σ ch).bind fun p => (tru p.1 p.2).bind fun q => if q.1 = true then some (.bl true, p.2) else b σ p.2
def cNotV (a : CE) : CE := fun σ ch => (a σ ch).bind fun p => (tru p.1 p.2).bind fun q => some (.bl (!q.1), p.2)
def cIfE (c : CTt) (a b : CE) : CE := fun σ ch => (c σ ch).bind fun p => if p.1 = true then a σ p.2 else b σ p.2
def cNil : CAs := fun _ ch => some ([], ch)
def cCons (a : CE) (r : CAs) : CAs := fun σ ch => (a σ ch).bind fun p => (r σ p.2).bind fun q => some (p.1 :: q.1, q.2)
def cTup (a : CAs) : CE := fun σ ch => (a σ ch).bind fun p => if p.1.length ≤ sizeLine then some (.tup p.1, p.2) else none
def cLst (a : CAs) : CE := fun σ ch => (a σ ch).bind fun p => if p.1.length ≤ sizeLine then some (.ref p.2.length, p.2 ++ [.lst p.1]) else none
def cCl (g : List PV → CH → Option (PV × CH)) (a : CAs) : CE := fun σ ch => (a σ ch).bind fun p => g p.1 p.2
def cChain (g g' : PV → PV → CH → Option (PV × CH)) (a b c : CE) : CE := fun σ ch => (a σ ch).bind fun p => (b σ p.2).bind fun q => (g p.1 q.1 q.2).bind fun r => (tru r.1 r.2).bind fun k =>
  if k.1 = true then (c σ r.2).bind fun u => g' q.1 u.1 u.2 else some (.bl false, r.2)
def pInt : PV → CH → Option (Option Int × CH)
  | .int i, ch => some (some i, ch)
  | _, _ => none
def cPo (a : CE) : CPo := fun σ ch => (a σ ch).bind fun p => pInt p.1 p.2
def cPoN : CPo := fun _ ch => some (none, ch)
def cSl (g : PV → Option Int → Option Int → CH → Option (PV × CH)) (a : CE) (l h : CPo) : CE := fun σ ch => (a σ ch).bind fun p => (l σ p.2).bind fun q => (h σ q.2).bind fun r => g p.1 q.1 r.1 r.2

theorem bindS {α β : Type} {o : Option α} {f : α → Option β} {b : β} (h : o.bind f = some b) : ∃ a, o = some a ∧ f a = some b := by
  cases o with
  | none => cases h
  | some a => exact ⟨a, rfl, h⟩

section
variable {cl : List CT} {X : Cx} {a b c e : Expr} {es rest : List Expr} {fa fb fc : CE} {ta tb tc : CTt} {ga : CAs} {pos : Pos}
theorem se_var (i : Nat) {x : Str} (hN : X.N[i]? = some x := by rfl) (hv : Vis X.env.scope x := by first | exact Or.inl rfl | exact Or.inr (Or.inl rfl) | exact Or.inr (Or.inr rfl)) (hd : (x == ("__debug__" : Str)) = false := by decide)
    (hcd : (x == ("__classdict__" : Str)) = false := by decide) : SE cl X (.Name x pos) (cVar i) := by
  refine ⟨_, pe_var hN hv hd hcd, fun cσ ch v ch' h m σ H r S Q q => ?_⟩
  unfold cVar at h
  split at h
  · rename_i w hw
    cases h
    obtain ⟨u, h1, h2⟩ := r.get i _ hw
    exact ⟨u, h1, q m H u .refl S h2⟩
  · cases h
theorem se_c {v : PV} {u : V} (hp : PE X e (tC u)) (r : ∀ m H, RV X.K m H v u) : SE cl X e (cC v) :=
  ⟨_, hp, fun cσ ch v' ch' h m σ H _ S Q q => by cases h; exact q m H u .refl S (r m H)⟩
theorem se_int {i j} : SE cl X (.Constant (.int i) j pos) (cC (.int i)) := se_c pe_int fun _ _ => .int i
theorem se_bl {b j} : SE cl X (.Constant (.bool b) j pos) (cC (.bl b)) := se_c pe_bl fun _ _ => .bl b
theorem se_non {j} : SE cl X (.Constant .none j pos) (cC .non) := se_c pe_non fun _ _ => .non
theorem se_str {x j} : SE cl X (.Constant (.str x) j pos) (cC (.str x)) := se_c pe_str fun _ _ => .str x
/-- a constant of the module -/
structure GlC (X : Cx) (x : Str) (v : PV) : Prop where
  ex : ∃ (w : V) (u : Value), X.mg x = some u ∧ RelV w u ∧ ∀ m H, RV X.K m H v w
theorem se_glob {x : Str} {v : PV} (g : GlC X x v) (hg : Gl X x := by rfl) (hd : (x == ("__debug__" : Str)) = false := by decide) : SE cl X (.Name x pos) (cC v) := by
  obtain ⟨w, u, hm, r, q⟩ := g.ex
  exact se_c (pe_glob hg hm r hd) q
theorem binS {r : R2} {g : PV → PV → CH → Option (PV × CH)} (hr : SOp X.K cl r g) {t u : TE} (ha : ∀ cσ ch v ch', fa cσ ch = some (v, ch') → ∀ m σ H, RS X.K m H cσ σ → Sim X.K cl m ch H →
  ∀ Q : VK, (∀ m' H' w, Ext X.K m H m' H' → Sim X.K cl m' ch' H' → RV X.K m' H' v w → Q w H') → t σ H Q) (hb : ∀ cσ ch v ch', fb cσ ch = some (v, ch') → ∀ m σ H, RS X.K m H cσ σ → Sim X.K cl m ch H →
  ∀ Q : VK, (∀ m' H' w, Ext X.K m H m' H' → Sim X.K cl m' ch' H' → RV X.K m' H' v w → Q w H') → u σ H Q) : ∀ cσ ch v ch', cBin g fa fb cσ ch = some (v, ch') → ∀ m σ H, RS X.K m H cσ σ → Sim X.K cl m ch H →
  ∀ Q : VK, (∀ m' H' w, Ext X.K m H m' H' → Sim X.K cl m' ch' H' → RV X.K m' H' v w → Q w H') → tOp r t u σ H Q := by
  intro cσ ch v ch' h m σ H rs S Q q
  obtain ⟨⟨x, c1⟩, h1, h⟩ := bindS h
  obtain ⟨⟨y, c2⟩, h2, h⟩ := bindS h
  refine ha _ _ _ _ h1 m σ H rs S _ fun m1 H1 w1 e1 S1 r1 => ?_
  refine hb _ _ _ _ h2 m1 σ H1 (rs.mono e1) S1 _ fun m2 H2 w2 e2 S2 r2 => ?_
  exact hr _ _ _ _ _ h m2 H2 w1 w2 S2 (r1.mono e2) r2 Q fun m3 H3 u e3 S3 r3 => q m3 H3 u ((e1.trans e2).trans e3) S3 r3
theorem se_bin {op : Operator} {r : R2} {g : PV → PV → CH → Option (PV × CH)} (ho : OpR X (binaryOp op) r) (hr : SOp X.K cl r g) (ha : SE cl X a fa) (hb : SE cl X b fb) : SE cl X (.BinOp a op b pos) (cBin g fa fb) := by
  obtain ⟨t, p, ha⟩ := ha
  obtain ⟨u, p', hb⟩ := hb
  exact ⟨_, pe_op ho p p', binS hr ha hb⟩
theorem se_cmp {op : CmpOp} {r : R2} {g : PV → PV → CH → Option (PV × CH)} (ho : OpR X (compareOp op) r) (hr : SOp X.K cl r g) (ha : SE cl X a fa) (hb : SE cl X b fb) (hm : behindInMarks op b = false) : SE cl X (.Compare a [op] [b] pos) (cBin g fa fb) := by
  obtain ⟨t, p, ha⟩ := ha
  obtain ⟨u, p', hb⟩ := hb
  exact ⟨_, pe_cmpR ho p p' hm, binS hr ha hb⟩
theorem tstS {t : TE} (ha : ∀ cσ ch v ch', fa cσ ch = some (v, ch') → ∀ m σ H, RS X.K m H cσ σ → Sim X.K cl m ch H →
  ∀ Q : VK, (∀ m' H' w, Ext X.K m H m' H' → Sim X.K cl m' ch' H' → RV X.K m' H' v w → Q w H') → t σ H Q) : ∀ cσ ch v ch', cTst fa cσ ch = some (v, ch') → ∀ m σ H, RS X.K m H cσ σ → Sim X.K cl m ch H →
  ∀ Q : Bool → Hp → Prop, (∀ m' H', Ext X.K m H m' H' → Sim X.K cl m' ch' H' → Q v H') → t σ H fun x H' => ∃ k, x = .bl k ∧ Q k H' := by
  intro cσ ch v ch' h m σ H rs S Q q
  obtain ⟨⟨x, c1⟩, h1, h⟩ := bindS h
  refine ha _ _ _ _ h1 m σ H rs S _ fun m1 H1 w1 e1 S1 r1 => ?_
  cases x with
  | bl k =>
    cases h
    cases r1
    exact ⟨_, rfl, q m1 H1 e1 S1⟩
  | _ => cases h
theorem st_cmp {op : CmpOp} {r : R2} {g : PV → PV → CH → Option (PV × CH)} (ho : OpR X (compareOp op) r) (hr : SOp X.K cl r g) (ha : SE cl X a fa) (hb : SE cl X b fb) (hm : behindInMarks op b = false) : ST cl X (.Compare a [op] [b] pos) (cTst (cBin g fa fb)) := by
  obtain ⟨t, p, ha⟩ := ha
  obtain ⟨u, p', hb⟩ := hb
  exact ⟨_, pt_cmpR ho p p' hm, tstS (binS hr ha hb)⟩
/-- a bool as a test -/
theorem st_val (ha : SE cl X a fa) (he : ∀ whole, isTrue a X.env whole = (do let v ← whole; standAt a.pos; holding [v] (truthy v)) := by intro _; rfl) : ST cl X a (cTst fa) := by
  obtain ⟨t, p, ha⟩ := ha
  exact ⟨_, pt_val p he, tstS ha⟩
theorem se_chain {op op' : CmpOp} {r r' : R2} {g g' : PV → PV → CH → Option (PV × CH)} (ho : OpR X (compareOp op) r) (ho' : OpR X (compareOp op') r') (hr : SOp X.K cl r g) (hr' : SOp X.K cl r' g') (ha : SE cl X a fa) (hb : SE cl X b fb) (hc : SE cl X c fc)
    (hm : lastMarks [op, op'] [b, c] = false := by with_unfolding_all rfl) : SE cl X (.Compare a [op, op'] [b, c] pos) (cChain g g' fa fb fc) := by
  obtain ⟨t, p, ha⟩ := ha
  obtain ⟨u, p', hb⟩ := hb
  obtain ⟨u', p'', hc⟩ := hc
  refine ⟨_, pe_chain ho ho' p p' p'' hm, fun cσ ch v ch' h m σ H rs S Q q => ?_⟩
  obtain ⟨⟨x, c1⟩, h1, h⟩ := bindS h
  obtain ⟨⟨y, c2⟩, h2, h⟩ := bindS h
  obtain ⟨⟨z, c3⟩, h3, h⟩ := bindS h
  refine ha _ _ _ _ h1 m σ H rs S _ fun m1 H1 w1 e1 S1 r1 => ?_
  refine hb _ _ _ _ h2 m1 σ H1 (rs.mono e1) S1 _ fun m2 H2 w2 e2 S2 r2 => ?_
  refine hr _ _ _ _ _ h3 m2 H2 w1 w2 S2 (r1.mono e2) r2 _ fun m3 H3 w3 e3 S3 r3 => ?_
  have e03 := (e1.trans e2).trans e3
  cases z with
  | bl k =>
    cases r3
    refine ⟨k, rfl, ?_⟩
    obtain ⟨⟨k2, c5⟩, hk, h⟩ := bindS h
    cases hk
    cases k with
    | false => cases h; exact q m3 H3 _ e03 S3 (.bl _)
    | true =>
      rw [if_pos rfl]
      obtain ⟨⟨y', c4⟩, h4, h⟩ := bindS h
      refine hc _ _ _ _ h4 m3 σ H3 (rs.mono e03) S3 _ fun m4 H4 w4 e4 S4 r4 => ?_
      exact hr' _ _ _ _ _ h m4 H4 w2 w4 S4 (r2.mono (e3.trans e4)) r4 Q fun m5 H5 w5 e5 S5 r5 => q m5 H5 w5 ((e03.trans e4).trans e5) S5 r5
  | _ => cases h
theorem st_chain {op op' : CmpOp} {r r' : R2} {g g' : PV → PV → CH → Option (PV × CH)} (ho : OpR X (compareOp op) r) (ho' : OpR X (compareOp op') r') (hr : SOp X.K cl r g) (hr' : SOp X.K cl r' g') (ha : SE cl X a fa) (hb : SE cl X b fb) (hc : SE cl X c fc)
    (hm : lastMarks [op, op'] [b, c] = false := by with_unfolding_all rfl) : ST cl X (.Compare a [op, op'] [b, c] pos) (cTst (cChain g g' fa fb fc)) := by
  have h := se_chain (pos := pos) ho ho' hr hr' ha hb hc hm
  obtain ⟨t, p, ha⟩ := ha
  obtain ⟨u, p', hb⟩ := hb
  obtain ⟨u', p'', hc⟩ := hc
  refine ⟨_, pt_chain ho ho' p p' p'' hm, tstS fun cσ ch v ch' h m σ H rs S Q q => ?_⟩
  obtain ⟨⟨x, c1⟩, h1, h⟩ := bindS h
  obtain ⟨⟨y, c2⟩, h2, h⟩ := bindS h
  obtain ⟨⟨z, c3⟩, h3, h⟩ := bindS h
  refine ha _ _ _ _ h1 m σ H rs S _ fun m1 H1 w1 e1 S1 r1 => ?_
  refine hb _ _ _ _ h2 m1 σ H1 (rs.mono e1) S1 _ fun m2 H2 w2 e2 S2 r2 => ?_
  refine hr _ _ _ _ _ h3 m2 H2 w1 w2 S2 (r1.mono e2) r2 _ fun m3 H3 w3 e3 S3 r3 => ?_
  have e03 := (e1.trans e2).trans e3
  cases z with
  | bl k =>
    cases r3
    refine ⟨k, rfl, ?_⟩
    obtain ⟨⟨k2, c5⟩, hk, h⟩ := bindS h
    cases hk
    cases k with
    | false => cases h; exact q m3 H3 _ e03 S3 (.bl _)
    | true =>
      rw [if_pos rfl]
      obtain ⟨⟨y', c4⟩, h4, h⟩ := bindS h
      refine hc _ _ _ _ h4 m3 σ H3 (rs.mono e03) S3 _ fun m4 H4 w4 e4 S4 r4 => ?_
      exact hr' _ _ _ _ _ h m4 H4 w2 w4 S4 (r2.mono (e3.trans e4)) r4 Q fun m5 H5 w5 e5 S5 r5 => q m5 H5 w5 ((e03.trans e4).trans e5) S5 r5
  | _ => cases h
theorem SW.st (h : SW cl X a ta) : ST cl X a ta := let ⟨t, p, q⟩ := h; ⟨t, p.pt, q⟩
theorem sw_and1 (h : ST cl X a ta) : SW cl X (.BoolOp .And [a] pos) ta := let ⟨t, p, q⟩ := h; ⟨t, pw_and1 p, q⟩
theorem sw_or1 (h : ST cl X a ta) : SW cl X (.BoolOp .Or [a] pos) ta := let ⟨t, p, q⟩ := h; ⟨t, pw_or1 p, q⟩
theorem sw_and (ha : ST cl X a ta) (hb : SW cl X (.BoolOp .And (b :: rest) pos) tb) : SW cl X (.BoolOp .And (a :: b :: rest) pos) (cAnd ta tb) := by
  obtain ⟨t, p, ha⟩ := ha
  obtain ⟨u, p', hb⟩ := hb
  refine ⟨_, pw_and p p', fun cσ ch v ch' h m σ H rs S Q q => ?_⟩
  obtain ⟨⟨k, c1⟩, h1, h⟩ := bindS h
  refine ha _ _ _ _ h1 m σ H rs S _ fun m1 H1 e1 S1 => ?_
  cases k with
  | true => exact hb _ _ _ _ h m1 σ H1 (rs.mono e1) S1 _ fun m2 H2 e2 S2 => q m2 H2 (e1.trans e2) S2
  | false => cases h; exact q m1 H1 e1 S1
theorem sw_or (ha : ST cl X a ta) (hb : SW cl X (.BoolOp .Or (b :: rest) pos) tb) : SW cl X (.BoolOp .Or (a :: b :: rest) pos) (cOr ta tb) := by
  obtain ⟨t, p, ha⟩ := ha
  obtain ⟨u, p', hb⟩ := hb
  refine ⟨_, pw_or p p', fun cσ ch v ch' h m σ H rs S Q q => ?_⟩
  obtain ⟨⟨k, c1⟩, h1, h⟩ := bindS h
  refine ha _ _ _ _ h1 m σ H rs S _ fun m1 H1 e1 S1 => ?_
  cases k with
  | false => exact hb _ _ _ _ h m1 σ H1 (rs.mono e1) S1 _ fun m2 H2 e2 S2 => q m2 H2 (e1.trans e2) S2
  | true => cases h; exact q m1 H1 e1 S1
theorem st_not (ha : ST cl X a ta) : ST cl X (.UnaryOp .Not a pos) (cNot ta) := by
  obtain ⟨t, p, ha⟩ := ha
  refine ⟨_, pt_not p, fun cσ ch v ch' h m σ H rs S Q q => ?_⟩
  obtain ⟨⟨k, c1⟩, h1, h⟩ := bindS h
  cases h
  exact ha _ _ _ _ h1 m σ H rs S _ fun m1 H1 e1 S1 => q m1 H1 e1 S1
theorem se_one {op} (h : SE cl X a fa) : SE cl X (.BoolOp op [a] pos) fa := let ⟨t, p, q⟩ := h; ⟨t, pe_one p, q⟩
theorem se_and (ha : SE cl X a fa) (hb : SE cl X (.BoolOp .And (b :: rest) pos) fb) : SE cl X (.BoolOp .And (a :: b :: rest) pos) (cAndV fa fb) := by
  obtain ⟨t, p, ha⟩ := ha
  obtain ⟨u, p', hb⟩ := hb
  refine ⟨_, pe_and p p', fun cσ ch v ch' h m σ H rs S Q q => ?_⟩
  obtain ⟨⟨x, c1⟩, h1, h⟩ := bindS h
  refine ha _ _ _ _ h1 m σ H rs S _ fun m1 H1 w1 e1 S1 r1 => ?_
  cases x with
  | bl k =>
    cases r1
    refine ⟨k, rfl, ?_⟩
    cases k with
    | true => exact hb _ _ _ _ h m1 σ H1 (rs.mono e1) S1 _ fun m2 H2 w e2 S2 => q m2 H2 w (e1.trans e2) S2
    | false => cases h; exact q m1 H1 _ e1 S1 (.bl _)
  | _ => cases h
theorem se_or (ha : SE cl X a fa) (hb : SE cl X (.BoolOp .Or (b :: rest) pos) fb) : SE cl X (.BoolOp .Or (a :: b :: rest) pos) (cOrV fa fb) := by
  obtain ⟨t, p, ha⟩ := ha
  obtain ⟨u, p', hb⟩ := hb
  refine ⟨_, pe_or p p', fun cσ ch v ch' h m σ H rs S Q q => ?_⟩
  obtain ⟨⟨x, c1⟩, h1, h⟩ := bindS h
  refine ha _ _ _ _ h1 m σ H rs S _ fun m1 H1 w1 e1 S1 r1 => ?_
  cases x with
  | bl k =>
    cases r1
    refine ⟨k, rfl, ?_⟩
    cases k with
    | false => exact hb _ _ _ _ h m1 σ H1 (rs.mono e1) S1 _ fun m2 H2 w e2 S2 => q m2 H2 w (e1.trans e2) S2
    | true => cases h; exact q m1 H1 _ e1 S1 (.bl _)
  | _ => cases h
theorem se_not (ha : SE cl X a fa) : SE cl X (.UnaryOp .Not a pos) (cNotV fa) := by
  obtain ⟨t, p, ha⟩ := ha
  refine ⟨_, pe_not p, fun cσ ch v ch' h m σ H rs S Q q => ?_⟩
  obtain ⟨⟨x, c1⟩, h1, h⟩ := bindS h
  refine ha _ _ _ _ h1 m σ H rs S _ fun m1 H1 w1 e1 S1 r1 => ?_
  cases x with
  | bl k => cases r1; cases h; exact ⟨k, rfl, q m1 H1 _ e1 S1 (.bl _)⟩
  | _ => cases h
theorem se_ifE (hc : ST cl X c ta) (ha : SE cl X a fa) (hb : SE cl X b fb) : SE cl X (.IfExp c a b pos) (cIfE ta fa fb) := by
  obtain ⟨t, p, ha⟩ := ha
  obtain ⟨u, p', hb⟩ := hb
  obtain ⟨u', p'', hc⟩ := hc
  refine ⟨_, pe_ifExp p'' p p', fun cσ ch v ch' h m σ H rs S Q q => ?_⟩
  obtain ⟨⟨k, c1⟩, h1, h⟩ := bindS h
  refine hc _ _ _ _ h1 m σ H rs S _ fun m1 H1 e1 S1 => ?_
  cases k with
  | true => exact ha _ _ _ _ h m1 σ H1 (rs.mono e1) S1 _ fun m2 H2 w e2 S2 => q m2 H2 w (e1.trans e2) S2
  | false => exact hb _ _ _ _ h m1 σ H1 (rs.mono e1) S1 _ fun m2 H2 w e2 S2 => q m2 H2 w (e1.trans e2) S2
theorem sa_nil : SA cl X [] cNil := ⟨_, pa_nil, fun cσ ch v ch' h m σ H rs S Q q => by cases h; exact q m H _ .refl S .nil⟩
theorem sa_cons (ha : SE cl X e fa) (hr : SA cl X es ga) (hs : starEach (e :: es) X.env = (false, eval e X.env) :: starEach es X.env := by rfl) : SA cl X (e :: es) (cCons fa ga) := by
  obtain ⟨t, p, ha⟩ := ha
  obtain ⟨u, p', hr⟩ := hr
  refine ⟨_, pa_cons p p' hs, fun cσ ch v ch' h m σ H rs S Q q => ?_⟩
  obtain ⟨⟨x, c1⟩, h1, h⟩ := bindS h
  obtain ⟨⟨xs, c2⟩, h2, h⟩ := bindS h
  cases h
  refine ha _ _ _ _ h1 m σ H rs S _ fun m1 H1 w1 e1 S1 r1 => ?_
  exact hr _ _ _ _ h2 m1 σ H1 (rs.mono e1) S1 _ fun m2 H2 ws e2 S2 r2 => q m2 H2 _ (e1.trans e2) S2 (.cons (r1.mono e2) r2)
def tTupF (t : TA) : TE := fun σ H Q => t σ H fun xs H1 => xs.length ≤ sizeLine ∧ ∀ o p, TupO o → H1 p = none → Q (.ref p) (upd H1 p (.frz o (.tup xs)))
theorem pe_tupF {x1} {t : TA} (h : PA X es t) : PE X (.Tuple es x1 pos) (tTupF t) := by
  refine ⟨fun pins s σ H Q I hq => ?_⟩
  refine PySem.wpAny_Tuple_spliced (thn (h.run pos pins s σ H _ I hq) fun us s1 ⟨xs, H1, I1, r, z, q⟩ => ⟨by rw [← r.length]; exact z, ?_⟩)
  have hf : H1 s1.heap.objs.size = none := I1.hok.fresh (Nat.le_refl _)
  refine ⟨.ref s1.heap.objs.size, _, I1.laid (o := .frz { cls := .type "tuple", data := .seq us.toArray } (.tup xs)) (t' := s1.toks) (fun b u e => Heap.get?_push_of_some _ e) (Nat.le_refl _) ?_, rfl, q _ _ ⟨rfl, rfl⟩ hf⟩
  exact ⟨Heap.get?_push_size _ rfl, z, us, r, ⟨_, Heap.get?_push_size _ rfl, rfl, _, rfl⟩⟩
theorem se_tup {k} (h : SA cl X es ga) : SE cl X (.Tuple es k pos) (cTup ga) := by
  obtain ⟨t, p, ha⟩ := h
  refine ⟨_, pe_tupF p, fun cσ ch v ch' h m σ H rs S Q q => ?_⟩
  obtain ⟨⟨xs, c1⟩, h1, h⟩ := bindS h
  split at h
  · rename_i hz
    cases h
    refine ha _ _ _ _ h1 m σ H rs S _ fun m1 H1 w1 e1 S1 r1 => ⟨by rw [← r1.length]; exact hz, fun o p ho np => ?_⟩
    exact q m1 _ _ (e1.trans (.fresh np)) (S1.fresh np) (.new np ho r1)
  · cases h
theorem se_lst (h : SA cl X es ga) : SE cl X (.List es pos) (cLst ga) := by
  obtain ⟨t, p, ha⟩ := h
  refine ⟨_, pe_lst p, fun cσ ch v ch' h m σ H rs S Q q => ?_⟩
  obtain ⟨⟨xs, c1⟩, h1, h⟩ := bindS h
  split at h
  · rename_i hz
    cases h
    refine ha _ _ _ _ h1 m σ H rs S _ fun m1 H1 w1 e1 S1 r1 => ⟨by rw [← r1.length]; exact hz, fun p np => ?_⟩
    have ex : Ext X.K m1 H1 (m1 ++ [p]) (upd H1 p (.lst w1)) := (Ext.fresh np).trans .snoc
    obtain ⟨S2, e2, g2⟩ := S1.new (o := .lst w1) (u := .lst xs) np ⟨w1, upd_same, r1.mono ex⟩
    exact q _ _ _ (e1.trans e2) S2 (.ref g2)
  · cases h
theorem se_cl {r : List V → Hp → VK → Prop} {g : List PV → CH → Option (PV × CH)} {id : String} {x : Str} {p : Pos} (hc : CallR X (.builtin id) r) (hr : SCl X.K cl r g) (hm : X.mg x = none) (hv : bootBuiltins x = some (.builtin id)) (ha : SA cl X (e :: es) ga) (hg : Gl X x := by rfl) (hn : x ≠ "__name__" := by decide) (hdb : (x == ("__debug__" : Str)) = false := by decide)
    (he : starEach (e :: es) X.env = (false, eval e X.env) :: starEach es X.env := by rfl) (hpl : (backTo pos (starEach es X.env)).any (·.1) = false := by rfl) : SE cl X (.Call (.Name x p) (e :: es) [] pos) (cCl g ga) := by
  obtain ⟨t, p, ha⟩ := ha
  refine ⟨_, pe_callB hc hg hm hv p hn hdb he hpl, fun cσ ch v ch' h m σ H rs S Q q => ?_⟩
  obtain ⟨⟨xs, c1⟩, h1, h⟩ := bindS h
  refine ha _ _ _ _ h1 m σ H rs S _ fun m1 H1 w1 e1 S1 r1 => ?_
  exact hr _ _ _ _ h m1 H1 w1 S1 r1 Q fun m2 H2 u e2 S2 r2 => q m2 H2 u (e1.trans e2) S2 r2
theorem se_clT {r : List V → Hp → VK → Prop} {g : List PV → CH → Option (PV × CH)} {T : String} {x : Str} {p : Pos} (hc : CallR X (.type T) r) (hr : SCl X.K cl r g) (hm : X.mg x = none) (hv : bootBuiltins x = some (.type T)) (ha : SA cl X (e :: es) ga) (hg : Gl X x := by rfl) (hn : x ≠ "__name__" := by decide) (hdb : (x == ("__debug__" : Str)) = false := by decide)
    (he : starEach (e :: es) X.env = (false, eval e X.env) :: starEach es X.env := by rfl) (hpl : (backTo pos (starEach es X.env)).any (·.1) = false := by rfl) : SE cl X (.Call (.Name x p) (e :: es) [] pos) (cCl g ga) := by
  obtain ⟨t, p, ha⟩ := ha
  refine ⟨_, pe_callTy hc hg hm hv p hn hdb he hpl, fun cσ ch v ch' h m σ H rs S Q q => ?_⟩
  obtain ⟨⟨xs, c1⟩, h1, h⟩ := bindS h
  refine ha _ _ _ _ h1 m σ H rs S _ fun m1 H1 w1 e1 S1 r1 => ?_
  exact hr _ _ _ _ h m1 H1 w1 S1 r1 Q fun m2 H2 u e2 S2 r2 => q m2 H2 u (e1.trans e2) S2 r2
theorem se_un {op : UnaryOp} {r : V → Hp → VK → Prop} {g : PV → CH → Option (PV × CH)} (ho : UnR X (unaryOp op) r) (hr : SUn X.K cl r g) (ha : SE cl X a fa) : SE cl X (.UnaryOp op a pos) (cUn g fa) := by
  obtain ⟨t, p, ha⟩ := ha
  refine ⟨_, pe_un ho p, fun cσ ch v ch' h m σ H rs S Q q => ?_⟩
  obtain ⟨⟨x, c1⟩, h1, h⟩ := bindS h
  refine ha _ _ _ _ h1 m σ H rs S _ fun m1 H1 w1 e1 S1 r1 => ?_
  exact hr _ _ _ _ h m1 H1 w1 S1 r1 Q fun m2 H2 u e2 S2 r2 => q m2 H2 u (e1.trans e2) S2 r2
theorem se_ix {r : R2} {g : PV → PV → CH → Option (PV × CH)} (ho : IxR X r) (hr : SOp X.K cl r g) (ha : SE cl X a fa) (hb : SE cl X b fb) (hs : PlainIx b := by exact fun _ _ => rfl) : SE cl X (.Subscript a b pos) (cBin g fa fb) := by
  obtain ⟨t, p, ha⟩ := ha
  obtain ⟨u, p', hb⟩ := hb
  exact ⟨_, pe_ix ho p p' hs, binS hr ha hb⟩
theorem spo_none : SPo cl X none cPoN := ⟨_, po_none, fun cσ ch v ch' h m σ H rs S Q q => by cases h; exact q m H .refl S⟩
theorem spo_some (h : SE cl X e fa) : SPo cl X (some e) (cPo fa) := by
  obtain ⟨t, p, ha⟩ := h
  refine ⟨_, po_some p, fun cσ ch v ch' h m σ H rs S Q q => ?_⟩
  obtain ⟨⟨x, c1⟩, h1, h⟩ := bindS h
  refine ha _ _ _ _ h1 m σ H rs S _ fun m1 H1 w1 e1 S1 r1 => ?_
  cases x with
  | int i => cases r1; cases h; exact ⟨i, rfl, q m1 H1 e1 S1⟩
  | _ => cases h
def SSl (K : PySem.W.Frag) (cl : List CT) (r : V → Option Int → Option Int → Hp → VK → Prop) (g : PV → Option Int → Option Int → CH → Option (PV × CH)) : Prop := ∀ x l h ch z ch', g x l h ch = some (z, ch') → ∀ m H v, Sim K cl m ch H → RV K m H x v →
  ∀ Q : VK, (∀ m' H' u, Ext K m H m' H' → Sim K cl m' ch' H' → RV K m' H' z u → Q u H') → r v l h H Q
theorem se_sl {r : V → Option Int → Option Int → Hp → VK → Prop} {g : PV → Option Int → Option Int → CH → Option (PV × CH)} {lo hi : Option Expr} {fl fh : CPo} {p2 : Pos} (ho : SlR X r) (hr : SSl X.K cl r g) (ha : SE cl X a fa) (hl : SPo cl X lo fl) (hh : SPo cl X hi fh) :
    SE cl X (.Subscript a (.Slice lo hi none p2) pos) (cSl g fa fl fh) := by
  obtain ⟨t, p, ha⟩ := ha
  obtain ⟨u, p', hl⟩ := hl
  obtain ⟨u', p'', hh⟩ := hh
  refine ⟨_, pe_slice ho p p' p'', fun cσ ch v ch' h m σ H rs S Q q => ?_⟩
  obtain ⟨⟨x, c1⟩, h1, h⟩ := bindS h
  obtain ⟨⟨y, c2⟩, h2, h⟩ := bindS h
  obtain ⟨⟨z, c3⟩, h3, h⟩ := bindS h
  refine ha _ _ _ _ h1 m σ H rs S _ fun m1 H1 w1 e1 S1 r1 => ?_
  refine hl _ _ _ _ h2 m1 σ H1 (rs.mono e1) S1 _ fun m2 H2 e2 S2 => ?_
  refine hh _ _ _ _ h3 m2 σ H2 (rs.mono (e1.trans e2)) S2 _ fun m3 H3 e3 S3 => ?_
  exact hr _ _ _ _ _ _ h m3 H3 w1 S3 (r1.mono (e2.trans e3)) Q fun m4 H4 u e4 S4 r4 => q m4 H4 u (((e1.trans e2).trans e3).trans e4) S4 r4
end
end Cn
namespace Cn
open PySem L2
open PyProof.Rows (envOfC)

inductive CF where
  | nx | bk | ct
  | rt (v : PV)
abbrev CS := CSt → CH → Option (CF × CSt × CH)
abbrev CG := PV → CSt → CH → Option (CSt × CH)

def SPost (K : PySem.W.Frag) (cl : List CT) (D : Ends) (fl : CF) (cσ : CSt) (ch : CH) (m : List Addr) (H : Hp) : Prop :=
  match fl with
  | .nx => ∀ m' H' σ', Ext K m H m' H' → Sim K cl m' ch H' → RS K m' H' cσ σ' → D.nx σ' H'
  | .bk => ∀ m' H' σ', Ext K m H m' H' → Sim K cl m' ch H' → RS K m' H' cσ σ' → D.bk σ' H'
  | .ct => ∀ m' H' σ', Ext K m H m' H' → Sim K cl m' ch H' → RS K m' H' cσ σ' → D.ct σ' H'
  | .rt v => ∀ m' H' w, Ext K m H m' H' → Sim K cl m' ch H' → RV K m' H' v w → D.rt w H'
theorem SPost.ext {K : PySem.W.Frag} {cl : List CT} {D : Ends} {fl : CF} {cσ : CSt} {ch : CH} {m m1 : List Addr} {H H1 : Hp} (e : Ext K m H m1 H1) (q : SPost K cl D fl cσ ch m H) : SPost K cl D fl cσ ch m1 H1 := by
  cases fl with
  | nx => exact fun m' H' σ' e1 => q m' H' σ' (e.trans e1)
  | bk => exact fun m' H' σ' e1 => q m' H' σ' (e.trans e1)
  | ct => exact fun m' H' σ' e1 => q m' H' σ' (e.trans e1)
  | rt v => exact fun m' H' w e1 => q m' H' w (e.trans e1)
def SndS (K : PySem.W.Frag) (cl : List CT) (t : TS) (f : CS) : Prop := ∀ cσ ch fl cσ' ch', f cσ ch = some (fl, cσ', ch') → ∀ m σ H, RS K m H cσ σ → Sim K cl m ch H → ∀ D : Ends, SPost K cl D fl cσ' ch' m H → t D σ H
def SS (cl : List CT) (X : Cx) (st : Stmt) (f : CS) : Prop := ∃ t : TS, PS X st t ∧ SndS X.K cl t f
def SSs (cl : List CT) (X : Cx) (st : List Stmt) (f : CS) : Prop := ∃ t : TS, PSs X st t ∧ SndS X.K cl t f
def SG (cl : List CT) (X : Cx) (e : Expr) (g : CG) : Prop := ∃ t : TG, PG X e t ∧ ∀ v cσ ch cσ' ch', g v cσ ch = some (cσ', ch') → ∀ m σ H w, RS X.K m H cσ σ → Sim X.K cl m ch H → RV X.K m H v w →
  ∀ Q : St → Hp → Prop, (∀ m' H' σ', Ext X.K m H m' H' → Sim X.K cl m' ch' H' → RS X.K m' H' cσ' σ' → Q σ' H') → t w σ H Q
def SGs (cl : List CT) (X : Cx) (es : List Expr) (g : List PV → CSt → CH → Option (CSt × CH)) : Prop := ∃ t : TGs, PGs X es t ∧ ∀ v cσ ch cσ' ch', g v cσ ch = some (cσ', ch') → ∀ m σ H w, RS X.K m H cσ σ → Sim X.K cl m ch H → RVs X.K m H v w →
  ∀ Q : St → Hp → Prop, (∀ m' H' σ', Ext X.K m H m' H' → Sim X.K cl m' ch' H' → RS X.K m' H' cσ' σ' → Q σ' H') → t w σ H Q

def cNext : CS := fun σ ch => some (.nx, σ, ch)
def kSeq (g : CS) : CF × CSt × CH → Option (CF × CSt × CH)
  | (.nx, σ, ch) => g σ ch
  | r => some r
def cSeq (f g : CS) : CS := fun σ ch => (f σ ch).bind (kSeq g)
def cExpr (a : CE) : CS := fun σ ch => (a σ ch).bind fun p => some (.nx, σ, p.2)
def cRet (a : CE) : CS := fun σ ch => (a σ ch).bind fun p => some (.rt p.1, σ, p.2)
def cRetN : CS := fun σ ch => some (.rt .non, σ, ch)
def cBrk : CS := fun σ ch => some (.bk, σ, ch)
def cCnt : CS := fun σ ch => some (.ct, σ, ch)
def cIf (c : CTt) (a b : CS) : CS := fun σ ch => (c σ ch).bind fun p => if p.1 = true then a σ p.2 else b σ p.2
def cAsg (a : CE) (g : CG) : CS := fun σ ch => (a σ ch).bind fun p => (g p.1 σ p.2).bind fun q => some (.nx, q.1, q.2)
def cSet (i : Nat) (a : CE) : CS := fun σ ch => (a σ ch).bind fun p => some (.nx, σ.set i (some p.1), p.2)
def gN (i : Nat) : CG := fun v σ ch => some (σ.set i (some v), ch)
def gTp (n : Nat) (g : List PV → CSt → CH → Option (CSt × CH)) : CG := fun v σ ch => match v with
  | .tup xs => if xs.length = n then g xs σ ch else none
  | _ => none
def gsNil : List PV → CSt → CH → Option (CSt × CH) := fun v σ ch => match v with
  | [] => some (σ, ch)
  | _ => none
def gsCons (g : CG) (r : List PV → CSt → CH → Option (CSt × CH)) : List PV → CSt → CH → Option (CSt × CH) := fun v σ ch => match v with
  | [] => none
  | x :: xs => (g x σ ch).bind fun p => r xs p.1 p.2
def gSb (a b : CE) (s : PV → PV → PV → CH → Option CH) : CG := fun v σ ch => (a σ ch).bind fun p => (b σ p.2).bind fun q => (s p.1 q.1 v q.2).bind fun c => some (σ, c)
def slot (i : Nat) (σ : CSt) : Option PV := match σ[i]? with
  | some (some v) => some v
  | _ => none
def cAug (i : Nat) (g : PV → PV → CH → Option (PV × CH)) (a : CE) : CS := fun σ ch => (slot i σ).bind fun x => (a σ ch).bind fun p => (g x p.1 p.2).bind fun q => some (.nx, σ.set i (some q.1), q.2)
/-- e.f, the i-th field of an instance of the c-th class -/
def gFld (c i : Nat) : PV → CH → Option (PV × CH) := fun x ch => match x with
  | .ref n => match ch[n]? with
    | some (.ins c' vs) => if c' = c then (match vs[i]? with
      | some (some v) => some (v, ch)
      | _ => none) else none
    | _ => none
  | _ => none
def sFldO (c i : Nat) (x v : PV) (ch : CH) : Option CH := match x with
  | .ref n => match ch[n]? with
    | some (.ins c' vs) => if c' = c then some (ch.set n (.ins c (vs.set i (some v)))) else none
    | _ => none
  | _ => none
def cFldS (c i : Nat) (a e : CE) : CS := fun σ ch => (e σ ch).bind fun p => (a σ p.2).bind fun q => (sFldO c i q.1 p.1 q.2).bind fun c => some (.nx, σ, c)
abbrev CFn := List PV → CH → Option (PV × CH)
def spC (K : PySem.W.Frag) (cl : List CT) (n : Nat) (F : CFn) : Sp := fun vs H Q _ => vs.length = n ∧ ∃ m ch args v ch', F args ch = some (v, ch') ∧ Sim K cl m ch H ∧ RVs K m H args vs ∧
  ∀ m' H' w, Ext K m H m' H' → Sim K cl m' ch' H' → RV K m' H' v w → Q w H'
def ret1 : CF × CSt × CH → Option (PV × CH)
  | (.nx, _, ch) => some (.non, ch)
  | (.rt v, _, ch) => some (v, ch)
  | _ => none
def runF (n k : Nat) (fb : CS) : CFn := fun args ch => if args.length = n then (fb (args.map some ++ List.replicate k none) ch).bind ret1 else none
theorem runF_len {n k : Nat} {fb : CS} : ∀ args ch r, runF n k fb args ch = some r → args.length = n := fun args ch r h => by
  unfold runF at h
  split at h
  · assumption
  · cases h
/-- a method's call: the receiver an instance of the c-th class -/
def isIns (c : Nat) (x : PV) (ch : CH) : Bool := match x with
  | .ref n => match ch[n]? with
    | some (.ins c' _) => c' == c
    | _ => false
  | _ => false
def cMeth (c : Nat) (F : CFn) (o : CE) (ga : CAs) : CE := fun σ ch => (o σ ch).bind fun p => if isIns c p.1 p.2 = true then (ga σ p.2).bind fun q => F (p.1 :: q.1) q.2 else none
def retN (n : Nat) : PV × CH → Option (PV × CH)
  | (.non, ch) => some (.ref n, ch)
  | _ => none
def cMake (c k : Nat) (F : CFn) (ga : CAs) : CE := fun σ ch => (ga σ ch).bind fun p => (F (.ref p.2.length :: p.1) (p.2 ++ [.ins c (List.replicate k none)])).bind (retN p.2.length)

section
variable {cl : List CT} {X : Cx} {a b c e o : Expr} {es rest : List Expr} {fa fb fc fo : CE} {ta tb tc : CTt} {ga : CAs} {pos : Pos} {st : Stmt} {sts sts' : List Stmt} {s1 s2 : CS} {g : CG}
theorem ss_nil : SSs cl X [] cNext := ⟨_, pss_nil, fun cσ ch fl cσ' ch' h m σ H r S D q => by cases h; exact q m H σ .refl S r⟩
theorem ss_one (h : SS cl X st s1) : SSs cl X [st] s1 := let ⟨t, p, q⟩ := h; ⟨t, pss_one p, q⟩
theorem ss_cons (h1 : SS cl X st s1) (h2 : SSs cl X sts s2) : SSs cl X (st :: sts) (cSeq s1 s2) := by
  obtain ⟨t, p, h1⟩ := h1
  obtain ⟨u, p', h2⟩ := h2
  refine ⟨_, pss_cons p p', fun cσ ch fl cσ' ch' h m σ H r S D q => ?_⟩
  obtain ⟨⟨f1, σ1, c1⟩, e1, h⟩ := bindS h
  refine h1 _ _ _ _ _ e1 m σ H r S _ ?_
  cases f1 with
  | nx => exact fun m1 H1 σ1 ex S1 r1 => h2 _ _ _ _ _ h m1 σ1 H1 r1 S1 D (q.ext ex)
  | bk => cases h; exact q
  | ct => cases h; exact q
  | rt v => cases h; exact q
theorem ss_pass : SS cl X (.Pass pos) cNext := ⟨_, ps_pass, fun cσ ch fl cσ' ch' h m σ H r S D q => by cases h; exact q m H σ .refl S r⟩
theorem ss_brk : SS cl X (.Break pos) cBrk := ⟨_, ps_break, fun cσ ch fl cσ' ch' h m σ H r S D q => by cases h; exact q m H σ .refl S r⟩
theorem ss_cnt : SS cl X (.Continue pos) cCnt := ⟨_, ps_continue, fun cσ ch fl cσ' ch' h m σ H r S D q => by cases h; exact q m H σ .refl S r⟩
theorem ss_expr (he : SE cl X e fa) (hs : swapsWith e none pos.line X.env = pure false := by rfl) : SS cl X (.Expr e pos) (cExpr fa) := by
  obtain ⟨t, p, he⟩ := he
  refine ⟨_, ps_expr p hs, fun cσ ch fl cσ' ch' h m σ H r S D q => ?_⟩
  obtain ⟨⟨x, c1⟩, h1, h⟩ := bindS h
  cases h
  exact he _ _ _ _ h1 m σ H r S _ fun m1 H1 w e1 S1 _ => q m1 H1 σ e1 S1 (r.mono e1)
theorem ss_ret (he : SE cl X e fa) : SS cl X (.Return (some e) pos) (cRet fa) := by
  obtain ⟨t, p, he⟩ := he
  refine ⟨_, ps_ret p, fun cσ ch fl cσ' ch' h m σ H r S D q => ?_⟩
  obtain ⟨⟨x, c1⟩, h1, h⟩ := bindS h
  cases h
  exact he _ _ _ _ h1 m σ H r S _ q
theorem ss_retN : SS cl X (.Return none pos) cRetN := ⟨_, ps_retN, fun cσ ch fl cσ' ch' h m σ H r S D q => by cases h; exact q m H _ .refl S .non⟩
theorem ss_if (hc : ST cl X c ta) (h1 : SSs cl X sts s1) (h2 : SSs cl X sts' s2) : SS cl X (.If c sts sts' pos) (cIf ta s1 s2) := by
  obtain ⟨t, p, hc⟩ := hc
  obtain ⟨u, p', h1⟩ := h1
  obtain ⟨u', p'', h2⟩ := h2
  refine ⟨_, ps_if p p' p'', fun cσ ch fl cσ' ch' h m σ H r S D q => ?_⟩
  obtain ⟨⟨k, c1⟩, e1, h⟩ := bindS h
  refine hc _ _ _ _ e1 m σ H r S _ fun m1 H1 ex S1 => ?_
  cases k with
  | true => exact h1 _ _ _ _ _ h m1 σ H1 (r.mono ex) S1 D (q.ext ex)
  | false => exact h2 _ _ _ _ _ h m1 σ H1 (r.mono ex) S1 D (q.ext ex)
theorem sg_name {x : Str} (i : Nat) (hN : X.N.Nodup) (hi : X.N[i]? = some x := by rfl) (hx : Loc X.env.scope x := by first | exact Or.inl rfl | exact Or.inr rfl) (hf : X.fn x = true ∨ X.env.scope.names.lookup x = some .local := by first | exact .inl rfl | exact .inr rfl | assumption) : SG cl X (.Name x pos) (gN i) :=
  ⟨_, pg_name hN hi hx hf, fun v cσ ch cσ' ch' h m σ H w r S rv Q q => by cases h; exact q m H _ .refl S (r.set rv)⟩
theorem sgs_nil : SGs cl X [] gsNil := ⟨_, pgs_nil, fun v cσ ch cσ' ch' h m σ H w r S rv Q q => by
  cases rv with
  | nil => cases h; exact ⟨rfl, q m H _ .refl S r⟩
  | cons _ _ => cases h⟩
theorem sgs_cons {gr : List PV → CSt → CH → Option (CSt × CH)} (h1 : SG cl X e g) (h2 : SGs cl X es gr) (hs : (assignEach (e :: es) X.env).map (·.2) = assign e X.env :: (assignEach es X.env).map (·.2) := by rfl) : SGs cl X (e :: es) (gsCons g gr) := by
  obtain ⟨t, p, h1⟩ := h1
  obtain ⟨u, p', h2⟩ := h2
  refine ⟨_, pgs_cons p p' hs, fun v cσ ch cσ' ch' h m σ H w r S rv Q q => ?_⟩
  cases rv with
  | nil => cases h
  | cons rx rr =>
    obtain ⟨⟨σ1, c1⟩, e1, h⟩ := bindS h
    refine ⟨_, _, rfl, h1 _ _ _ _ _ e1 m σ H _ r S rx _ fun m1 H1 σ2 ex S1 r1 => ?_⟩
    exact h2 _ _ _ _ _ h m1 σ2 H1 _ r1 S1 (rr.mono ex) Q fun m2 H2 σ3 ex2 S2 r2 => q m2 H2 σ3 (ex.trans ex2) S2 r2
theorem sg_tup {k n : Nat} {gr : List PV → CSt → CH → Option (CSt × CH)} (hc : X.calm = true) (h : SGs cl X es gr) (hn : (assignEach es X.env).length = n := by rfl) (hst : (assignEach es X.env).findIdx? (·.1) = none := by rfl) : SG cl X (.Tuple es k pos) (gTp n gr) := by
  obtain ⟨t, p, h⟩ := h
  refine ⟨_, pg_tup hc p hn hst, fun v cσ ch cσ' ch' h1 m σ H w r S rv Q q => ?_⟩
  cases rv with
  | tup hT rr =>
    simp only [gTp] at h1
    split at h1
    · rename_i hl
      exact ⟨_, _, rfl, hT.t, by rw [← rr.length]; exact hl, h _ _ _ _ _ h1 m σ H _ r S rr Q q⟩
    · cases h1
  | _ => cases h1
def SSet (K : PySem.W.Frag) (cl : List CT) (r : TSet) (g : PV → PV → PV → CH → Option CH) : Prop := ∀ x y z ch ch', g x y z ch = some ch' → ∀ m H u v w, Sim K cl m ch H → RV K m H x u → RV K m H y v → RV K m H z w →
  ∀ Q : Hp → Prop, (∀ m' H', Ext K m H m' H' → Sim K cl m' ch' H' → Q H') → r u v w H Q
theorem sg_sub {r : TSet} {s : PV → PV → PV → CH → Option CH} (hs : PSet X r) (hr : SSet X.K cl r s) (ho : SE cl X a fa) (hi : SE cl X b fb)
    (ha : ∀ v, assign (.Subscript a b pos) X.env v = (do
    let ov ← holding [v] (eval a X.env)
    let iv ← holding [v, ov] (eval b X.env)
    standAt pos
    holding [v, ov, iv] (setItem ov iv v)
    release [v, ov, iv] []) := by intro _; rfl) : SG cl X (.Subscript a b pos) (gSb fa fb s) := by
  obtain ⟨t, p, ho⟩ := ho
  obtain ⟨u, p', hi⟩ := hi
  refine ⟨_, pg_sub p p' hs ha, fun v cσ ch cσ' ch' h m σ H w rs S rv Q q => ?_⟩
  obtain ⟨⟨x, c1⟩, e1, h⟩ := bindS h
  obtain ⟨⟨y, c2⟩, e2, h⟩ := bindS h
  obtain ⟨c3, e3, h⟩ := bindS h
  cases h
  refine ho _ _ _ _ e1 m σ H rs S _ fun m1 H1 w1 x1 S1 r1 => ?_
  refine hi _ _ _ _ e2 m1 σ H1 (rs.mono x1) S1 _ fun m2 H2 w2 x2 S2 r2 => ?_
  exact hr _ _ _ _ _ e3 m2 H2 _ _ _ S2 (r1.mono x2) r2 (rv.mono (x1.trans x2)) _ fun m3 H3 x3 S3 => q m3 H3 σ ((x1.trans x2).trans x3) S3 (rs.mono ((x1.trans x2).trans x3))
theorem ss_asg {tg : Expr} (he : SE cl X e fa) (hg : SG cl X tg g) (hs : swapsWithSole [tg] e pos.line X.env = pure false := by rfl) (hw : swappedStores [tg] e X.env = pure none := by rfl) (h1 : (assignEach [tg] X.env).map (·.2) = [assign tg X.env] := by rfl) : SS cl X (.Assign [tg] e pos) (cAsg fa g) := by
  obtain ⟨t, p, he⟩ := he
  obtain ⟨u, p', hg⟩ := hg
  refine ⟨_, ps_asg p p' hs hw h1, fun cσ ch fl cσ' ch' h m σ H r S D q => ?_⟩
  obtain ⟨⟨x, c1⟩, h1, h⟩ := bindS h
  obtain ⟨⟨σ1, c2⟩, h2, h⟩ := bindS h
  cases h
  refine he _ _ _ _ h1 m σ H r S _ fun m1 H1 w e1 S1 r1 => ?_
  exact hg _ _ _ _ _ h2 m1 σ H1 w (r.mono e1) S1 r1 _ fun m2 H2 σ2 e2 S2 r2 => q m2 H2 σ2 (e1.trans e2) S2 r2
theorem ss_set {x : Str} {pos' : Pos} (i : Nat) (hN : X.N.Nodup) (he : SE cl X e fa) (hi : X.N[i]? = some x := by rfl) (hx : Loc X.env.scope x := by first | exact Or.inl rfl | exact Or.inr rfl) (hs : swapsWith e (some (.Name x pos')) pos.line X.env = pure false := by rfl) (hf : X.fn x = true ∨ X.env.scope.names.lookup x = some .local := by first | exact .inl rfl | exact .inr rfl | assumption) :
    SS cl X (.Assign [.Name x pos'] e pos) (cSet i fa) := by
  obtain ⟨t, p, he⟩ := he
  refine ⟨_, ps_set hN hi hx p hs hf, fun cσ ch fl cσ' ch' h m σ H r S D q => ?_⟩
  obtain ⟨⟨x, c1⟩, h1, h⟩ := bindS h
  cases h
  exact he _ _ _ _ h1 m σ H r S _ fun m1 H1 w e1 S1 r1 => q m1 H1 _ e1 S1 ((r.mono e1).set r1)
theorem ss_aug {x : Str} {pos' : Pos} {op : Operator} {r : R2} {gg : PV → PV → CH → Option (PV × CH)} (i : Nat) (hN : X.N.Nodup) (ho : OpR X (inplaceOp op) r) (hr : SOp X.K cl r gg) (he : SE cl X e fa) (hi : X.N[i]? = some x := by rfl) (hx : Loc X.env.scope x := by first | exact Or.inl rfl | exact Or.inr rfl) (hf : X.fn x = true ∨ X.env.scope.names.lookup x = some .local := by first | exact .inl rfl | exact .inr rfl | assumption) :
    SS cl X (.AugAssign (.Name x pos') op e pos) (cAug i gg fa) := by
  obtain ⟨t, p, he⟩ := he
  refine ⟨_, ps_aug (ti := r) hN hi hx p ho hf, fun cσ ch fl cσ' ch' h m σ H rs S D q => ?_⟩
  obtain ⟨x0, h0, h⟩ := bindS h
  obtain ⟨⟨y, c1⟩, h1, h⟩ := bindS h
  obtain ⟨⟨z, c2⟩, h2, h⟩ := bindS h
  cases h
  unfold slot at h0
  split at h0
  · rename_i w hw
    cases h0
    obtain ⟨v, e0, rv⟩ := rs.get i _ hw
    refine ⟨v, e0, he _ _ _ _ h1 m σ H rs S _ fun m1 H1 w e1 S1 r1 => ?_⟩
    exact hr _ _ _ _ _ h2 m1 H1 _ _ S1 (rv.mono e1) r1 _ fun m2 H2 u e2 S2 r2 => q m2 H2 _ (e1.trans e2) S2 ((rs.mono (e1.trans e2)).set r2)
  · cases h0
/-! fields -/
structure ClsT (K : PySem.W.Frag) (ct : CT) : Prop where
  cls : Cls K ct.a
  na : ∀ f ∈ ct.fl, NoAttr K ct.a f
theorem nodup_sub_le {α : Type} [DecidableEq α] : ∀ {l m : List α}, l.Nodup → (∀ x ∈ l, x ∈ m) → l.length ≤ m.length
  | [], _, _, _ => Nat.zero_le _
  | x :: l, m, h, s => by
    have hx : x ∈ m := s x List.mem_cons_self
    have h2 := nodup_sub_le (l := l) (m := m.erase x) (List.nodup_cons.mp h).2 fun y hy => by
      have ne : y ≠ x := by rintro rfl; exact (List.nodup_cons.mp h).1 hy
      exact (List.mem_erase_of_ne ne).mpr (s y (List.mem_cons_of_mem _ hy))
    rw [List.length_erase_of_mem hx] at h2
    have : 0 < m.length := List.length_pos_of_mem hx
    simp only [List.length_cons]
    omega
theorem RFl.short {K : PySem.W.Frag} {m : List Addr} {H : Hp} {fl : List Str} {vs : List (Option PV)} {fs : List (Str × V)} (r : RFl K m H fl vs fs) : fs.length < 1000 := by
  have := nodup_sub_le r.fnd r.sub
  have := r.few
  simp only [List.length_map] at *
  omega
theorem keysP {f : Str} {v : V} : ∀ {fs : List (Str × V)}, ∀ k ∈ (putF f v fs).map (·.1), k = f ∨ k ∈ fs.map (·.1)
  | [], k, h => by simp [putF] at h; exact .inl h
  | (g, x) :: r, k, h => by
    unfold putF at h
    split at h
    · rename_i e
      simp only [List.map_cons, List.mem_cons] at h ⊢
      exact .inr h
    · simp only [List.map_cons, List.mem_cons] at h ⊢
      rcases h with h | h
      · exact .inr (.inl h)
      · rcases keysP k h with h | h
        · exact .inl h
        · exact .inr (.inr h)
theorem nodupP {f : Str} {v : V} : ∀ {fs : List (Str × V)}, (fs.map (·.1)).Nodup → ((putF f v fs).map (·.1)).Nodup
  | [], h => by simp [putF]
  | (g, x) :: r, h => by
    unfold putF
    split
    · exact h
    · rename_i e
      simp only [List.map_cons, List.nodup_cons] at h ⊢
      refine ⟨fun hm => ?_, nodupP h.2⟩
      rcases keysP g hm with q | q
      · exact e q
      · exact h.1 q
theorem RFl.put {K : PySem.W.Frag} {m : List Addr} {H : Hp} {fl : List Str} {vs : List (Option PV)} {fs : List (Str × V)} (r : RFl K m H fl vs fs) {i : Nat} {f : Str} {p : PV} {v : V} (hf : fl[i]? = some f) (rv : RV K m H p v) :
    RFl K m H fl (vs.set i (some p)) (putF f v fs) := by
  refine ⟨by rw [List.length_set]; exact r.len, r.nd, r.few, nodupP r.fnd, fun k hk => ?_, fun j x q hj hq => ?_⟩
  · rcases keysP k hk with e | e
    · subst e; exact List.mem_of_getElem? hf
    · exact r.sub k e
  · rw [lookup_putF]
    by_cases e : j = i
    · subst e
      rw [hf] at hj; cases hj
      have hl : j < vs.length := by
        have := (List.getElem?_eq_some_iff.mp hq).1
        simpa using this
      rw [List.getElem?_set_self hl] at hq
      cases hq
      exact ⟨v, if_pos rfl, rv⟩
    · rw [List.getElem?_set_ne (Ne.symm e)] at hq
      obtain ⟨w, h1, h2⟩ := r.get j x q hj hq
      refine ⟨w, ?_, h2⟩
      rw [if_neg]
      · exact h1
      · rintro rfl
        obtain ⟨l1, e1⟩ := List.getElem?_eq_some_iff.mp hj
        obtain ⟨l2, e2⟩ := List.getElem?_eq_some_iff.mp hf
        exact e ((List.getElem_inj r.nd).mp (e1.trans e2.symm))
theorem gFld_inv {c i : Nat} {x : PV} {ch : CH} {r : PV × CH} (h : gFld c i x ch = some r) : ∃ n vs v, x = .ref n ∧ ch[n]? = some (.ins c vs) ∧ vs[i]? = some (some v) ∧ r = (v, ch) := by
  unfold gFld at h
  split at h
  · split at h
    · split at h
      · rename_i e
        split at h
        · rename_i hz
          cases h
          cases e
          exact ⟨_, _, _, rfl, by assumption, hz, rfl⟩
        · cases h
      · cases h
    · cases h
  · cases h
theorem sFldO_inv {c i : Nat} {x v : PV} {ch : CH} {r : CH} (h : sFldO c i x v ch = some r) : ∃ n vs, x = .ref n ∧ ch[n]? = some (.ins c vs) ∧ r = ch.set n (.ins c (vs.set i (some v))) := by
  unfold sFldO at h
  split at h
  · split at h
    · split at h
      · rename_i e
        cases h
        cases e
        exact ⟨_, _, rfl, by assumption, rfl⟩
      · cases h
    · cases h
  · cases h
theorem se_fld {f : Str} {ct : CT} (c i : Nat) (T : ClsT X.K ct) (hc : cl[c]? = some ct) (hf : ct.fl[i]? = some f) (he : SE cl X e fa) (hb : attributeBase e f X.env (eval e X.env) = eval e X.env := by rfl) : SE cl X (.Attribute e f pos) (cUn (gFld c i) fa) := by
  obtain ⟨t, p, he⟩ := he
  refine ⟨_, pe_fld p hb, fun cσ ch v ch' h m σ H rs S Q q => ?_⟩
  obtain ⟨⟨x, c1⟩, h1, h⟩ := bindS h
  refine he _ _ _ _ h1 m σ H rs S _ fun m1 H1 w e1 S1 r1 => ?_
  cases r1 with
  | @ref n a hn =>
    obtain ⟨n', vs, z, en, hv, hz, er⟩ := gFld_inv h
    cases en
    cases er
    obtain ⟨a', ha', ct', dx, fs, hc', hH, R⟩ := S1.at hv
    rw [hn] at ha'; cases ha'
    rw [hc] at hc'; cases hc'
    obtain ⟨u, hu, ru⟩ := R.get i f _ hf hz
    exact ⟨a, _, dx, fs, u, rfl, hH, T.cls, T.na f (List.mem_of_getElem? hf), hu, q m1 H1 u e1 S1 ru⟩
  | _ => cases h
theorem ss_fld {f : Str} {ct : CT} {pos' : Pos} (c i : Nat) (T : ClsT X.K ct) (hc : cl[c]? = some ct) (hf : ct.fl[i]? = some f) (ho : SE cl X o fo) (he : SE cl X e fa) (hs : swapsWith e (some (.Attribute o f pos')) pos.line X.env = pure false := by rfl) : SS cl X (.Assign [.Attribute o f pos'] e pos) (cFldS c i fo fa) := by
  obtain ⟨t, p, he⟩ := he
  obtain ⟨u, p', ho⟩ := ho
  refine ⟨_, ps_fld p' p hs, fun cσ ch fl cσ' ch' h m σ H rs S D q => ?_⟩
  obtain ⟨⟨x, c1⟩, h1, h⟩ := bindS h
  obtain ⟨⟨y, c2⟩, h2, h⟩ := bindS h
  obtain ⟨c3, h3, h⟩ := bindS h
  cases h
  refine he _ _ _ _ h1 m σ H rs S _ fun m1 H1 w e1 S1 r1 => ?_
  refine ho _ _ _ _ h2 m1 σ H1 (rs.mono e1) S1 _ fun m2 H2 w2 e2 S2 r2 => ?_
  cases r2 with
  | @ref n a hn =>
    obtain ⟨n', vs, en, hv, er⟩ := sFldO_inv h3
    cases en
    cases er
    obtain ⟨a', ha', ct', dx, fs, hc', hH, R⟩ := S2.at hv
    rw [hn] at ha'; cases ha'
    rw [hc] at hc'; cases hc'
    refine ⟨a, _, dx, fs, rfl, hH, T.cls, T.na f (List.mem_of_getElem? hf), R.short, ?_⟩
    have ex : Ext X.K m2 H2 m2 (upd H2 a (.ins ct.a dx (putF f w fs))) := .upd hH trivial
    refine q m2 _ σ ((e1.trans e2).trans ex) (S2.set hn hH trivial ⟨ct, dx, _, hc, upd_same, ?_⟩) (rs.mono ((e1.trans e2).trans ex))
    exact (R.mono ex).put hf ((r1.mono e2).mono ex)
  | _ => cases h3
/-! calls -/
variable {k : Nat} {f : Addr} {fd : FuncData} {ps : List Str} {F : CFn} {n : Nat} {P : Program} {w : World} {K : PySem.W.Frag} {mg : Str → Option Value} {base : Heap}
theorem spS (hn : ∀ args ch r, F args ch = some r → args.length = n) {args : List PV} {ch ch' : CH} {v : PV} {m : List Addr} {H : Hp} {vs : List V} {Q : VK} {E : XK} (h : F args ch = some (v, ch')) (S : Sim K cl m ch H) (r : RVs K m H args vs)
    (q : ∀ m' H' w, Ext K m H m' H' → Sim K cl m' ch' H' → RV K m' H' v w → Q w H') : spC K cl n F vs H Q E := ⟨by rw [← r.length]; exact hn _ _ _ h, m, ch, args, v, ch', h, S, r, q⟩
theorem se_call {x : Str} {p : Pos} (hF : FnOk X.prog X.w X.K X.mg X.base CX0 k f fd ps (spC X.K cl n F)) (hn : ∀ args ch r, F args ch = some r → args.length = n) (hr : Room k X.A) (hm : X.mg x = some (.ref f)) (hk : PySem.W.keepIn X.K (.ref f) = true) (hb : Binds X.K fd ps [])
    (ha : SA cl X (e :: es) ga) (hg : Gl X x := by rfl) (hdb : (x == ("__debug__" : Str)) = false := by decide) (he : starEach (e :: es) X.env = (false, eval e X.env) :: starEach es X.env := by rfl) (hpl : (backTo pos (starEach es X.env)).any (·.1) = false := by rfl) :
    SE cl X (.Call (.Name x p) (e :: es) [] pos) (cCl F ga) := by
  obtain ⟨t, p, ha⟩ := ha
  refine ⟨_, pe_call hF hr hg hm hk hb .nil pass0 p hdb he hpl, fun cσ ch v ch' h m σ H rs S Q q => ?_⟩
  obtain ⟨⟨xs, c1⟩, h1, h⟩ := bindS h
  refine ha _ _ _ _ h1 m σ H rs S _ fun m1 H1 w1 e1 S1 r1 => ?_
  rw [List.append_nil]
  exact spS hn h S1 r1 fun m2 H2 u e2 S2 r2 => q m2 H2 u (e1.trans e2) S2 r2
theorem se_call0 {x : Str} {p : Pos} (hF : FnOk X.prog X.w X.K X.mg X.base CX0 k f fd ps (spC X.K cl n F)) (hn : ∀ args ch r, F args ch = some r → args.length = n) (hr : Room k X.A) (hm : X.mg x = some (.ref f)) (hk : PySem.W.keepIn X.K (.ref f) = true) (hb : Binds X.K fd ps [])
    (hg : Gl X x := by rfl) (hdb : (x == ("__debug__" : Str)) = false := by decide) : SE cl X (.Call (.Name x p) [] [] pos) (cCl F cNil) := by
  refine ⟨_, pe_call0 hF hr hg hm hk hb .nil pass0 hdb, fun cσ ch v ch' h m σ H rs S Q q => ?_⟩
  obtain ⟨⟨xs, c1⟩, h1, h⟩ := bindS h
  cases h1
  exact spS (E := E0) hn h S .nil q
theorem insS {K : PySem.W.Frag} {cl : List CT} {m : List Addr} {ch : CH} {H : Hp} {x : PV} {v : V} {c : Nat} {ct : CT} (S : Sim K cl m ch H) (r : RV K m H x v) (h : isIns c x ch = true) (hc : cl[c]? = some ct) {mn : Str} (hmn : mn ∉ ct.fl) :
    ∃ a dx fs, v = .ref a ∧ H a = some (.ins ct.a dx fs) ∧ fs.lookup mn = none := by
  cases r with
  | @ref n a hn =>
    simp only [isIns] at h
    split at h
    · rename_i c' vs hv
      have ec : c' = c := by simpa using h
      subst ec
      obtain ⟨a', ha', ct', dx, fs, hc', hH, R⟩ := S.at hv
      rw [hn] at ha'; cases ha'
      rw [hc] at hc'; cases hc'
      refine ⟨a, dx, fs, rfl, hH, ?_⟩
      cases q : fs.lookup mn with
      | none => rfl
      | some z =>
        exfalso
        have : ∀ l : List (Str × V), l.lookup mn = some z → mn ∈ l.map (·.1) := by
          intro l
          induction l with
          | nil => intro h; cases h
          | cons y l ih =>
            intro h
            rw [List.lookup_cons] at h
            split at h
            · rename_i hb
              simp only [List.map_cons, List.mem_cons]
              exact .inl (by simpa using hb)
            · simp only [List.map_cons, List.mem_cons]
              exact .inr (ih h)
        exact hmn (R.sub mn (this fs q))
    · cases h
  | _ => cases h
theorem se_meth {mn : Str} {apos : Pos} {pl : Sem Bool} {ct : CT} (c : Nat) (T : ClsT X.K ct) (hc : cl[c]? = some ct) (hM : Meth X.K ct.a mn f) (hmn : mn ∉ ct.fl) (hF : FnOk X.prog X.w X.K X.mg X.base CX0 k f fd ps (spC X.K cl n F)) (hn : ∀ args ch r, F args ch = some r → args.length = n) (hr : Room k X.A) (hb : Binds X.K fd ps [])
    (ho : SE cl X o fo) (ha : SA cl X (e :: es) ga) (hst : starEach (e :: es) X.env = (false, eval e X.env) :: starEach es X.env := by rfl) (hpl : (backTo pos (starEach es X.env)).any (·.1) = false := by rfl)
    (ht : eval (.Call (.Attribute o mn apos) (e :: es) [] pos) X.env = (do
      let ov ← eval o X.env
      standAt apos.atName
      let (f, first) ← holding [ov] (getMethod ov mn pl)
      callWith pos f first (backTo pos (starEach (e :: es) X.env)) (backToKw pos (keywordEach [] X.env))) := by rfl) : SE cl X (.Call (.Attribute o mn apos) (e :: es) [] pos) (cMeth c F fo ga) := by
  obtain ⟨t, p, ho⟩ := ho
  obtain ⟨u, p', ha⟩ := ha
  refine ⟨_, pe_meth p T.cls hM hF hr hb .nil pass0 p' hst hpl ht, fun cσ ch v ch' h m σ H rs S Q q => ?_⟩
  obtain ⟨⟨x, c1⟩, h1, h⟩ := bindS h
  split at h
  · rename_i hi
    obtain ⟨⟨xs, c2⟩, h2, h⟩ := bindS h
    refine ho _ _ _ _ h1 m σ H rs S _ fun m1 H1 w1 e1 S1 r1 => ?_
    obtain ⟨a, dx, fs, rfl, hH, hl⟩ := insS S1 r1 hi hc hmn
    refine ⟨a, dx, fs, rfl, hH, hl, ha _ _ _ _ h2 m1 σ H1 (rs.mono e1) S1 _ fun m2 H2 ws e2 S2 r2 => ?_⟩
    rw [List.append_nil]
    exact spS hn h S2 (.cons (r1.mono e2) r2) fun m3 H3 u e3 S3 r3 => q m3 H3 u ((e1.trans e2).trans e3) S3 r3
  · cases h
theorem se_meth0 {mn : Str} {apos : Pos} {pl : Sem Bool} {ct : CT} (c : Nat) (T : ClsT X.K ct) (hc : cl[c]? = some ct) (hM : Meth X.K ct.a mn f) (hmn : mn ∉ ct.fl) (hF : FnOk X.prog X.w X.K X.mg X.base CX0 k f fd ps (spC X.K cl n F)) (hn : ∀ args ch r, F args ch = some r → args.length = n) (hr : Room k X.A) (hb : Binds X.K fd ps [])
    (ho : SE cl X o fo)
    (ht : eval (.Call (.Attribute o mn apos) [] [] pos) X.env = (do
      let ov ← eval o X.env
      standAt apos.atName
      let (f, first) ← holding [ov] (getMethod ov mn pl)
      callWith pos f first (backTo pos (starEach [] X.env)) (backToKw pos (keywordEach [] X.env))) := by rfl) : SE cl X (.Call (.Attribute o mn apos) [] [] pos) (cMeth c F fo cNil) := by
  obtain ⟨t, p, ho⟩ := ho
  refine ⟨_, pe_meth0 p T.cls hM hF hr hb .nil pass0 ht, fun cσ ch v ch' h m σ H rs S Q q => ?_⟩
  obtain ⟨⟨x, c1⟩, h1, h⟩ := bindS h
  split at h
  · rename_i hi
    obtain ⟨⟨xs, c2⟩, h2, h⟩ := bindS h
    cases h2
    refine ho _ _ _ _ h1 m σ H rs S _ fun m1 H1 w1 e1 S1 r1 => ?_
    obtain ⟨a, dx, fs, rfl, hH, hl⟩ := insS S1 r1 hi hc hmn
    exact ⟨a, dx, fs, rfl, hH, hl, spS (E := E0) hn h S1 (.cons r1 .nil) fun m3 H3 u e3 S3 r3 => q m3 H3 u (e1.trans e3) S3 r3⟩
  · cases h
theorem Sim.make {K : PySem.W.Frag} {cl : List CT} {m : List Addr} {ch : CH} {H : Hp} {c : Nat} {ct : CT} {x dx : Addr} (S : Sim K cl m ch H) (hc : cl[c]? = some ct) (nd : ct.fl.Nodup) (few : ct.fl.length < 1000) (nx : H x = none) (ndx : H dx = none) (ne : dx ≠ x) :
    Sim K cl (m ++ [x]) (ch ++ [.ins c (List.replicate ct.fl.length none)]) (upd (upd H dx (.own x)) x (.ins ct.a dx [])) ∧ Ext K m H (m ++ [x]) (upd (upd H dx (.own x)) x (.ins ct.a dx [])) ∧ (m ++ [x])[ch.length]? = some x := by
  have S1 := S.fresh (o := .own x) ndx
  have nx' : upd H dx (.own x) x = none := (upd_ne (Ne.symm ne)).trans nx
  obtain ⟨a, b, c'⟩ := S1.new (o := .ins ct.a dx []) (u := .ins c (List.replicate ct.fl.length none)) nx' ⟨ct, dx, [], hc, upd_same, by simp, nd, few, by simp, by simp, fun i y p h1 h2 => by
    rw [List.getElem?_replicate] at h2
    split at h2 <;> cases h2⟩
  exact ⟨a, (Ext.fresh ndx).trans b, c'⟩
theorem se_make {x : Str} {p : Pos} {ct : CT} (c : Nat) (hc : cl[c]? = some ct) (nd : ct.fl.Nodup) (few : ct.fl.length < 1000) (M : Mk X.K ct.a f) (hF : FnOk X.prog X.w X.K X.mg X.base CX0 k f fd ps (spC X.K cl n F)) (hn : ∀ args ch r, F args ch = some r → args.length = n) (hr : Room (k + 1) X.A) (hm : X.mg x = some (.ref ct.a)) (hb : Binds X.K fd ps [])
    (ha : SA cl X (e :: es) ga) (hg : Gl X x := by rfl) (hdb : (x == ("__debug__" : Str)) = false := by decide) (he : starEach (e :: es) X.env = (false, eval e X.env) :: starEach es X.env := by rfl) (hpl : (backTo pos (starEach es X.env)).any (·.1) = false := by rfl) :
    SE cl X (.Call (.Name x p) (e :: es) [] pos) (cMake c ct.fl.length F ga) := by
  obtain ⟨t, p, ha⟩ := ha
  refine ⟨_, pe_make M hF hr hg hm hb .nil pass0 p hdb he hpl, fun cσ ch v ch' h m σ H rs S Q q => ?_⟩
  obtain ⟨⟨xs, c1⟩, h1, h⟩ := bindS h
  obtain ⟨⟨r, c2⟩, h2, h⟩ := bindS h
  refine ha _ _ _ _ h1 m σ H rs S _ fun m1 H1 w1 e1 S1 r1 => ?_
  intro y dy ny ndy ney
  obtain ⟨S2, e2, g2⟩ := S1.make hc nd few ny ndy ney
  rw [List.append_nil]
  refine spS hn h2 S2 (.cons (.ref g2) (r1.mono e2)) fun m3 H3 u e3 S3 r3 => ?_
  cases r with
  | non => cases r3; cases h; exact ⟨rfl, q m3 H3 _ ((e1.trans e2).trans e3) S3 (.ref (e3.pre _ _ g2))⟩
  | _ => cases h
theorem se_make0 {x : Str} {p : Pos} {ct : CT} (c : Nat) (hc : cl[c]? = some ct) (nd : ct.fl.Nodup) (few : ct.fl.length < 1000) (M : Mk X.K ct.a f) (hF : FnOk X.prog X.w X.K X.mg X.base CX0 k f fd ps (spC X.K cl n F)) (hn : ∀ args ch r, F args ch = some r → args.length = n) (hr : Room (k + 1) X.A) (hm : X.mg x = some (.ref ct.a)) (hb : Binds X.K fd ps [])
    (hg : Gl X x := by rfl) (hdb : (x == ("__debug__" : Str)) = false := by decide) : SE cl X (.Call (.Name x p) [] [] pos) (cMake c ct.fl.length F cNil) := by
  refine ⟨_, pe_make0 M hF hr hg hm hb .nil pass0 hdb, fun cσ ch v ch' h m σ H rs S Q q => ?_⟩
  obtain ⟨⟨xs, c1⟩, h1, h⟩ := bindS h
  obtain ⟨⟨r, c2⟩, h2, h⟩ := bindS h
  cases h1
  intro y dy ny ndy ney
  obtain ⟨S2, e2, g2⟩ := S.make hc nd few ny ndy ney
  refine spS hn h2 S2 (.cons (.ref g2) .nil) fun m3 H3 u e3 S3 r3 => ?_
  cases r with
  | non => cases r3; cases h; exact ⟨rfl, q m3 H3 _ (e2.trans e3) S3 (.ref (e3.pre _ _ g2))⟩
  | _ => cases h
/-- a def by its body -/
theorem fn_body {x qual : Str} {st : Stmt} {N : List Str} {fbd : CS} (Fn : Fun K x qual st f fd) (Sc : FnScope N ps (defScope st))
    (hb : ∀ (cdv : Value) (A : Around) (outer : List Env) (s : Shared) (H : Hp) (E : XK), Room k (A.deeper (envOfC qual (defScope st) s.heap.objs.size f cdv)) → SSs cl (cxOf CX0 P w K mg base N qual (defScope st) f cdv A outer s H E).nox (defBody st) fbd) :
    FnOk P w K mg base CX0 (k + 1) f fd ps (spC K cl ps.length (runF ps.length (N.length - ps.length) fbd)) := by
  refine Fn.ok Sc (fun vs H Q E h => h.1) (fun cdv A outer s H vs Q E hr h => ?_)
  obtain ⟨hl, m, ch, args, v, ch', hF, S, r, q⟩ := h
  obtain ⟨t, p, hs⟩ := hb cdv A outer s H E hr
  refine ⟨t, p, ?_⟩
  unfold runF at hF
  split at hF
  · rename_i ha
    obtain ⟨⟨fl, cσ, c1⟩, h1, h2⟩ := bindS hF
    have rs : RS K m H (args.map some ++ List.replicate (N.length - ps.length) none) (L2.start N vs) := by
      refine ⟨by simp [L2.start, r.length, hl], fun i p hp => ?_⟩
      unfold L2.start
      by_cases hi : i < args.length
      · rw [List.getElem?_append_left (by simpa using hi)] at hp
        rw [List.getElem?_append_left (by simp [← r.length]; exact hi)]
        simp only [List.getElem?_map] at hp ⊢
        cases e : args[i]? with
        | none => rw [e] at hp; cases hp
        | some y =>
          rw [e] at hp
          cases hp
          obtain ⟨u, hu, ru⟩ := r.get e
          exact ⟨u, by rw [hu]; rfl, ru⟩
      · rw [List.getElem?_append_right (by simpa using hi), List.getElem?_replicate] at hp
        split at hp <;> cases hp
    refine hs _ _ _ _ _ h1 m (L2.start N vs) H rs S _ ?_
    cases fl with
    | nx => cases h2; exact fun m' H' σ' e S' _ => q m' H' _ e S' .non
    | bk => cases h2
    | ct => cases h2
    | rt v => cases h2; exact q
  · cases hF
end
end Cn
namespace Cn
open PySem L2

abbrev C2 := PV → PV → CH → Option (PV × CH)
abbrev C1 := PV → CH → Option (PV × CH)
abbrev CL := List PV → CH → Option (PV × CH)
def lstAt (ch : CH) (n : Nat) : Option (List PV) := match ch[n]? with
  | some (.lst xs) => some xs
  | _ => none
def dctAt (ch : CH) (n : Nat) : Option (List (Key × PV)) := match ch[n]? with
  | some (.dct xs) => some xs
  | _ => none
theorem lstAt_eq {ch : CH} {n : Nat} {xs : List PV} (h : lstAt ch n = some xs) : ch[n]? = some (.lst xs) := by
  unfold lstAt at h
  split at h
  · cases h; assumption
  · cases h
theorem dctAt_eq {ch : CH} {n : Nat} {xs : List (Key × PV)} (h : dctAt ch n = some xs) : ch[n]? = some (.dct xs) := by
  unfold dctAt at h
  split at h
  · cases h; assumption
  · cases h
theorem Sim.lst {K : PySem.W.Frag} {cl : List CT} {m : List Addr} {ch : CH} {H : Hp} (S : Sim K cl m ch H) {n : Nat} {a : Addr} {xs : List PV} (hn : m[n]? = some a) (h : lstAt ch n = some xs) : ∃ vs, H a = some (.lst vs) ∧ RVs K m H xs vs := S.ob n a _ hn (lstAt_eq h)
theorem Sim.dct {K : PySem.W.Frag} {cl : List CT} {m : List Addr} {ch : CH} {H : Hp} (S : Sim K cl m ch H) {n : Nat} {a : Addr} {xs : List (Key × PV)} (hn : m[n]? = some a) (h : dctAt ch n = some xs) : ∃ vs, H a = some (.dK vs) ∧ RKV K m H xs vs := S.ob n a _ hn (dctAt_eq h)
/-- a sequence: a list (by number, or a constant one), a tuple -/
def seqOf (x : PV) (ch : CH) : Option (List PV) := match x with
  | .tup xs => some xs
  | .con xs => some xs
  | .ref n => lstAt ch n
  | _ => none
theorem seq_rel {K : PySem.W.Frag} {cl : List CT} {m : List Addr} {ch : CH} {H : Hp} {x : PV} {v : V} {xs : List PV} (S : Sim K cl m ch H) (r : RV K m H x v) (h : seqOf x ch = some xs) :
    ∃ p vs, v = .ref p ∧ (SqL K H p vs ∨ SqT K H p vs) ∧ RVs K m H xs vs := by
  cases r with
  | tup hT rr => cases h; exact ⟨_, _, rfl, .inr hT.t, rr⟩
  | con hT rr => cases h; exact ⟨_, _, rfl, .inl hT.l, rr⟩
  | ref hn =>
    obtain ⟨vs, h1, h2⟩ := S.lst hn h
    exact ⟨_, vs, rfl, .inl (.of h1), h2⟩
  | _ => cases h

/-! ### arithmetic -/
def oAdd : C2 := fun x y ch => match x, y with
  | .int i, .int j => some (.int (i + j), ch)
  | .str a, .str b => if a.length + b.length ≤ sizeLine then some (.str (a ++ b), ch) else none
  | .tup a, .tup b => if a.length + b.length ≤ sizeLine then some (.tup (a ++ b), ch) else none
  | .ref n, .ref k => (lstAt ch n).bind fun a => (lstAt ch k).bind fun b => if a.length + b.length ≤ sizeLine then some (.ref ch.length, ch ++ [.lst (a ++ b)]) else none
  | _, _ => none
def oSub : C2 := fun x y ch => match x, y with
  | .int i, .int j => some (.int (i - j), ch)
  | _, _ => none
/-- a text, n times -/
def strRep (x : Str) (n : Nat) : Str := ⟨(List.replicate n x.cps).foldl (· ++ ·) #[]⟩
def oMulI : C2 := fun x y ch => match x, y with
  | .int i, .int j => if (-(2 ^ 64) < i ∧ i < 2 ^ 64) ∨ (-(2 ^ 64) < j ∧ j < 2 ^ 64) then some (.int (i * j), ch) else none
  | _, _ => none
def oMul : C2 := fun x y ch => match x, y with
  | .int i, .int j => if (-(2 ^ 64) < i ∧ i < 2 ^ 64) ∨ (-(2 ^ 64) < j ∧ j < 2 ^ 64) then some (.int (i * j), ch) else none
  | .str x, .int j => if (2 ≤ j ∧ j ≤ 1000000) ∧ (1 ≤ x.length ∧ x.length * j.toNat ≤ sizeLine) ∧ (strRep x j.toNat).length ≤ sizeLine then some (.str (strRep x j.toNat), ch) else none
  | _, _ => none
def oDiv : C2 := fun x y ch => match x, y with
  | .int i, .int j => if 0 < j ∧ j < 1073741824 then some (.int (i / j), ch) else none
  | _, _ => none
def oMod : C2 := fun x y ch => match x, y with
  | .int i, .int j => if 0 < j then some (.int (i % j), ch) else none
  | _, _ => none
def oShr : C2 := fun x y ch => match x, y with
  | .int i, .int j => if 0 ≤ j then some (.int (i / 2 ^ j.toNat), ch) else none
  | _, _ => none
def oShl : C2 := fun x y ch => match x, y with
  | .int i, .int j => if 0 ≤ j ∧ j ≤ 1000000 ∧ i.natAbs < 2 ^ 64 then some (.int (i * 2 ^ j.toNat), ch) else none
  | _, _ => none
def oAnd : C2 := fun x y ch => match x, y with
  | .int i, .int j => some (.int (Builtin.bitAnd i j), ch)
  | _, _ => none
def oOr : C2 := fun x y ch => match x, y with
  | .int i, .int j => some (.int (Builtin.bitOr i j), ch)
  | _, _ => none
def oXor : C2 := fun x y ch => match x, y with
  | .int i, .int j => some (.int (Builtin.bitXor i j), ch)
  | _, _ => none
def oNeg : C1 := fun x ch => match x with
  | .int i => some (.int (-i), ch)
  | _ => none
def oLt : C2 := fun x y ch => match x, y with
  | .int i, .int j => some (.bl (decide (i < j)), ch)
  | _, _ => none
def oLe : C2 := fun x y ch => match x, y with
  | .int i, .int j => some (.bl (decide (i ≤ j)), ch)
  | _, _ => none
def oGt : C2 := fun x y ch => match x, y with
  | .int i, .int j => some (.bl (decide (j < i)), ch)
  | _, _ => none
def oGe : C2 := fun x y ch => match x, y with
  | .int i, .int j => some (.bl (decide (j ≤ i)), ch)
  | _, _ => none

section
variable {K : PySem.W.Frag} {cl : List CT} {X : Cx}
theorem s_ii {g : Int → Int → V} {g' : Int → Int → PV} {o : C2} (ho : ∀ x y ch z ch', o x y ch = some (z, ch') → ∃ i j, x = .int i ∧ y = .int j ∧ z = g' i j ∧ ch' = ch) (hr : ∀ i j m H, RV K m H (g' i j) (g i j)) : SOp K cl (rI0 g) o := by
  intro x y ch z ch' h m H v w S rx ry Q q
  obtain ⟨i, j, rfl, rfl, rfl, rfl⟩ := ho _ _ _ _ _ h
  cases rx; cases ry
  exact ⟨i, j, rfl, rfl, q m H _ .refl S (hr i j m H)⟩
theorem s_iic {C : Int → Int → Prop} {g : Int → Int → V} {g' : Int → Int → PV} {o : C2} (ho : ∀ x y ch z ch', o x y ch = some (z, ch') → ∃ i j, x = .int i ∧ y = .int j ∧ C i j ∧ z = g' i j ∧ ch' = ch) (hr : ∀ i j m H, RV K m H (g' i j) (g i j)) : SOp K cl (rI C g) o := by
  intro x y ch z ch' h m H v w S rx ry Q q
  obtain ⟨i, j, rfl, rfl, hc, rfl, rfl⟩ := ho _ _ _ _ _ h
  cases rx; cases ry
  exact ⟨i, j, rfl, rfl, hc, q m H _ .refl S (hr i j m H)⟩
theorem s_sub : SOp K cl (rI0 fun i j => .int (i - j)) oSub := s_ii (g' := fun i j => .int (i - j)) (fun x y ch z ch' h => by
  cases x <;> cases y <;> cases h; exact ⟨_, _, rfl, rfl, rfl, rfl⟩) fun i j m H => .int _
theorem s_mulI : SOp K cl (rI CMul fun i j => .int (i * j)) oMulI := s_iic (g' := fun i j => .int (i * j)) (fun x y ch z ch' h => by
  cases x <;> cases y <;> first | (cases h; done) | (simp only [oMulI] at h; split at h; (cases h; exact ⟨_, _, rfl, rfl, by assumption, rfl, rfl⟩); (cases h))) fun i j m H => .int _
def rRepS : R2 := fun x y H Q => ∃ (a : Str) (j : Int), x = .str a ∧ y = .int j ∧ ((2 ≤ j ∧ j ≤ 1000000) ∧ (1 ≤ a.length ∧ a.length * j.toNat ≤ sizeLine) ∧ (strRep a j.toNat).length ≤ sizeLine) ∧ Q (.str (strRep a j.toNat)) H
theorem op_repS : OpR X (binaryOp .Mult) rRepS := by
  intro pins s σ H x y v u Q I rx ry h
  obtain ⟨a, j, rfl, rfl, ⟨⟨h1, h2⟩, ⟨h3, h4⟩, h5⟩, q⟩ := h
  obtain ⟨t, rfl⟩ := rx
  obtain ⟨t', rfl⟩ := ry
  have n1 : ¬ j < 1 := by omega
  have n2 : ¬ ((j == 1 || a.length == 0) = true) := by
    simp only [Bool.or_eq_true, beq_iff_eq]
    omega
  refine P.mul_str (by rw [decide_eq_false (show ¬ j < -(2 ^ 63 : Int) by omega), decide_eq_false (show ¬ j ≥ 2 ^ 63 by omega)]; rfl) (fun _ _ => ?_) (fun _ _ => ?_) ?_
  · have hs : a.length ≤ sizeLine := Nat.le_trans (Nat.le_mul_of_pos_right _ (by omega)) h4
    have hs2 : sizeLine = 16777216 := by decide
    have : (2 ^ 63 - 1 : Int) / 1000000 ≤ (2 ^ 63 - 1) / j := by
      refine (Int.le_ediv_iff_mul_le (by omega)).mpr ?_
      have e : (2 ^ 63 - 1 : Int) / 1000000 = 9223372036854 := by decide
      rw [e]
      omega
    have e : (2 ^ 63 - 1 : Int) / 1000000 = 9223372036854 := by decide
    omega
  · show decide (a.length * j.toNat > sizeLine) = false
    exact decide_eq_false (by omega)
  · rw [if_neg n1, if_neg n2]
    exact ⟨h5, .str (strRep a j.toNat), H, I.tok _, ⟨_, rfl⟩, q⟩
def rMulA : R2 := fun x y H Q => rI CMul (fun i j => .int (i * j)) x y H Q ∨ rRepS x y H Q
theorem op_mulA : OpR X (binaryOp .Mult) rMulA := OpR.or op_mul op_repS
theorem s_mul : SOp K cl rMulA oMul := by
  intro x y ch z ch' h m H v w S rx ry Q q
  cases rx with
  | int i =>
    cases ry with
    | int j =>
      simp only [oMul] at h
      split at h
      · cases h; exact .inl ⟨i, j, rfl, rfl, by assumption, q m H _ .refl S (.int _)⟩
      · cases h
    | _ => cases h
  | str a =>
    cases ry with
    | int j =>
      simp only [oMul] at h
      split at h
      · cases h; exact .inr ⟨a, j, rfl, rfl, by assumption, q m H _ .refl S (.str _)⟩
      · cases h
    | _ => cases h
  | _ => cases h
theorem s_div : SOp K cl (rI CDiv fun i j => .int (i / j)) oDiv := s_iic (g' := fun i j => .int (i / j)) (fun x y ch z ch' h => by
  cases x <;> cases y <;> first | (cases h; done) | (simp only [oDiv] at h; split at h; (cases h; exact ⟨_, _, rfl, rfl, by assumption, rfl, rfl⟩); (cases h))) fun i j m H => .int _
theorem s_mod : SOp K cl (rI (fun _ j => 0 < j) fun i j => .int (i % j)) oMod := s_iic (g' := fun i j => .int (i % j)) (fun x y ch z ch' h => by
  cases x <;> cases y <;> first | (cases h; done) | (simp only [oMod] at h; split at h; (cases h; exact ⟨_, _, rfl, rfl, by assumption, rfl, rfl⟩); (cases h))) fun i j m H => .int _
theorem s_shr : SOp K cl (rI (fun _ j => 0 ≤ j) fun i j => .int (i / 2 ^ j.toNat)) oShr := s_iic (g' := fun i j => .int (i / 2 ^ j.toNat)) (fun x y ch z ch' h => by
  cases x <;> cases y <;> first | (cases h; done) | (simp only [oShr] at h; split at h; (cases h; exact ⟨_, _, rfl, rfl, by assumption, rfl, rfl⟩); (cases h))) fun i j m H => .int _
theorem s_shl : SOp K cl (rI CPow fun i j => .int (i * 2 ^ j.toNat)) oShl := s_iic (g' := fun i j => .int (i * 2 ^ j.toNat)) (fun x y ch z ch' h => by
  cases x <;> cases y <;> first | (cases h; done) | (simp only [oShl] at h; split at h; (cases h; exact ⟨_, _, rfl, rfl, by assumption, rfl, rfl⟩); (cases h))) fun i j m H => .int _
theorem s_and : SOp K cl (rI0 fun i j => .int (Builtin.bitAnd i j)) oAnd := s_ii (g' := fun i j => .int (Builtin.bitAnd i j)) (fun x y ch z ch' h => by
  cases x <;> cases y <;> cases h; exact ⟨_, _, rfl, rfl, rfl, rfl⟩) fun i j m H => .int _
theorem s_or : SOp K cl (rI0 fun i j => .int (Builtin.bitOr i j)) oOr := s_ii (g' := fun i j => .int (Builtin.bitOr i j)) (fun x y ch z ch' h => by
  cases x <;> cases y <;> cases h; exact ⟨_, _, rfl, rfl, rfl, rfl⟩) fun i j m H => .int _
theorem s_xor : SOp K cl (rI0 fun i j => .int (Builtin.bitXor i j)) oXor := s_ii (g' := fun i j => .int (Builtin.bitXor i j)) (fun x y ch z ch' h => by
  cases x <;> cases y <;> cases h; exact ⟨_, _, rfl, rfl, rfl, rfl⟩) fun i j m H => .int _
theorem s_lt : SOp K cl (rI0 fun i j => .bl (decide (i < j))) oLt := s_ii (g' := fun i j => .bl (decide (i < j))) (fun x y ch z ch' h => by
  cases x <;> cases y <;> cases h; exact ⟨_, _, rfl, rfl, rfl, rfl⟩) fun i j m H => .bl _
theorem s_le : SOp K cl (rI0 fun i j => .bl (decide (i ≤ j))) oLe := s_ii (g' := fun i j => .bl (decide (i ≤ j))) (fun x y ch z ch' h => by
  cases x <;> cases y <;> cases h; exact ⟨_, _, rfl, rfl, rfl, rfl⟩) fun i j m H => .bl _
theorem s_gt : SOp K cl (rI0 fun i j => .bl (decide (j < i))) oGt := s_ii (g' := fun i j => .bl (decide (j < i))) (fun x y ch z ch' h => by
  cases x <;> cases y <;> cases h; exact ⟨_, _, rfl, rfl, rfl, rfl⟩) fun i j m H => .bl _
theorem s_ge : SOp K cl (rI0 fun i j => .bl (decide (j ≤ i))) oGe := s_ii (g' := fun i j => .bl (decide (j ≤ i))) (fun x y ch z ch' h => by
  cases x <;> cases y <;> cases h; exact ⟨_, _, rfl, rfl, rfl, rfl⟩) fun i j m H => .bl _
theorem s_neg : SUn K cl (rU fun i => .int (-i)) oNeg := by
  intro x ch z ch' h m H v S rx Q q
  cases rx <;> cases h
  exact ⟨_, rfl, q m H _ .refl S (.int _)⟩
def rCatF (K : PySem.W.Frag) : R2 := fun x y H Q => ∃ a b xs ys, x = .ref a ∧ y = .ref b ∧ SqT K H a xs ∧ SqT K H b ys ∧ xs.length + ys.length ≤ sizeLine ∧
  (xs = [] → Q (.ref b) H) ∧ (xs ≠ [] → ys = [] → Q (.ref a) H) ∧ (xs ≠ [] → ys ≠ [] → ∀ o p, TupO o → H p = none → Q (.ref p) (upd H p (.frz o (.tup (xs ++ ys)))))
theorem op_catF : OpR X (binaryOp .Add) (rCatF X.K) := by
  intro pins s σ H x y v u Q I rx ry h
  obtain ⟨a, b, xs, ys, rfl, rfl, ha, hb, hz, q0, q1, q2⟩ := h
  cases rx
  cases ry
  obtain ⟨its, r1, p1, _⟩ := I.tuple ha
  obtain ⟨its2, r2, p2, _⟩ := I.tuple hb
  by_cases hx : xs = []
  · subst hx
    cases r1
    exact L2.cat_tup0 p1 p2 ⟨.ref b, H, I, rfl, q0 rfl⟩
  · refine HT.cat_tup p1 p2 (fun e => hx ?_) (fun e => ?_) (fun e => ?_) (by rw [← r1.length, ← r2.length]; exact hz)
    · subst e; cases r1; rfl
    · subst e
      cases r2
      exact ⟨.ref a, H, I, rfl, q1 hx rfl⟩
    · have hy : ys ≠ [] := fun e' => e (by subst e'; cases r2; rfl)
      have hf : H s.heap.objs.size = none := I.hok.fresh (Nat.le_refl _)
      refine ⟨.ref s.heap.objs.size, _, I.laid (o := .frz { cls := .type "tuple", data := .seq (its ++ its2).toArray } (.tup (xs ++ ys))) (t' := s.toks) (fun b u e => Heap.get?_push_of_some _ e) (Nat.le_refl _) ?_, rfl, q2 hx hy _ _ ⟨rfl, rfl⟩ hf⟩
      exact ⟨Heap.get?_push_size _ rfl, by rw [List.length_append]; exact hz, its ++ its2, r1.append r2, ⟨_, Heap.get?_push_size _ rfl, rfl, _, rfl⟩⟩
def rAddA (K : PySem.W.Frag) : R2 := fun x y H Q => (rI0 (fun i j => .int (i + j)) x y H Q ∨ ∃ i j, x = .str i ∧ y = .str j ∧ i.length + j.length ≤ sizeLine ∧ Q (.str (i ++ j)) H) ∨ (rCatF K x y H Q ∨ rCat x y H Q)
theorem op_addA : OpR X (binaryOp .Add) (rAddA X.K) := OpR.or (OpR.or op_add op_add_str) (OpR.or op_catF op_cat)
theorem s_add : SOp K cl (rAddA K) oAdd := by
  intro x y ch z ch' h m H v w S rx ry Q q
  cases rx with
  | int i =>
    cases ry with
    | int j => cases h; exact .inl (.inl ⟨i, j, rfl, rfl, q m H _ .refl S (.int _)⟩)
    | _ => cases h
  | str a =>
    cases ry with
    | str b =>
      simp only [oAdd] at h
      split at h
      · cases h; exact .inl (.inr ⟨_, _, rfl, rfl, by assumption, q m H _ .refl S (.str _)⟩)
      · cases h
    | _ => cases h
  | @tup p xs vs hT rr =>
    cases ry with
    | @tup p' ys ws hT' rr' =>
      simp only [oAdd] at h
      split at h
      · rename_i hz
        cases h
        have e1 := rr.length
        have e2 := rr'.length
        refine .inr (.inl ⟨_, _, _, _, rfl, rfl, hT.t, hT'.t, by omega, fun e => ?_, fun e e' => ?_, fun e e' o p ho np => ?_⟩)
        · subst e
          have : xs = [] := List.length_eq_zero_iff.mp e1
          subst this
          exact q m H _ .refl S (.tup hT' rr')
        · subst e'
          have : ys = [] := List.length_eq_zero_iff.mp e2
          subst this
          rw [List.append_nil] at q
          exact q m H _ .refl S (.tup hT rr)
        · exact q m _ _ (.fresh np) (S.fresh np) (.new np ho (rr.append rr'))
      · cases h
    | _ => cases h
  | @ref n a hn =>
    cases ry with
    | @ref k b hk =>
      obtain ⟨xs, hx, h⟩ := bindS h
      obtain ⟨ys, hy, h⟩ := bindS h
      split at h
      · rename_i hz
        cases h
        obtain ⟨vs, h1, r1⟩ := S.lst hn hx
        obtain ⟨ws, h2, r2⟩ := S.lst hk hy
        refine .inr (.inr ⟨_, _, _, _, rfl, rfl, h1, h2, by rw [← r1.length, ← r2.length]; exact hz, fun p np => ?_⟩)
        have ex : Ext K m H (m ++ [p]) (upd H p (.lst (vs ++ ws))) := (Ext.fresh np).trans .snoc
        obtain ⟨S2, e2, g2⟩ := S.new (o := .lst (vs ++ ws)) (u := .lst (xs ++ ys)) np ⟨_, upd_same, (r1.append r2).mono ex⟩
        exact q _ _ _ e2 S2 (.ref g2)
      · cases h
    | _ => cases h
  | _ => cases h

/-! ### equality -/
section
variable (f : Nat → Option PyData)
mutual
def pdW : PV → Option PyData
  | .non => some .none
  | .bl b => some (.bool b)
  | .int i => some (.int i)
  | .str x => some (.str x)
  | .tup xs => (pdWs xs).map .tuple
  | .con xs => (pdWs xs).map .list
  | .ref n => f n
def pdWs : List PV → Option (List PyData)
  | [] => some []
  | x :: xs => (pdW x).bind fun d => (pdWs xs).map fun ds => d :: ds
end
end
def refD (ch : CH) : Nat → Nat → Option PyData
  | 0, _ => none
  | n + 1, i => (lstAt ch i).bind fun xs => (pdWs (refD ch n) xs).map .list
abbrev toD (ch : CH) (x : PV) : Option PyData := pdW (refD ch 60) x
section
variable {m : List Addr} {ch : CH} {H : Hp} {f : Nat → Option PyData}
mutual
theorem pdW_dp (hf : ∀ n d a, f n = some d → m[n]? = some a → Dp K H (.ref a) d ∧ d.plain = true) : ∀ (x : PV) (v : V) (d : PyData), RV K m H x v → pdW f x = some d → Dp K H v d ∧ d.plain = true
  | .non, _, _, r, h => by cases r; cases h; exact ⟨.non, rfl⟩
  | .bl _, _, _, r, h => by cases r; cases h; exact ⟨.bl _, rfl⟩
  | .int _, _, _, r, h => by cases r; cases h; exact ⟨.int _, rfl⟩
  | .str _, _, _, r, h => by cases r; cases h; exact ⟨.str _, rfl⟩
  | .tup xs, _, _, r, h => by
    cases r with
    | tup hT rr =>
      simp only [pdW, Option.map_eq_some_iff] at h
      obtain ⟨ds, h1, rfl⟩ := h
      obtain ⟨a, b⟩ := pdWs_dp hf xs _ ds rr h1
      exact ⟨.tup hT.t a, by simpa only [PyData.plain] using b⟩
  | .con xs, _, _, r, h => by
    cases r with
    | con hT rr =>
      simp only [pdW, Option.map_eq_some_iff] at h
      obtain ⟨ds, h1, rfl⟩ := h
      obtain ⟨a, b⟩ := pdWs_dp hf xs _ ds rr h1
      exact ⟨.lst hT.l a, by simpa only [PyData.plain] using b⟩
  | .ref n, _, _, r, h => by
    cases r with
    | ref hn => exact hf n _ _ h hn
theorem pdWs_dp (hf : ∀ n d a, f n = some d → m[n]? = some a → Dp K H (.ref a) d ∧ d.plain = true) : ∀ (xs : List PV) (vs : List V) (ds : List PyData), RVs K m H xs vs → pdWs f xs = some ds → DpAll K H vs ds ∧ PyData.plainAll ds = true
  | [], _, _, r, h => by cases r; cases h; exact ⟨.nil, rfl⟩
  | x :: xs, _, _, r, h => by
    cases r with
    | cons r rr =>
      simp only [pdWs] at h
      obtain ⟨d, h1, h⟩ := bindS h
      simp only [Option.map_eq_some_iff] at h
      obtain ⟨ds, h2, rfl⟩ := h
      obtain ⟨a, b⟩ := pdW_dp hf x _ d r h1
      obtain ⟨a', b'⟩ := pdWs_dp hf xs _ ds rr h2
      exact ⟨.cons a a', by simp only [PyData.plainAll, b, b', Bool.and_self]⟩
end
theorem refD_dp (S : Sim K cl m ch H) : ∀ k n d a, refD ch k n = some d → m[n]? = some a → Dp K H (.ref a) d ∧ d.plain = true
  | 0, _, _, _, h, _ => by cases h
  | k + 1, n, d, a, h, hn => by
    simp only [refD] at h
    obtain ⟨xs, h1, h⟩ := bindS h
    simp only [Option.map_eq_some_iff] at h
    obtain ⟨ds, h2, rfl⟩ := h
    obtain ⟨vs, h3, rr⟩ := S.lst hn h1
    obtain ⟨a', b'⟩ := pdWs_dp (refD_dp S k) xs _ ds rr h2
    exact ⟨.lst (.of h3) a', by simpa only [PyData.plain] using b'⟩
theorem toD_dp (S : Sim K cl m ch H) {x : PV} {v : V} {d : PyData} (r : RV K m H x v) (h : toD ch x = some d) : Dp K H v d ∧ d.plain = true := pdW_dp (refD_dp S 60) x v d r h
end
def eqB (x y : PV) (ch : CH) : Option Bool := (toD ch x).bind fun d => (toD ch y).bind fun e => if min d.depth e.depth ≤ 60 then some (PyData.eqv d e) else none
def oEq : C2 := fun x y ch => (eqB x y ch).map fun b => (.bl b, ch)
def oNe : C2 := fun x y ch => (eqB x y ch).map fun b => (.bl (!b), ch)
theorem room_hu {k : Nat} {A : Around} (r : Room k A) : A.units + 200 < cLine := by have := r.un; omega
def rEqP (K : PySem.W.Frag) : R2 := fun x y H Q => ∃ d e, Dp K H x d ∧ Dp K H y e ∧ d.plain = true ∧ e.plain = true ∧ min d.depth e.depth ≤ 60 ∧ Q (.bl (PyData.eqv d e)) H
def rNeP (K : PySem.W.Frag) : R2 := fun x y H Q => ∃ d e, Dp K H x d ∧ Dp K H y e ∧ d.plain = true ∧ e.plain = true ∧ min d.depth e.depth ≤ 60 ∧ Q (.bl (!PyData.eqv d e)) H
theorem op_eqP (hu : X.A.units + 200 < cLine) : OpR X (compareOp .Eq) (rEqP X.K) := by
  intro pins s σ H x y v u Q I rx ry h
  obtain ⟨d, e, hd, he, sd, se, hz, q⟩ := h
  obtain ⟨as, r1⟩ := Dp.reads I d x v hd rx
  obtain ⟨bs, r2⟩ := Dp.reads I e y u he ry
  exact SeqAt.eq_plain r1 r2 sd se (by omega) ⟨.bl _, H, I, rfl, q⟩
theorem op_neP (hu : X.A.units + 200 < cLine) : OpR X (compareOp .NotEq) (rNeP X.K) := by
  intro pins s σ H x y v u Q I rx ry h
  obtain ⟨d, e, hd, he, sd, se, hz, q⟩ := h
  obtain ⟨as, r1⟩ := Dp.reads I d x v hd rx
  obtain ⟨bs, r2⟩ := Dp.reads I e y u he ry
  exact SeqAt.ne_plain r1 r2 sd se (by omega) ⟨.bl _, H, I, rfl, q⟩
theorem eqB_inv {x y : PV} {ch : CH} {b : Bool} (h : eqB x y ch = some b) : ∃ d e, toD ch x = some d ∧ toD ch y = some e ∧ min d.depth e.depth ≤ 60 ∧ b = PyData.eqv d e := by
  obtain ⟨d, h1, h⟩ := bindS h
  obtain ⟨e, h2, h⟩ := bindS h
  split at h
  · cases h; exact ⟨d, e, h1, h2, by assumption, rfl⟩
  · cases h
theorem s_eq : SOp K cl (rEqP K) oEq := by
  intro x y ch z ch' h m H v w S rx ry Q q
  simp only [oEq, Option.map_eq_some_iff] at h
  obtain ⟨b, h, e⟩ := h
  cases e
  obtain ⟨d, e, h1, h2, h3, rfl⟩ := eqB_inv h
  obtain ⟨a, p⟩ := toD_dp S rx h1
  obtain ⟨a', p'⟩ := toD_dp S ry h2
  exact ⟨d, e, a, a', p, p', h3, q m H _ .refl S (.bl _)⟩
theorem s_ne : SOp K cl (rNeP K) oNe := by
  intro x y ch z ch' h m H v w S rx ry Q q
  simp only [oNe, Option.map_eq_some_iff] at h
  obtain ⟨b, h, e⟩ := h
  cases e
  obtain ⟨d, e, h1, h2, h3, rfl⟩ := eqB_inv h
  obtain ⟨a, p⟩ := toD_dp S rx h1
  obtain ⟨a', p'⟩ := toD_dp S ry h2
  exact ⟨d, e, a, a', p, p', h3, q m H _ .refl S (.bl _)⟩
def oIsN : C2 := fun x y ch => match y with
  | .non => some (.bl (match x with | .non => true | _ => false), ch)
  | _ => none
def oNotN : C2 := fun x y ch => match y with
  | .non => some (.bl (match x with | .non => false | _ => true), ch)
  | _ => none
theorem s_isN : SOp K cl (fun x y H Q => y = .non ∧ Q (.bl (decide (x = .non))) H) oIsN := by
  intro x y ch z ch' h m H v w S rx ry Q q
  cases ry <;> first | (cases h; done) | skip
  refine ⟨rfl, ?_⟩
  cases rx <;> (cases h; first | (rw [show decide _ = false from decide_eq_false (fun e => nomatch e)]; exact q m H _ .refl S (.bl _)) | exact q m H _ .refl S (.bl _))
theorem s_notN : SOp K cl (fun x y H Q => y = .non ∧ Q (.bl (!decide (x = .non))) H) oNotN := by
  intro x y ch z ch' h m H v w S rx ry Q q
  cases ry <;> first | (cases h; done) | skip
  refine ⟨rfl, ?_⟩
  cases rx <;> (cases h; first | (rw [show decide _ = false from decide_eq_false (fun e => nomatch e)]; exact q m H _ .refl S (.bl _)) | exact q m H _ .refl S (.bl _))

/-! ### in -/
def keyOf : PV → Option Key
  | .int i => some (.inl i)
  | .str x => some (.inr x)
  | _ => none
def kP : Key → PV
  | .inl i => .int i
  | .inr x => .str x
theorem keyOf_rel {m : List Addr} {H : Hp} {x : PV} {v : V} {k : Key} (r : RV K m H x v) (h : keyOf x = some k) : v = kV k := by
  cases r <;> cases h <;> rfl
def vC (kvs : List (Key × PV)) (k : Key) : Option PV := (kvs.find? fun kv => decide (kv.1 = k)).map (·.2)
def putC (kvs : List (Key × PV)) (k : Key) (v : PV) : List (Key × PV) :=
  if (kvs.any fun kv => decide (kv.1 = k)) = true then kvs.map (fun kv => if kv.1 = k then (kv.1, v) else kv) else kvs ++ [(k, v)]
def dropC (kvs : List (Key × PV)) (k : Key) : List (Key × PV) := kvs.filter fun kv => decide (kv.1 ≠ k)
section
variable {m : List Addr} {H : Hp}
theorem rk_val {kvs : List (Key × PV)} {ws : List (Key × V)} (r : RKV K m H kvs ws) (k : Key) : match vC kvs k with
    | some p => ∃ v, valV ws k = some v ∧ RV K m H p v
    | none => valV ws k = none := by
  induction r with
  | nil => exact rfl
  | @cons p q ps qs h t ih =>
    by_cases e : p.1 = k
    · have e' : q.1 = k := h.1.symm.trans e
      have : vC (p :: ps) k = some p.2 := by simp [vC, List.find?_cons, e]
      rw [this, valV_pos e']
      exact ⟨_, rfl, h.2⟩
    · have e' : ¬ q.1 = k := fun z => e (h.1.trans z)
      have : vC (p :: ps) k = vC ps k := by simp [vC, List.find?_cons, e]
      rw [this, valV_neg e']
      exact ih
theorem rk_some {kvs : List (Key × PV)} {ws : List (Key × V)} {k : Key} {p : PV} (r : RKV K m H kvs ws) (h : vC kvs k = some p) : ∃ v, valV ws k = some v ∧ RV K m H p v := by
  have := rk_val r k
  rw [h] at this
  exact this
theorem rk_isSome {kvs : List (Key × PV)} {ws : List (Key × V)} (r : RKV K m H kvs ws) (k : Key) : (valV ws k).isSome = (vC kvs k).isSome := by
  have := rk_val r k
  cases e : vC kvs k with
  | none => rw [e] at this; rw [show valV ws k = none from this]; rfl
  | some p => rw [e] at this; obtain ⟨v, h, _⟩ := this; rw [h]; rfl
theorem rk_any {kvs : List (Key × PV)} {ws : List (Key × V)} (r : RKV K m H kvs ws) (k : Key) : (kvs.any fun kv => decide (kv.1 = k)) = ws.any fun kv => decide (kv.1 = k) := by
  induction r with
  | nil => rfl
  | @cons p q ps qs h t ih => rw [List.any_cons, List.any_cons, ih, h.1]
theorem rk_length {kvs : List (Key × PV)} {ws : List (Key × V)} (r : RKV K m H kvs ws) : kvs.length = ws.length := Paired.length r
theorem rk_append : ∀ {kvs : List (Key × PV)} {ws : List (Key × V)} {kvs' : List (Key × PV)} {ws' : List (Key × V)}, RKV K m H kvs ws → RKV K m H kvs' ws' → RKV K m H (kvs ++ kvs') (ws ++ ws')
  | _, _, _, _, .nil, s => s
  | _, _, _, _, .cons h t, s => .cons h (rk_append t s)
theorem rk_put {kvs : List (Key × PV)} {ws : List (Key × V)} {k : Key} {p : PV} {v : V} (r : RKV K m H kvs ws) (rv : RV K m H p v) : RKV K m H (putC kvs k p) (putK ws k v) := by
  unfold putC putK
  rw [rk_any r k]
  split
  · induction r with
    | nil => exact .nil
    | @cons a b as bs h t ih =>
      rename_i hh
      rw [List.map_cons, List.map_cons]
      have t' : RKV K m H (as.map fun kv => if kv.1 = k then (kv.1, p) else kv) (bs.map fun kv => if kv.1 = k then (kv.1, v) else kv) := by
        clear ih hh
        induction t with
        | nil => exact .nil
        | @cons a b as bs h t ih =>
          rw [List.map_cons, List.map_cons]
          refine .cons ?_ ih
          by_cases e : a.1 = k
          · rw [if_pos e, if_pos (h.1.symm.trans e)]; exact ⟨h.1, rv⟩
          · rw [if_neg e, if_neg fun z => e (h.1.trans z)]; exact h
      refine .cons ?_ t'
      by_cases e : a.1 = k
      · rw [if_pos e, if_pos (h.1.symm.trans e)]; exact ⟨h.1, rv⟩
      · rw [if_neg e, if_neg fun z => e (h.1.trans z)]; exact h
  · exact rk_append r (.cons ⟨rfl, rv⟩ .nil)
theorem rk_drop {kvs : List (Key × PV)} {ws : List (Key × V)} {k : Key} (r : RKV K m H kvs ws) : RKV K m H (dropC kvs k) (dropK ws k) := by
  unfold dropC dropK
  induction r with
  | nil => exact .nil
  | @cons a b as bs h t ih =>
    rw [List.filter_cons, List.filter_cons, h.1]
    split
    · exact .cons h ih
    · exact ih
end
/-- what «in» asks: a sequence of data, a text, a dict -/
def inB (x y : PV) (ch : CH) : Option Bool := match y with
  | .str z => (match x with
    | .str c => some (!(Builtin.Str.occurrences z c 0 z.length 1).isEmpty)
    | _ => none)
  | .ref n => (match ch[n]? with
    | some (.dct kvs) => (keyOf x).map fun k => (vC kvs k).isSome
    | some (.lst xs) => (toD ch x).bind fun d => (pdWs (refD ch 60) xs).bind fun ds => if min (PyData.depthAll ds) d.depth ≤ 60 then some (ds.any fun e => PyData.eqv e d) else none
    | _ => none)
  | .tup xs => (toD ch x).bind fun d => (pdWs (refD ch 60) xs).bind fun ds => if min (PyData.depthAll ds) d.depth ≤ 60 then some (ds.any fun e => PyData.eqv e d) else none
  | .con xs => (toD ch x).bind fun d => (pdWs (refD ch 60) xs).bind fun ds => if min (PyData.depthAll ds) d.depth ≤ 60 then some (ds.any fun e => PyData.eqv e d) else none
  | _ => none
def oIn : C2 := fun x y ch => (inB x y ch).map fun b => (.bl b, ch)
def oNotIn : C2 := fun x y ch => (inB x y ch).map fun b => (.bl (!b), ch)
def rInP (K : PySem.W.Frag) (neg : Bool) : R2 := fun x y H Q => (∃ i j, x = .str i ∧ y = .str j ∧ Q (.bl (if neg then !(!(Builtin.Str.occurrences j i 0 j.length 1).isEmpty) else !(Builtin.Str.occurrences j i 0 j.length 1).isEmpty)) H) ∨
  (∃ a o, y = .ref a ∧ DGet H a x o ∧ Q (.bl (if neg then !o.isSome else o.isSome)) H) ∨
  (∃ d ds, Dp K H x d ∧ d.plain = true ∧ (Dp K H y (.list ds) ∨ Dp K H y (.tuple ds)) ∧ PyData.plainAll ds = true ∧ min (PyData.depthAll ds) d.depth ≤ 60 ∧ Q (.bl (if neg then !(ds.any fun e => PyData.eqv e d) else ds.any fun e => PyData.eqv e d)) H)
theorem op_inP (hu : X.A.units + 200 < cLine) : OpR X (compareOp .In) (rInP X.K false) := by
  intro pins s σ H x y v u Q I rx ry h
  rcases h with ⟨i, j, rfl, rfl, q⟩ | ⟨a, o, rfl, g, q⟩ | ⟨d, ds, hd, pd, hy, py, hz, q⟩
  · exact op_in_str pins s σ H _ _ v u Q I rx ry ⟨i, j, rfl, rfl, q⟩
  · cases ry
    exact d_in (by omega) I g rx fun s' I' => ⟨.bl _, H, I', rfl, q⟩
  · obtain ⟨as, r1⟩ := Dp.reads I d x v hd rx
    rcases hy with hy | hy
    · obtain ⟨bs, r2⟩ := Dp.reads I _ y u hy ry
      exact SeqAt.in_list_data r2 r1 py pd (by omega) ⟨.bl _, H, I, rfl, q⟩
    · obtain ⟨bs, r2⟩ := Dp.reads I _ y u hy ry
      exact SeqAt.in_tuple_data r2 r1 py pd (by omega) ⟨.bl _, H, I, rfl, q⟩
theorem op_notInP (hu : X.A.units + 200 < cLine) : OpR X (compareOp .NotIn) (rInP X.K true) := by
  intro pins s σ H x y v u Q I rx ry h
  rcases h with ⟨i, j, rfl, rfl, q⟩ | ⟨a, o, rfl, g, q⟩ | ⟨d, ds, hd, pd, hy, py, hz, q⟩
  · exact L2.op_notIn_str pins s σ H _ _ v u Q I rx ry ⟨i, j, rfl, rfl, q⟩
  · cases ry
    exact d_notIn (by omega) I g rx fun s' I' => ⟨.bl _, H, I', rfl, q⟩
  · obtain ⟨as, r1⟩ := Dp.reads I d x v hd rx
    rcases hy with hy | hy
    · obtain ⟨bs, r2⟩ := Dp.reads I _ y u hy ry
      exact SeqAt.notIn_list_data r2 r1 py pd (by omega) ⟨.bl _, H, I, rfl, q⟩
    · obtain ⟨bs, r2⟩ := Dp.reads I _ y u hy ry
      exact SeqAt.notIn_tuple_data r2 r1 py pd (by omega) ⟨.bl _, H, I, rfl, q⟩
theorem inB_rel {m : List Addr} {H : Hp} {neg : Bool} {x y : PV} {ch : CH} {b : Bool} {v w : V} {Q : VK} (h : inB x y ch = some b) (S : Sim K cl m ch H) (rx : RV K m H x v) (ry : RV K m H y w) (q : Q (.bl (if neg then !b else b)) H) : rInP K neg v w H Q := by
  have seq : ∀ (xs : List PV) (vs : List V), RVs K m H xs vs → (toD ch x).bind (fun d => (pdWs (refD ch 60) xs).bind fun ds => if min (PyData.depthAll ds) d.depth ≤ 60 then some (ds.any fun e => PyData.eqv e d) else none) = some b →
      (∀ ds, DpAll K H vs ds → Dp K H w (.list ds) ∨ Dp K H w (.tuple ds)) → rInP K neg v w H Q := by
    intro xs vs rr h hw
    obtain ⟨d, h1, h⟩ := bindS h
    obtain ⟨ds, h2, h⟩ := bindS h
    split at h
    · rename_i hz
      cases h
      obtain ⟨a, p⟩ := toD_dp S rx h1
      obtain ⟨a', p'⟩ := pdWs_dp (refD_dp S 60) xs _ ds rr h2
      exact .inr (.inr ⟨d, ds, a, p, hw ds a', p', hz, q⟩)
    · cases h
  cases ry with
  | str z =>
    cases rx with
    | str c => cases h; exact .inl ⟨_, _, rfl, rfl, q⟩
    | _ => cases h
  | tup hT rr => exact seq _ _ rr h fun ds hd => .inr (.tup hT.t hd)
  | con hT rr => exact seq _ _ rr h fun ds hd => .inl (.lst hT.l hd)
  | @ref n a hn =>
    simp only [inB] at h
    split at h
    · rename_i kvs hk
      simp only [Option.map_eq_some_iff] at h
      obtain ⟨k, hk', rfl⟩ := h
      obtain ⟨ws, hH, rr⟩ := S.ob n a _ hn hk
      have ev := keyOf_rel rx hk'
      subst ev
      refine .inr (.inl ⟨a, _, rfl, DGet.k hH, ?_⟩)
      rw [rk_isSome rr k]
      exact q
    · rename_i xs hk
      obtain ⟨vs, hH, rr⟩ := S.ob n a _ hn hk
      exact seq _ _ rr h fun ds hd => .inl (.lst (.of hH) hd)
    · cases h
  | _ => cases h
theorem s_in : SOp K cl (rInP K false) oIn := by
  intro x y ch z ch' h m H v w S rx ry Q q
  simp only [oIn, Option.map_eq_some_iff] at h
  obtain ⟨b, h, e⟩ := h
  cases e
  exact inB_rel h S rx ry (q m H _ .refl S (.bl _))
theorem s_notIn : SOp K cl (rInP K true) oNotIn := by
  intro x y ch z ch' h m H v w S rx ry Q q
  simp only [oNotIn, Option.map_eq_some_iff] at h
  obtain ⟨b, h, e⟩ := h
  cases e
  exact inB_rel h S rx ry (q m H _ .refl S (.bl _))
end
end Cn
namespace Cn
open PySem L2

section
variable {K : PySem.W.Frag} {cl : List CT} {X : Cx}
/-! ### a[i] -/
def oIx : C2 := fun x y ch => match x with
  | .str z => (match y with
    | .int i => if z.length ≤ sizeLine then (atI z.cps.toList i).map fun c => (.str ⟨#[c]⟩, ch) else none
    | _ => none)
  | .tup xs => (match y with
    | .int i => (atI xs i).map fun v => (v, ch)
    | _ => none)
  | .con xs => (match y with
    | .int i => (atI xs i).map fun v => (v, ch)
    | _ => none)
  | .ref n => (match ch[n]? with
    | some (.lst xs) => (match y with
      | .int i => (atI xs i).map fun v => (v, ch)
      | _ => none)
    | some (.dct kvs) => (keyOf y).bind fun k => (vC kvs k).map fun v => (v, ch)
    | _ => none)
  | _ => none
def rIxD : R2 := fun x y H Q => ∃ a v, x = .ref a ∧ DGet H a y (some v) ∧ Q v H
theorem ix_dict (hu : X.A.units + 200 < cLine) : IxR X rIxD := by
  intro value slice pins s σ H x y v u Q I rx ry h hs
  obtain ⟨a, z, rfl, g, q⟩ := h
  cases rx
  exact PyProof.Rows.tail_any (dict_typeIs I g) PySem.F.slot_dict_getitem.lookup (d_getItem (by omega) I g ry fun w' s' I' r' => ⟨z, H, I', r', q⟩) hs
def rIxA (K : PySem.W.Frag) : R2 := fun x y H Q => rIx K x y H Q ∨ rIxD x y H Q
theorem ix_any (hu : X.A.units + 200 < cLine) : IxR X (rIxA X.K) := IxR.or ix_seq (ix_dict hu)
theorem atI_rel {m : List Addr} {H : Hp} {xs : List PV} {vs : List V} {i : Int} {x : PV} (r : RVs K m H xs vs) (h : atI xs i = some x) : ∃ v, atI vs i = some v ∧ RV K m H x v := by
  unfold atI at h ⊢
  rw [← r.length]
  obtain ⟨j, h1, h2⟩ := bindS h
  rw [h1]
  exact r.get h2
theorem s_ix : SOp K cl (rIxA K) oIx := by
  intro x y ch z ch' h m H v w S rx ry Q q
  cases rx with
  | str t =>
    cases ry with
    | int i =>
      simp only [oIx] at h
      split at h
      · rename_i hz
        simp only [Option.map_eq_some_iff] at h
        obtain ⟨c, hc, e⟩ := h
        cases e
        exact .inl (.inr (.inr ⟨_, _, c, rfl, rfl, hz, hc, q m H _ .refl S (.str _)⟩))
      · cases h
    | _ => cases h
  | tup hT rr =>
    cases ry with
    | int i =>
      simp only [oIx, Option.map_eq_some_iff] at h
      obtain ⟨c, hc, e⟩ := h
      cases e
      obtain ⟨u, hu, ru⟩ := atI_rel rr hc
      exact .inl (.inr (.inl ⟨_, _, _, u, rfl, rfl, hT.t, hu, q m H _ .refl S ru⟩))
    | _ => cases h
  | con hT rr =>
    cases ry with
    | int i =>
      simp only [oIx, Option.map_eq_some_iff] at h
      obtain ⟨c, hc, e⟩ := h
      cases e
      obtain ⟨u, hu, ru⟩ := atI_rel rr hc
      exact .inl (.inl ⟨_, _, _, u, rfl, rfl, hT.l, hu, q m H _ .refl S ru⟩)
    | _ => cases h
  | @ref n a hn =>
    simp only [oIx] at h
    split at h
    · rename_i xs hk
      obtain ⟨vs, hH, rr⟩ := S.ob n a _ hn hk
      cases ry with
      | int i =>
        simp only [Option.map_eq_some_iff] at h
        obtain ⟨c, hc, e⟩ := h
        cases e
        obtain ⟨u, hu, ru⟩ := atI_rel rr hc
        exact .inl (.inl ⟨_, _, _, u, rfl, rfl, .of hH, hu, q m H _ .refl S ru⟩)
      | _ => cases h
    · rename_i kvs hk
      obtain ⟨ws, hH, rr⟩ := S.ob n a _ hn hk
      obtain ⟨k, h1, h⟩ := bindS h
      simp only [Option.map_eq_some_iff] at h
      obtain ⟨p, h2, e⟩ := h
      cases e
      have ev := keyOf_rel ry h1
      subst ev
      obtain ⟨u, hu, ru⟩ := rk_some rr h2
      refine .inr ⟨a, u, rfl, ?_, q m H _ .refl S ru⟩
      have g := DGet.k (k := k) hH
      rw [hu] at g
      exact g
    · cases h
  | _ => cases h
/-! ### slices -/
def cutP (xs : List PV) (lo hi : Option Int) : List PV := (xs.drop (HT.sIx xs.length 0 lo)).take (HT.sIx xs.length xs.length hi - HT.sIx xs.length 0 lo)
def oSl : PV → Option Int → Option Int → CH → Option (PV × CH) := fun x lo hi ch => match x with
  | .str z => if z.length ≤ sizeLine then some (.str (cutS z lo hi), ch) else none
  | .tup xs => some (.tup (cutP xs lo hi), ch)
  | .con xs => some (.ref ch.length, ch ++ [.lst (cutP xs lo hi)])
  | .ref n => (lstAt ch n).bind fun xs => some (.ref ch.length, ch ++ [.lst (cutP xs lo hi)])
  | _ => none
def rSlF (K : PySem.W.Frag) : V → Option Int → Option Int → Hp → VK → Prop := fun x lo hi H Q => ∃ a xs, x = .ref a ∧ SqT K H a xs ∧
  (HT.sIx xs.length 0 lo = 0 ∧ HT.sIx xs.length xs.length hi = xs.length → Q (.ref a) H) ∧ (¬ (HT.sIx xs.length 0 lo = 0 ∧ HT.sIx xs.length xs.length hi = xs.length) → ∀ o p, TupO o → H p = none → Q (.ref p) (upd H p (.frz o (.tup (cutV xs lo hi)))))
theorem sl_tupF : SlR X (rSlF X.K) := by
  intro pins s σ H x v vl vu lo hi sl Q I rx hs pl pu h
  obtain ⟨a, xs, rfl, hx, q1, q2⟩ := h
  cases rx
  obtain ⟨its, r, ht, hz⟩ := I.tuple hx
  have hlen : its.toArray.size = xs.length := by rw [List.size_toArray]; exact r.length.symm
  refine ⟨"tuple", _, PyProof.Rows.slot_tuple_getitem.lookup, ht.typeIs, ?_⟩
  by_cases hw : HT.sIx xs.length 0 lo = 0 ∧ HT.sIx xs.length xs.length hi = xs.length
  · exact L2.getItem_tuple_whole ht hs pl pu (by rw [hlen]; exact hw) ⟨.ref a, H, I, rfl, q1 hw⟩
  · refine HT.getItem_tuple_cut ht hs pl pu (by rw [hlen]; exact hw) ?_ (by rw [hlen]; exact hz)
    rw [hlen]
    have r' : Vals (cutV xs lo hi) (((its.drop (HT.sIx xs.length 0 lo)).take (HT.sIx xs.length xs.length hi - HT.sIx xs.length 0 lo))) := (r.drop _).take _
    have hf : H s.heap.objs.size = none := I.hok.fresh (Nat.le_refl _)
    refine ⟨.ref s.heap.objs.size, _, I.laid (o := .frz { cls := .type "tuple", data := .seq ((its.drop (HT.sIx xs.length 0 lo)).take (HT.sIx xs.length xs.length hi - HT.sIx xs.length 0 lo)).toArray } (.tup (cutV xs lo hi))) (t' := s.toks) (fun b u e => Heap.get?_push_of_some _ e) (Nat.le_refl _) ?_, rfl, q2 hw _ _ ⟨rfl, rfl⟩ hf⟩
    exact ⟨Heap.get?_push_size _ rfl, Nat.le_trans (cutV_length _ _ _) hz, _, r', ⟨_, Heap.get?_push_size _ rfl, rfl, _, rfl⟩⟩
def rSlAny (K : PySem.W.Frag) : V → Option Int → Option Int → Hp → VK → Prop := fun x l h H Q => (rSlL K x l h H Q ∨ rSlF K x l h H Q) ∨ rSlS x l h H Q
theorem sl_any : SlR X (rSlAny X.K) := SlR.or (SlR.or sl_list sl_tupF) sl_str
theorem cut_rel {m : List Addr} {H : Hp} {xs : List PV} {vs : List V} (r : RVs K m H xs vs) (lo hi : Option Int) : RVs K m H (cutP xs lo hi) (cutV vs lo hi) := by
  unfold cutP cutV
  rw [← r.length]
  exact (r.drop _).take _
theorem s_sl : SSl K cl (rSlAny K) oSl := by
  intro x lo hi ch z ch' h m H v S rx Q q
  have new : ∀ (a : Addr) (xs : List PV) (vs : List V), SqL K H a vs → RVs K m H xs vs → (PV.ref ch.length, ch ++ [CO.lst (cutP xs lo hi)]) = (z, ch') → rSlL K (.ref a) lo hi H Q := by
    intro a xs vs hL rr e
    cases e
    refine ⟨a, vs, rfl, hL, fun p np => ?_⟩
    have ex : Ext K m H (m ++ [p]) (upd H p (.lst (cutV vs lo hi))) := (Ext.fresh np).trans .snoc
    obtain ⟨S2, e2, g2⟩ := S.new (o := .lst (cutV vs lo hi)) (u := .lst (cutP xs lo hi)) np ⟨_, upd_same, (cut_rel rr lo hi).mono ex⟩
    exact q _ _ _ e2 S2 (.ref g2)
  cases rx with
  | str t =>
    simp only [oSl] at h
    split at h
    · cases h; exact .inr ⟨_, rfl, by assumption, q m H _ .refl S (.str _)⟩
    · cases h
  | @tup a xs vs hT rr =>
    cases h
    refine .inl (.inr ⟨a, vs, rfl, hT.t, fun hw => ?_, fun hw o p ho np => ?_⟩)
    · have : cutP xs lo hi = xs := by
        unfold cutP
        rw [rr.length, hw.1, hw.2]
        simp [rr.length]
        rw [← rr.length, List.take_length]
      rw [this] at q
      exact q m H _ .refl S (.tup hT rr)
    · exact q m _ _ (.fresh np) (S.fresh np) (.new np ho (cut_rel rr lo hi))
  | con hT rr => cases h; exact .inl (.inl (new _ _ _ hT.l rr rfl))
  | @ref n a hn =>
    obtain ⟨xs, hx, h⟩ := bindS h
    obtain ⟨vs, hH, rr⟩ := S.lst hn hx
    cases h
    exact .inl (.inl (new _ _ _ (.of hH) rr rfl))
  | _ => cases h
/-! ### stores -/
def oSet (o i v : PV) (ch : CH) : Option CH := match o with
  | .ref n => match ch[n]? with
    | some (.lst xs) => (match i with
      | .int k => (ixN xs.length k).map fun j => ch.set n (.lst (xs.set j v))
      | _ => none)
    | some (.dct kvs) => (keyOf i).bind fun k => if kvs.length < sizeLine then some (ch.set n (.dct (putC kvs k v))) else none
    | _ => none
  | _ => none
def rSetD : TSet := fun o i v H Q => ∃ a H', o = .ref a ∧ DPut H a i v H' ∧ Q H'
theorem set_dict (hu : X.A.units + 200 < cLine) : PSet X rSetD := by
  intro pins s σ H o i v ov iv u Q I ro ri rv h
  obtain ⟨a, H', rfl, g, q⟩ := h
  cases ro
  exact d_setItem (by omega) I g ri rv fun s' I' => ⟨H', I', q⟩
theorem PSet.or {r r' : TSet} (h : PSet X r) (h' : PSet X r') : PSet X (fun o i v H Q => r o i v H Q ∨ r' o i v H Q) := by
  intro pins s σ H o i v ov iv u Q I ro ri rv q
  rcases q with q | q
  · exact h pins s σ H o i v ov iv u Q I ro ri rv q
  · exact h' pins s σ H o i v ov iv u Q I ro ri rv q
def rSetA : TSet := fun o i v H Q => rSetL o i v H Q ∨ rSetD o i v H Q
theorem set_any (hu : X.A.units + 200 < cLine) : PSet X rSetA := PSet.or set_list (set_dict hu)
theorem s_set : SSet K cl rSetA oSet := by
  intro x y z ch ch' h m H u v w S rx ry rz Q q
  cases rx with
  | @ref n a hn =>
    simp only [oSet] at h
    split at h
    · rename_i xs hk
      obtain ⟨vs, hH, rr⟩ := S.ob n a _ hn hk
      cases ry with
      | int k =>
        simp only [Option.map_eq_some_iff] at h
        obtain ⟨j, hj, e⟩ := h
        cases e
        refine .inl ⟨a, vs, k, j, rfl, rfl, hH, by rw [← rr.length]; exact hj, ?_⟩
        have ex : Ext K m H m (upd H a (.lst (vs.set j w))) := .upd hH trivial
        exact q m _ ex (S.set hn hH trivial ⟨_, upd_same, (rr.set rz j).mono ex⟩)
      | _ => cases h
    · rename_i kvs hk
      obtain ⟨ws, hH, rr⟩ := S.ob n a _ hn hk
      obtain ⟨k, h1, h⟩ := bindS h
      split at h
      · rename_i hz
        cases h
        have ev := keyOf_rel ry h1
        subst ev
        refine .inr ⟨a, _, rfl, DPut.k hH (by rw [← rk_length rr]; exact hz), ?_⟩
        have ex : Ext K m H m (upd H a (.dK (putK ws k w))) := .upd hH trivial
        exact q m _ ex (S.set hn hH trivial ⟨_, upd_same, RKV.mono ex (rk_put rr rz)⟩)
      · cases h
    · cases h
  | _ => cases h
theorem get_list : PGet X (rIxL X.K) := by
  intro pins s σ H o i ov iv Q I ro ri h
  obtain ⟨p, xs, k, z, rfl, rfl, hq, he, q⟩ := h
  cases ro
  obtain ⟨t, rfl⟩ := ri
  obtain ⟨its, r, pl, hz⟩ := I.list hq
  obtain ⟨j, h1, h2, h3, h4, h5⟩ := atI_get he
  obtain ⟨w, ew, rw'⟩ := r.get h2
  have hl := r.length
  have hn := line63
  have fin : EP X pins σ Q w s := ⟨z, H, I, rw', q⟩
  by_cases h0 : 0 ≤ k
  · have hj : k.toNat = j := by
      rw [seqIndex_of h0 h5] at h1
      exact Option.some.inj h1
    exact PySem.wpAny_getItem_list pl.isList h0 (by omega) (by rw [hj]; simpa using ew) fin
  · have hj : (k + (its.toArray.size : Int)).toNat = j := by
      rw [seqIndex_neg (by omega) h4] at h1
      rw [List.size_toArray, ← hl]
      exact Option.some.inj h1
    exact PySem.wpAny_getItem_list_neg pl.isList (by omega) (by rw [List.size_toArray] <;> omega) (by omega) (by rw [hj]; simpa using ew) fin
theorem get_dict (hu : X.A.units + 200 < cLine) : PGet X rIxD := by
  intro pins s σ H o i ov iv Q I ro ri h
  obtain ⟨a, z, rfl, g, q⟩ := h
  cases ro
  exact d_getItem (by omega) I g ri fun w' s' I' r' => ⟨z, H, I', r', q⟩
def rGetA (K : PySem.W.Frag) : R2 := fun x y H Q => rIxL K x y H Q ∨ rIxD x y H Q
theorem get_any (hu : X.A.units + 200 < cLine) : PGet X (rGetA X.K) := by
  intro pins s σ H o i ov iv Q I ro ri h
  rcases h with h | h
  · exact get_list pins s σ H o i ov iv Q I ro ri h
  · exact get_dict hu pins s σ H o i ov iv Q I ro ri h
def oGet : C2 := fun x y ch => match x with
  | .ref _ => oIx x y ch
  | _ => none
theorem s_get : SOp K cl (rGetA K) oGet := by
  intro x y ch z ch' h m H v w S rx ry Q q
  cases rx with
  | @ref n a hn =>
    simp only [oGet, oIx] at h
    split at h
    · rename_i xs hk
      obtain ⟨vs, hH, rr⟩ := S.ob n a _ hn hk
      cases ry with
      | int i =>
        simp only [Option.map_eq_some_iff] at h
        obtain ⟨c, hc, e⟩ := h
        cases e
        obtain ⟨u, hu, ru⟩ := atI_rel rr hc
        exact .inl ⟨_, _, _, u, rfl, rfl, .of hH, hu, q m H _ .refl S ru⟩
      | _ => cases h
    · rename_i kvs hk
      obtain ⟨ws, hH, rr⟩ := S.ob n a _ hn hk
      obtain ⟨k, h1, h⟩ := bindS h
      simp only [Option.map_eq_some_iff] at h
      obtain ⟨p, h2, e⟩ := h
      cases e
      have ev := keyOf_rel ry h1
      subst ev
      obtain ⟨u, hu, ru⟩ := rk_some rr h2
      refine .inr ⟨a, u, rfl, ?_, q m H _ .refl S ru⟩
      have g := DGet.k (k := k) hH
      rw [hu] at g
      exact g
    · cases h
  | _ => cases h
def cAugSb (a b : CE) (g : C2) (e : CE) : CS := fun σ ch => (a σ ch).bind fun p => (b σ p.2).bind fun q => (oGet p.1 q.1 q.2).bind fun x => (e σ x.2).bind fun y => (g x.1 y.1 y.2).bind fun z => (oSet p.1 q.1 z.1 z.2).bind fun c => some (.nx, σ, c)
theorem ss_augsb {o i e : Expr} {fo fi fe : CE} {op : Operator} {tpos pos : Pos} {r : R2} {g : C2} (hu : X.A.units + 200 < cLine) (hop : OpR X (inplaceOp op) r) (hr : SOp X.K cl r g) (ho : SE cl X o fo) (hi : SE cl X i fi) (he : SE cl X e fe)
    (ha : ∀ ov iv new, augStore i ov iv new = (do holding [new, ov, iv] (setItem ov iv new); release [new, ov, iv] []; pure .next) := by intros; rfl) : SS cl X (.AugAssign (.Subscript o i tpos) op e pos) (cAugSb fo fi g fe) := by
  obtain ⟨t, p, ho⟩ := ho
  obtain ⟨t', p', hi⟩ := hi
  obtain ⟨t'', p'', he⟩ := he
  refine ⟨_, ps_augS p p' (get_any hu) p'' (tip := r) hop (set_any hu) ha, fun cσ ch fl cσ' ch' h m σ H rs S D q => ?_⟩
  obtain ⟨⟨x, c1⟩, h1, h⟩ := bindS h
  obtain ⟨⟨y, c2⟩, h2, h⟩ := bindS h
  obtain ⟨⟨z, c3⟩, h3, h⟩ := bindS h
  obtain ⟨⟨u, c4⟩, h4, h⟩ := bindS h
  obtain ⟨⟨v, c5⟩, h5, h⟩ := bindS h
  obtain ⟨c6, h6, h⟩ := bindS h
  cases h
  refine ho _ _ _ _ h1 m σ H rs S _ fun m1 H1 w1 e1 S1 r1 => ?_
  refine hi _ _ _ _ h2 m1 σ H1 (rs.mono e1) S1 _ fun m2 H2 w2 e2 S2 r2 => ?_
  refine s_get _ _ _ _ _ h3 m2 H2 w1 w2 S2 (r1.mono e2) r2 _ fun m3 H3 w3 e3 S3 r3 => ?_
  refine he _ _ _ _ h4 m3 σ H3 (rs.mono ((e1.trans e2).trans e3)) S3 _ fun m4 H4 w4 e4 S4 r4 => ?_
  refine hr _ _ _ _ _ h5 m4 H4 w3 w4 S4 (r3.mono e4) r4 _ fun m5 H5 w5 e5 S5 r5 => ?_
  have e25 := (e3.trans e4).trans e5
  refine s_set _ _ _ _ _ h6 m5 H5 w1 w2 w5 S5 ((r1.mono e2).mono e25) (r2.mono e25) r5 _ fun m6 H6 e6 S6 => ?_
  have e06 := ((e1.trans e2).trans e25).trans e6
  exact q m6 H6 σ e06 S6 (rs.mono e06)
/-! ### del -/
def oDel (o i : PV) (ch : CH) : Option CH := match o with
  | .ref n => match ch[n]? with
    | some (.dct kvs) => (keyOf i).bind fun k => if (vC kvs k).isSome = true then some (ch.set n (.dct (dropC kvs k))) else none
    | _ => none
  | _ => none
def cDel (a b : CE) : CS := fun σ ch => (a σ ch).bind fun p => (b σ p.2).bind fun q => (oDel p.1 q.1 q.2).bind fun c => some (.nx, σ, c)
theorem ss_del {o i : Expr} {fo fi : CE} {tpos pos : Pos} (ho : SE cl X o fo) (hi : SE cl X i fi) : SS cl X (.Delete [.Subscript o i tpos] pos) (cDel fo fi) := by
  obtain ⟨t, p, ho⟩ := ho
  obtain ⟨t', p', hi⟩ := hi
  refine ⟨_, ps_ddel p p', fun cσ ch fl cσ' ch' h m σ H rs S D q => ?_⟩
  obtain ⟨⟨x, c1⟩, h1, h⟩ := bindS h
  obtain ⟨⟨y, c2⟩, h2, h⟩ := bindS h
  obtain ⟨c3, h3, h⟩ := bindS h
  cases h
  refine ho _ _ _ _ h1 m σ H rs S _ fun m1 H1 w1 e1 S1 r1 => ?_
  refine hi _ _ _ _ h2 m1 σ H1 (rs.mono e1) S1 _ fun m2 H2 w2 e2 S2 r2 => ?_
  cases r1 with
  | @ref n a hn =>
    simp only [oDel] at h3
    split at h3
    · rename_i kvs hk
      obtain ⟨ws, hH, rr⟩ := S2.ob n a _ (e2.pre _ _ hn) hk
      obtain ⟨k, h4, h3⟩ := bindS h3
      split at h3
      · rename_i hz
        cases h3
        have ev := keyOf_rel r2 h4
        subst ev
        refine ⟨a, ws, k, rfl, hH, rfl, by rw [rk_isSome rr]; exact hz, ?_⟩
        have ex : Ext X.K m2 H2 m2 (upd H2 a (.dK (dropK ws k))) := .upd hH trivial
        exact q m2 _ σ ((e1.trans e2).trans ex) (S2.set (e2.pre _ _ hn) hH trivial ⟨_, upd_same, RKV.mono ex (rk_drop rr)⟩) (rs.mono ((e1.trans e2).trans ex))
      · cases h3
    · cases h3
  | _ => cases h3
/-! ### dicts made -/
def cDNew : CE := fun _ ch => some (.ref ch.length, ch ++ [.dct []])
theorem se_dnew {pos : Pos} : SE cl X (.Dict [] [] pos) cDNew := by
  refine ⟨_, pe_dnewK, fun cσ ch v ch' h m σ H rs S Q q => ?_⟩
  cases h
  intro p np
  obtain ⟨S2, e2, g2⟩ := S.new (o := .dK []) (u := .dct []) np ⟨_, upd_same, .nil⟩
  exact q _ _ _ e2 S2 (.ref g2)
abbrev CPs := CSt → CH → Option (List (Key × PV) × CH)
def cPsN : CPs := fun _ ch => some ([], ch)
def cPsC (k v : CE) (r : CPs) : CPs := fun σ ch => (k σ ch).bind fun p => (v σ p.2).bind fun q => (keyOf p.1).bind fun kk => (r σ q.2).bind fun u => some ((kk, q.1) :: u.1, u.2)
def mergeC (kvs more : List (Key × PV)) : List (Key × PV) := more.foldl (fun acc kv => putC acc kv.1 kv.2) kvs
/-- a written dict: laid ahead of its items -/
def cDisp (r : CPs) : CE := fun σ ch => (r σ (ch ++ [.dct []])).bind fun p => (dctAt p.2 ch.length).bind fun z => if z.length = 0 ∧ p.1.length ≤ 15 then some (.ref ch.length, p.2.set ch.length (.dct (mergeC [] p.1))) else none
def SPs (cl : List CT) (X : Cx) (pos : Pos) (ks : List (Option Expr)) (vs : List Expr) (f : CPs) : Prop := ∃ trs, PPs X pos ks vs trs ∧ ∀ cσ ch r ch', f cσ ch = some (r, ch') → ∀ m σ H, RS X.K m H cσ σ → Sim X.K cl m ch H →
  ∀ Q : List (V × V) → Hp → Prop, (∀ m' H' ws, Ext X.K m H m' H' → Sim X.K cl m' ch' H' → RKV X.K m' H' r ws → Q (ws.map fun kv => (kV kv.1, kv.2)) H') → tPairs trs σ H Q
theorem sps_nil {pos : Pos} : SPs cl X pos [] [] cPsN := ⟨_, pps_nil, fun cσ ch r ch' h m σ H rs S Q q => by cases h; exact q m H [] .refl S .nil⟩
theorem sps_cons {pos : Pos} {k v : Expr} {ks : List (Option Expr)} {vs : List Expr} {fk fv : CE} {r : CPs} (hk : SE cl X k fk) (hv : SE cl X v fv) (hr : SPs cl X pos ks vs r) : SPs cl X pos (some k :: ks) (v :: vs) (cPsC fk fv r) := by
  obtain ⟨t, p, hk⟩ := hk
  obtain ⟨t', p', hv⟩ := hv
  obtain ⟨trs, p'', hr⟩ := hr
  refine ⟨_, pps_cons p p' p'', fun cσ ch r ch' h m σ H rs S Q q => ?_⟩
  obtain ⟨⟨x, c1⟩, h1, h⟩ := bindS h
  obtain ⟨⟨y, c2⟩, h2, h⟩ := bindS h
  obtain ⟨kk, h3, h⟩ := bindS h
  obtain ⟨⟨us, c3⟩, h4, h⟩ := bindS h
  cases h
  refine hk _ _ _ _ h1 m σ H rs S _ fun m1 H1 w1 e1 S1 r1 => ?_
  refine hv _ _ _ _ h2 m1 σ H1 (rs.mono e1) S1 _ fun m2 H2 w2 e2 S2 r2 => ?_
  refine hr _ _ _ _ h4 m2 σ H2 (rs.mono (e1.trans e2)) S2 _ fun m3 H3 ws e3 S3 r3 => ?_
  have ev := keyOf_rel r1 h3
  subst ev
  exact q m3 H3 ((kk, w2) :: ws) ((e1.trans e2).trans e3) S3 (.cons ⟨rfl, r2.mono e3⟩ r3)
theorem rk_merge {m : List Addr} {H : Hp} : ∀ {more : List (Key × PV)} {ws : List (Key × V)} {kvs : List (Key × PV)} {vs : List (Key × V)}, RKV K m H more ws → RKV K m H kvs vs → RKV K m H (mergeC kvs more) (mergeK vs ws)
  | _, _, _, _, .nil, s => s
  | p :: _, q :: _, kvs, vs, .cons h t, s => by
    show RKV K m H (mergeC (putC kvs p.1 p.2) _) (mergeK (putK vs q.1 q.2) _)
    rw [← h.1]
    exact rk_merge t (rk_put s h.2)
theorem se_disp {pos : Pos} {ks : List (Option Expr)} {vs : List Expr} {r : CPs} (h : SPs cl X pos ks vs r) (hall : ks.all (·.isSome) = true := by rfl) (hl : ks.length = vs.length := by rfl) (h0 : ks ≠ [] := by intro z; cases z) (h15 : ks.length ≤ 15 := by decide) : SE cl X (.Dict ks vs pos) (cDisp r) := by
  obtain ⟨trs, p, h⟩ := h
  refine ⟨_, pe_disp p hall hl h0 h15, fun cσ ch v ch' hh m σ H rs S Q q => ?_⟩
  obtain ⟨⟨us, c1⟩, h1, hh⟩ := bindS hh
  obtain ⟨z, hz0, hh⟩ := bindS hh
  split at hh
  · rename_i hz
    cases hh
    obtain rfl : z = [] := List.length_eq_zero_iff.mp hz.1
    intro p np
    obtain ⟨S2, e2, g2⟩ := S.new (o := .dK []) (u := .dct []) np ⟨_, upd_same, .nil⟩
    refine h _ _ _ _ h1 _ σ _ (rs.mono e2) S2 _ fun m3 H3 ws e3 S3 r3 => ?_
    have g3 := e3.pre _ _ g2
    obtain ⟨w0, hH, rr⟩ := S3.dct g3 hz0
    cases rr
    refine ⟨hH, ws, rfl, by rw [← rk_length r3]; exact hz.2, ?_⟩
    have ex : Ext X.K m3 H3 m3 (upd H3 p (.dK (mergeK [] ws))) := .upd hH trivial
    exact q m3 _ _ ((e2.trans e3).trans ex) (S3.set g3 hH trivial ⟨_, upd_same, RKV.mono ex (rk_merge r3 .nil)⟩) (.ref g3)
  · cases hh
end
end Cn
namespace Cn
open PySem L2

section
variable {K : PySem.W.Frag} {cl : List CT} {X : Cx}
theorem RVs.one {m : List Addr} {H : Hp} {x : PV} {vs : List V} (r : RVs K m H [x] vs) : ∃ v, vs = [v] ∧ RV K m H x v := by
  cases r with
  | cons r t => cases t; exact ⟨_, rfl, r⟩
theorem RVs.two {m : List Addr} {H : Hp} {x y : PV} {vs : List V} (r : RVs K m H [x, y] vs) : ∃ v w, vs = [v, w] ∧ RV K m H x v ∧ RV K m H y w := by
  cases r with
  | cons r t =>
    obtain ⟨w, rfl, r'⟩ := t.one
    exact ⟨_, _, rfl, r, r'⟩
/-! ### len -/
def oLen : CL := fun xs ch => match xs with
  | [.str z] => if z.length ≤ sizeLine then some (.int z.length, ch) else none
  | [.tup xs] => some (.int xs.length, ch)
  | [.con xs] => some (.int xs.length, ch)
  | [.ref n] => (match ch[n]? with
    | some (.lst xs) => some (.int xs.length, ch)
    | some (.dct kvs) => some (.int kvs.length, ch)
    | _ => none)
  | _ => none
def rLenA (K : PySem.W.Frag) : List V → Hp → VK → Prop := fun xs H Q => (∃ x n, xs = [x] ∧ LenV K x H n ∧ Q (.int n) H) ∨ ∃ a kvs, xs = [.ref a] ∧ Rd H a (.dK kvs) ∧ Q (.int kvs.length) H
theorem call_lenA : CallR X (.builtin "len") (rLenA X.K) := CallR.or call_len (by
  intro pins s σ H xs us Q I r h
  obtain ⟨a, kvs, rfl, hd, q⟩ := h
  obtain ⟨u, rfl, rx⟩ := vals1 r
  cases rx
  exact d_len I hd fun t s' I' => ⟨.int _, H, I', ⟨t, rfl⟩, q⟩)
theorem s_len : SCl K cl (rLenA K) oLen := by
  intro x ch z ch' h m H v S r Q q
  cases x with
  | nil => cases h
  | cons x t =>
    cases t with
    | cons y t => cases x <;> cases h
    | nil =>
      obtain ⟨v, rfl, rx⟩ := r.one
      cases rx with
      | str t =>
        simp only [oLen] at h
        split at h
        · cases h; exact .inl ⟨_, _, rfl, ⟨by assumption, rfl⟩, q m H _ .refl S (.int _)⟩
        · cases h
      | tup hT rr => cases h; exact .inl ⟨_, _, rfl, .inr ⟨_, hT.t, rr.length⟩, q m H _ .refl S (.int _)⟩
      | con hT rr => cases h; exact .inl ⟨_, _, rfl, .inl ⟨_, hT.l, rr.length⟩, q m H _ .refl S (.int _)⟩
      | @ref n a hn =>
        simp only [oLen] at h
        split at h
        · rename_i xs hk
          obtain ⟨vs, hH, rr⟩ := S.ob n a _ hn hk
          cases h
          exact .inl ⟨_, _, rfl, .inl ⟨_, .of hH, rr.length⟩, q m H _ .refl S (.int _)⟩
        · rename_i xs hk
          obtain ⟨vs, hH, rr⟩ := S.ob n a _ hn hk
          cases h
          refine .inr ⟨_, vs, rfl, .inl hH, ?_⟩
          rw [← rk_length rr]
          exact q m H _ .refl S (.int _)
        · cases h
      | _ => cases h
/-! ### int, abs, str, ord, chr -/
def oInt : CL := fun xs ch => match xs with
  | [.int i] => some (.int i, ch)
  | [.bl b] => some (.int (if b then 1 else 0), ch)
  | [.str z] => if z.length ≤ 640 then (PySem.intText? z).map fun n => (.int n, ch) else none
  | _ => none
def rIntA : List V → Hp → VK → Prop := fun xs H Q => ((∃ i, xs = [.int i] ∧ Q (.int i) H) ∨ ∃ k, xs = [.bl k] ∧ Q (.int (if k then 1 else 0)) H) ∨ ∃ a n, xs = [.str a] ∧ PySem.intText? a = some n ∧ a.length ≤ 640 ∧ Q (.int n) H
theorem call_intA : CallR X (.type "int") rIntA := CallR.or call_int1 call_int_str
theorem s_int : SCl K cl rIntA oInt := by
  intro x ch z ch' h m H v S r Q q
  cases x with
  | nil => cases h
  | cons x t =>
    cases t with
    | cons y t => cases x <;> cases h
    | nil =>
      obtain ⟨v, rfl, rx⟩ := r.one
      cases rx with
      | int i => cases h; exact .inl (.inl ⟨_, rfl, q m H _ .refl S (.int _)⟩)
      | bl b => cases h; exact .inl (.inr ⟨_, rfl, q m H _ .refl S (.int _)⟩)
      | str t =>
        simp only [oInt] at h
        split at h
        · simp only [Option.map_eq_some_iff] at h
          obtain ⟨n, hn, e⟩ := h
          cases e
          exact .inr ⟨_, n, rfl, hn, by assumption, q m H _ .refl S (.int _)⟩
        · cases h
      | _ => cases h
def oAbs : CL := fun xs ch => match xs with
  | [.int i] => some (.int (if i < 0 then -i else i), ch)
  | _ => none
theorem s_abs : SCl K cl (fun xs H Q => ∃ i, xs = [.int i] ∧ Q (.int (if i < 0 then -i else i)) H) oAbs := by
  intro x ch z ch' h m H v S r Q q
  cases x with
  | nil => cases h
  | cons x t =>
    cases t with
    | cons y t => cases x <;> cases h
    | nil =>
      obtain ⟨v, rfl, rx⟩ := r.one
      cases rx with
      | int i => cases h; exact ⟨_, rfl, q m H _ .refl S (.int _)⟩
      | _ => cases h
def oStr : CL := fun xs ch => match xs with
  | [.int i] => if i.natAbs.log2 < 1920 then some (.str (toString i), ch) else none
  | _ => none
theorem s_str : SCl K cl (fun xs H Q => ∃ i, xs = [.int i] ∧ i.natAbs.log2 < 1920 ∧ Q (.str (toString i)) H) oStr := by
  intro x ch z ch' h m H v S r Q q
  cases x with
  | nil => cases h
  | cons x t =>
    cases t with
    | cons y t => cases x <;> cases h
    | nil =>
      obtain ⟨v, rfl, rx⟩ := r.one
      cases rx with
      | int i =>
        simp only [oStr] at h
        split at h
        · cases h; exact ⟨_, rfl, by assumption, q m H _ .refl S (.str _)⟩
        · cases h
      | _ => cases h
def oOrd : CL := fun xs ch => match xs with
  | [.str z] => if z.length = 1 then some (.int (z.cps.getD 0 0 : Nat), ch) else none
  | _ => none
theorem s_ord : SCl K cl (fun xs H Q => ∃ x : Str, xs = [.str x] ∧ x.length = 1 ∧ Q (.int (x.cps.getD 0 0 : Nat)) H) oOrd := by
  intro x ch z ch' h m H v S r Q q
  cases x with
  | nil => cases h
  | cons x t =>
    cases t with
    | cons y t => cases x <;> cases h
    | nil =>
      obtain ⟨v, rfl, rx⟩ := r.one
      cases rx with
      | str i =>
        simp only [oOrd] at h
        split at h
        · cases h; exact ⟨_, rfl, by assumption, q m H _ .refl S (.int _)⟩
        · cases h
      | _ => cases h
def oChr : CL := fun xs ch => match xs with
  | [.int i] => if 0 ≤ i ∧ i ≤ 1114111 then some (.str ⟨#[i.toNat]⟩, ch) else none
  | _ => none
theorem s_chr : SCl K cl (fun xs H Q => ∃ i, xs = [.int i] ∧ 0 ≤ i ∧ i ≤ 1114111 ∧ Q (.str ⟨#[i.toNat]⟩) H) oChr := by
  intro x ch z ch' h m H v S r Q q
  cases x with
  | nil => cases h
  | cons x t =>
    cases t with
    | cons y t => cases x <;> cases h
    | nil =>
      obtain ⟨v, rfl, rx⟩ := r.one
      cases rx with
      | int i =>
        simp only [oChr] at h
        split at h
        · rename_i hh; cases h; exact ⟨_, rfl, hh.1, hh.2, q m H _ .refl S (.str _)⟩
        · cases h
      | _ => cases h
/-! ### tuple(x), list(x) -/
def oTup : CL := fun xs ch => match xs with
  | [x] => (seqOf x ch).map fun ys => (.tup ys, ch)
  | _ => none
theorem call_tuple_F : CallR X (.type "tuple") (fun xs H Q => ∃ p ys, xs = [.ref p] ∧ ((SqL X.K H p ys ∧ ∀ o l, TupO o → H l = none → Q (.ref l) (upd H l (.frz o (.tup ys)))) ∨ (SqT X.K H p ys ∧ Q (.ref p) H))) := by
  intro pins s σ H xs us Q I r h
  obtain ⟨p, ys, rfl, h⟩ := h
  obtain ⟨u, rfl, rx⟩ := vals1 r
  cases rx
  rcases h with ⟨hq, q⟩ | ⟨hq, q⟩
  · obtain ⟨its, r', pl, hz⟩ := I.list hq
    have hlen := r'.length
    refine PySem.call_tuple_list pl.isList (fun h' kp => ?_) (by simp only [List.size_toArray] <;> omega)
    have I1 : Inv X pins σ H { s with heap := h' } := I.kept (t' := s.toks) kp
    have I2 : Inv X pins σ (upd H h'.objs.size (.frz { cls := .type "tuple", data := .seq its.toArray } (.tup ys))) { s with heap := h'.push { cls := .type "tuple", data := .seq its.toArray } } :=
      I1.laid (t' := s.toks) (fun b o e => Heap.get?_push_of_some _ e) (Nat.le_refl _) ⟨Heap.get?_push_size _ rfl, hz, its, r', ⟨_, Heap.get?_push_size _ rfl, rfl, _, rfl⟩⟩
    exact ⟨.ref h'.objs.size, _, I2, rfl, q _ _ ⟨rfl, rfl⟩ (I1.hok.fresh (Nat.le_refl _))⟩
  · obtain ⟨its, r', pl, hz⟩ := I.tuple hq
    exact PySem.call_tuple_same pl ⟨.ref p, H, I, rfl, q⟩
theorem s_tupC : SCl K cl (fun xs H Q => ∃ p ys, xs = [.ref p] ∧ ((SqL K H p ys ∧ ∀ o l, TupO o → H l = none → Q (.ref l) (upd H l (.frz o (.tup ys)))) ∨ (SqT K H p ys ∧ Q (.ref p) H))) oTup := by
  intro x ch z ch' h m H v S r Q q
  cases x with
  | nil => cases h
  | cons x t =>
    cases t with
    | cons y t => cases h
    | nil =>
      obtain ⟨v, rfl, rx⟩ := r.one
      simp only [oTup, Option.map_eq_some_iff] at h
      obtain ⟨ys, h, e⟩ := h
      cases e
      cases rx with
      | tup hT rr => cases h; exact ⟨_, _, rfl, .inr ⟨hT.t, q m H _ .refl S (.tup hT rr)⟩⟩
      | con hT rr => cases h; exact ⟨_, _, rfl, .inl ⟨hT.l, fun o l ho nl => q m _ _ (.fresh nl) (S.fresh nl) (.new nl ho rr)⟩⟩
      | ref hn =>
        obtain ⟨vs, hH, rr⟩ := S.lst hn h
        exact ⟨_, _, rfl, .inl ⟨.of hH, fun o l ho nl => q m _ _ (.fresh nl) (S.fresh nl) (.new nl ho rr)⟩⟩
      | _ => cases h
theorem Sim.newL {m : List Addr} {ch : CH} {H : Hp} {p : Addr} {xs : List PV} {vs : List V} (S : Sim K cl m ch H) (np : H p = none) (r : RVs K m H xs vs) :
    Sim K cl (m ++ [p]) (ch ++ [.lst xs]) (upd H p (.lst vs)) ∧ Ext K m H (m ++ [p]) (upd H p (.lst vs)) ∧ RV K (m ++ [p]) (upd H p (.lst vs)) (.ref ch.length) (.ref p) := by
  have ex : Ext K m H (m ++ [p]) (upd H p (.lst vs)) := (Ext.fresh np).trans .snoc
  obtain ⟨S2, e2, g2⟩ := S.new (o := .lst vs) (u := .lst xs) np ⟨_, upd_same, r.mono ex⟩
  exact ⟨S2, e2, .ref g2⟩
def oLst : CL := fun xs ch => match xs with
  | [x] => (seqOf x ch).map fun ys => (.ref ch.length, ch ++ [.lst ys])
  | _ => none
theorem s_lstC : SCl K cl (fun xs H Q => ∃ p ys, xs = [.ref p] ∧ (SqL K H p ys ∨ SqT K H p ys) ∧ ∀ l, H l = none → Q (.ref l) (upd H l (.lst ys))) oLst := by
  intro x ch z ch' h m H v S r Q q
  cases x with
  | nil => cases h
  | cons x t =>
    cases t with
    | cons y t => cases h
    | nil =>
      obtain ⟨v, rfl, rx⟩ := r.one
      simp only [oLst, Option.map_eq_some_iff] at h
      obtain ⟨ys, h, e⟩ := h
      cases e
      obtain ⟨p, vs, rfl, hs, rr⟩ := seq_rel S rx h
      refine ⟨p, vs, rfl, hs, fun l nl => ?_⟩
      obtain ⟨S2, e2, r2⟩ := S.newL nl rr
      exact q _ _ _ e2 S2 r2
/-! ### max, min, sum, sorted -/
def intsOf : List PV → Option (List Int)
  | [] => some []
  | .int i :: r => (intsOf r).map fun ns => i :: ns
  | _ :: _ => none
theorem intsOf_eq : ∀ {xs : List PV} {ns : List Int}, intsOf xs = some ns → xs = ns.map PV.int
  | [], _, h => by cases h; rfl
  | .int i :: r, _, h => by
    simp only [intsOf, Option.map_eq_some_iff] at h
    obtain ⟨ns, h, rfl⟩ := h
    rw [intsOf_eq h]; rfl
  | .non :: _, _, h => by cases h
  | .bl _ :: _, _, h => by cases h
  | .str _ :: _, _, h => by cases h
  | .tup _ :: _, _, h => by cases h
  | .con _ :: _, _, h => by cases h
  | .ref _ :: _, _, h => by cases h
theorem intsOf_map : ∀ ns : List Int, intsOf (ns.map PV.int) = some ns
  | [] => rfl
  | n :: r => by simp only [List.map_cons, intsOf, intsOf_map r, Option.map_some]
/-- a list of ints -/
def lintsOf (x : PV) (ch : CH) : Option (List Int) := match x with
  | .con xs => intsOf xs
  | .ref n => (lstAt ch n).bind intsOf
  | _ => none
theorem lints_rel {m : List Addr} {ch : CH} {H : Hp} {x : PV} {v : V} {ns : List Int} (S : Sim K cl m ch H) (r : RV K m H x v) (h : lintsOf x ch = some ns) : ∃ p, v = .ref p ∧ SqL K H p (ns.map V.int) := by
  cases r with
  | con hT rr =>
    have e := intsOf_eq h
    subst e
    rw [← rr.ints]
    exact ⟨_, rfl, hT.l⟩
  | ref hn =>
    obtain ⟨xs, h1, h2⟩ := bindS h
    obtain ⟨vs, hH, rr⟩ := S.lst hn h1
    have e := intsOf_eq h2
    subst e
    rw [← rr.ints]
    exact ⟨_, rfl, .of hH⟩
  | _ => cases h
def oMax : CL := fun xs ch => match xs with
  | [.int i, .int j] => some (.int (if j > i then j else i), ch)
  | [x] => (lintsOf x ch).bind fun ns => ns.max?.map fun k => (.int k, ch)
  | _ => none
def oMin : CL := fun xs ch => match xs with
  | [.int i, .int j] => some (.int (if j < i then j else i), ch)
  | [x] => (lintsOf x ch).bind fun ns => ns.min?.map fun k => (.int k, ch)
  | _ => none
def rMaxA (K : PySem.W.Frag) : List V → Hp → VK → Prop := fun xs H Q => (∃ i j, xs = [.int i, .int j] ∧ Q (.int (if j > i then j else i)) H) ∨ rMax K xs H Q
def rMinA (K : PySem.W.Frag) : List V → Hp → VK → Prop := fun xs H Q => (∃ i j, xs = [.int i, .int j] ∧ Q (.int (if j < i then j else i)) H) ∨ rMin K xs H Q
theorem call_maxA (hc : X.calm = true) : CallR X (.builtin "max") (rMaxA X.K) := CallR.or (call_max2 hc) (cr_max hc)
theorem call_minA (hc : X.calm = true) : CallR X (.builtin "min") (rMinA X.K) := CallR.or (call_min2 hc) (cr_min hc)
theorem s_max : SCl K cl (rMaxA K) oMax := by
  intro x ch z ch' h m H v S r Q q
  match x, r, h with
  | [], _, h => cases h
  | [x], r, h =>
    obtain ⟨v, rfl, rx⟩ := r.one
    have h : (lintsOf x ch).bind (fun ns => ns.max?.map fun k => (PV.int k, ch)) = some (z, ch') := by cases x <;> exact h
    obtain ⟨ns, h1, h⟩ := bindS h
    simp only [Option.map_eq_some_iff] at h
    obtain ⟨k, hk, e⟩ := h
    cases e
    obtain ⟨p, rfl, hL⟩ := lints_rel S rx h1
    refine .inr ⟨p, ns, rfl, hL, ?_, fun k' hm hle => ?_⟩
    · cases ns with
      | nil => cases hk
      | cons a t => simp
    · have hk' := List.max?_eq_some_iff.mp hk
      have : k' = k := Int.le_antisymm (hk'.2 k' hm) (hle k hk'.1)
      subst this
      exact q m H _ .refl S (.int _)
  | [x, y], r, h =>
    obtain ⟨v, w, rfl, rx, ry⟩ := r.two
    cases rx with
    | int i =>
      cases ry with
      | int j => cases h; exact .inl ⟨_, _, rfl, q m H _ .refl S (.int _)⟩
      | _ => cases h
    | _ => cases h
  | x :: y :: w :: t, r, h => cases x <;> cases y <;> cases h
theorem s_min : SCl K cl (rMinA K) oMin := by
  intro x ch z ch' h m H v S r Q q
  match x, r, h with
  | [], _, h => cases h
  | [x], r, h =>
    obtain ⟨v, rfl, rx⟩ := r.one
    have h : (lintsOf x ch).bind (fun ns => ns.min?.map fun k => (PV.int k, ch)) = some (z, ch') := by cases x <;> exact h
    obtain ⟨ns, h1, h⟩ := bindS h
    simp only [Option.map_eq_some_iff] at h
    obtain ⟨k, hk, e⟩ := h
    cases e
    obtain ⟨p, rfl, hL⟩ := lints_rel S rx h1
    refine .inr ⟨p, ns, rfl, hL, ?_, fun k' hm hle => ?_⟩
    · cases ns with
      | nil => cases hk
      | cons a t => simp
    · have hk' := List.min?_eq_some_iff.mp hk
      have : k' = k := Int.le_antisymm (hle k hk'.1) (hk'.2 k' hm)
      subst this
      exact q m H _ .refl S (.int _)
  | [x, y], r, h =>
    obtain ⟨v, w, rfl, rx, ry⟩ := r.two
    cases rx with
    | int i =>
      cases ry with
      | int j => cases h; exact .inl ⟨_, _, rfl, q m H _ .refl S (.int _)⟩
      | _ => cases h
    | _ => cases h
  | x :: y :: w :: t, r, h => cases x <;> cases y <;> cases h
def oSum : CL := fun xs ch => match xs with
  | [x] => (lintsOf x ch).map fun ns => (.int ns.sum, ch)
  | _ => none
theorem s_sum : SCl K cl (rSum K) oSum := by
  intro x ch z ch' h m H v S r Q q
  match x, r, h with
  | [], _, h => cases h
  | [x], r, h =>
    obtain ⟨v, rfl, rx⟩ := r.one
    simp only [oSum, Option.map_eq_some_iff] at h
    obtain ⟨ns, h1, e⟩ := h
    cases e
    obtain ⟨p, rfl, hL⟩ := lints_rel S rx h1
    exact ⟨p, ns, rfl, hL, q m H _ .refl S (.int _)⟩
  | x :: y :: t, r, h => cases h
/-- insertion sort, to speak of sorted(..) -/
def insI (n : Int) : List Int → List Int
  | [] => [n]
  | k :: r => if n ≤ k then n :: k :: r else k :: insI n r
def srt : List Int → List Int
  | [] => []
  | n :: r => insI n (srt r)
theorem insI_perm (n : Int) : ∀ l, (insI n l).Perm (n :: l)
  | [] => .refl _
  | k :: r => by
    unfold insI
    split
    · exact .refl _
    · exact (List.Perm.cons k (insI_perm n r)).trans (List.Perm.swap n k r)
theorem srt_perm : ∀ l : List Int, (srt l).Perm l
  | [] => .refl _
  | n :: r => (insI_perm n _).trans ((srt_perm r).cons n)
theorem insI_sorted (n : Int) : ∀ {l : List Int}, l.Pairwise (· ≤ ·) → (insI n l).Pairwise (· ≤ ·)
  | [], _ => by simp [insI]
  | k :: r, h => by
    unfold insI
    rw [List.pairwise_cons] at h
    split
    · rename_i hk
      rw [List.pairwise_cons, List.pairwise_cons]
      refine ⟨fun a ha => ?_, h⟩
      rcases List.mem_cons.mp ha with rfl | ha
      · exact hk
      · exact Int.le_trans hk (h.1 a ha)
    · rename_i hk
      rw [List.pairwise_cons]
      refine ⟨fun a ha => ?_, insI_sorted n h.2⟩
      rcases List.mem_cons.mp ((insI_perm n r).mem_iff.mp ha) with rfl | ha
      · omega
      · exact h.1 a ha
theorem srt_sorted : ∀ l : List Int, (srt l).Pairwise (· ≤ ·)
  | [] => .nil
  | n :: r => insI_sorted n (srt_sorted r)
theorem sorted_eq {l l' : List Int} (p : l'.Perm l) (s : l'.Pairwise (· ≤ ·)) : l' = srt l := by
  have p2 : l'.Perm (srt l) := p.trans (srt_perm l).symm
  exact p2.eq_of_pairwise (fun a b _ _ h1 h2 => Int.le_antisymm h1 h2) s (srt_sorted l)
def keysI : List (Key × PV) → Option (List Int)
  | [] => some []
  | (.inl i, _) :: r => (keysI r).map fun ns => i :: ns
  | (.inr _, _) :: _ => none
theorem keysI_eq : ∀ {kvs : List (Key × PV)} {ns : List Int}, keysI kvs = some ns → kvs.map (·.1) = ns.map Sum.inl
  | [], _, h => by cases h; rfl
  | (.inl i, _) :: r, _, h => by
    simp only [keysI, Option.map_eq_some_iff] at h
    obtain ⟨ns, h, rfl⟩ := h
    simp only [List.map_cons, keysI_eq h]
  | (.inr _, _) :: _, _, h => by cases h
def oSorted : CL := fun xs ch => match xs with
  | [.con ys] => (intsOf ys).map fun ns => (.ref ch.length, ch ++ [.lst ((srt ns).map PV.int)])
  | [.ref n] => (match ch[n]? with
    | some (.lst ys) => (intsOf ys).map fun ns => (.ref ch.length, ch ++ [.lst ((srt ns).map PV.int)])
    | some (.dct kvs) => (keysI kvs).bind fun ns => if ns.length < 64 then some (.ref ch.length, ch ++ [.lst ((srt ns).map PV.int)]) else none
    | _ => none)
  | _ => none
def rSortedA (K : PySem.W.Frag) : List V → Hp → VK → Prop := fun xs H Q => rSortedI K xs H Q ∨ ∃ (a : Addr) (kvs : List (Key × V)) (ks : List Int), xs = [.ref a] ∧ Rd H a (.dK kvs) ∧ kvs.map (·.1) = ks.map Sum.inl ∧ ks.length < 64 ∧
    ∀ (ys : List Int) (p : Addr), ys.Perm ks → ys.Pairwise (· ≤ ·) → H p = none → Q (.ref p) (upd H p (.lst (ys.map V.int)))
theorem call_sortedA (hc : X.calm = true) : CallR X (.builtin "sorted") (rSortedA X.K) := CallR.or cr_sortedI (call_sortedDI hc)
theorem rk_keys {m : List Addr} {H : Hp} {kvs : List (Key × PV)} {ws : List (Key × V)} (r : RKV K m H kvs ws) : kvs.map (·.1) = ws.map (·.1) := by
  induction r with
  | nil => rfl
  | cons h t ih => rw [List.map_cons, List.map_cons, ih, h.1]
theorem s_sorted : SCl K cl (rSortedA K) oSorted := by
  intro x ch z ch' h m H v S r Q q
  have fin : ∀ (p : Addr) (ns ys : List Int), (PV.ref ch.length, ch ++ [CO.lst ((srt ns).map PV.int)]) = (z, ch') → ys.Perm ns → ys.Pairwise (· ≤ ·) → H p = none → Q (.ref p) (upd H p (.lst (ys.map V.int))) := by
    intro p ns ys e h1 h2 np
    cases e
    rw [sorted_eq h1 h2]
    obtain ⟨S2, e2, r2⟩ := S.newL (xs := (srt ns).map PV.int) np RVs.of_ints
    exact q _ _ _ e2 S2 r2
  match x, r, h with
  | [], _, h => cases h
  | [x], r, h =>
    obtain ⟨v, rfl, rx⟩ := r.one
    cases rx with
    | con hT rr =>
      simp only [oSorted, Option.map_eq_some_iff] at h
      obtain ⟨ns, h1, e⟩ := h
      have e' := intsOf_eq h1
      subst e'
      rw [rr.ints] at hT
      exact .inl ⟨_, ns, rfl, hT.l, fun ys p hp hs np => fin p ns ys e hp hs np⟩
    | @ref n a hn =>
      simp only [oSorted] at h
      split at h
      · rename_i xs hk
        obtain ⟨vs, hH, rr⟩ := S.ob n a _ hn hk
        simp only [Option.map_eq_some_iff] at h
        obtain ⟨ns, h1, e⟩ := h
        have e' := intsOf_eq h1
        subst e'
        rw [rr.ints] at hH
        exact .inl ⟨_, ns, rfl, .of hH, fun ys p hp hs np => fin p ns ys e hp hs np⟩
      · rename_i kvs hk
        obtain ⟨ws, hH, rr⟩ := S.ob n a _ hn hk
        obtain ⟨ns, h1, h⟩ := bindS h
        split at h
        · have e := Option.some.inj h
          exact .inr ⟨_, ws, ns, rfl, .inl hH, by rw [← rk_keys rr]; exact keysI_eq h1, by assumption, fun ys p hp hs np => fin p ns ys e hp hs np⟩
        · cases h
      · cases h
    | _ => cases h
  | x :: y :: t, r, h => cases x <;> cases h
/-! ### methods of built-in types -/
def SMt (K : PySem.W.Frag) (cl : List CT) (r : V → List V → Hp → VK → Prop) (g : PV → List PV → CH → Option (PV × CH)) : Prop := ∀ x xs ch z ch', g x xs ch = some (z, ch') → ∀ m H v vs, Sim K cl m ch H → RV K m H x v → RVs K m H xs vs →
  ∀ Q : VK, (∀ m' H' u, Ext K m H m' H' → Sim K cl m' ch' H' → RV K m' H' z u → Q u H') → r v vs H Q
def tyC (T : String) (x : PV) (ch : CH) : Bool := match x with
  | .str _ => T == "str"
  | .con _ => T == "list"
  | .tup _ => T == "tuple"
  | .ref n => (match ch[n]? with
    | some (.lst _) => T == "list"
    | some (.dct _) => T == "dict"
    | _ => false)
  | _ => false
def tyV' (K : PySem.W.Frag) (T : String) (x : V) (H : Hp) : Prop := tyV K T x H ∨ (T = "tuple" ∧ ∃ a xs, x = .ref a ∧ SqU K H a xs)
theorem tyV'_is {pins : List (Addr × Obj)} {σ : St} {H : Hp} {s : Shared} {T : String} {x : V} {v : Value} (I : Inv X pins σ H s) (r : RelV x v) (ty : tyV' X.K T x H) :
    s.TypeIs v T ∧ ∀ a, v = .ref a → ∃ ob, s.heap.get? a = some ob ∧ ob.dict = none := by
  rcases ty with ty | ⟨rfl, a, xs, rfl, hU⟩
  · exact tyV_is I r ty
  · cases r
    rcases hU with ⟨o, h, hc, hd⟩ | ⟨o, its, n, hk, hc, hd, _⟩
    · have ho : s.heap.get? a = some o := (I.hok a _ h).1
      exact ⟨⟨o, ho, hc⟩, fun b e => by cases e; exact ⟨o, ho, hd⟩⟩
    · have ho : s.heap.get? a = some o := I.kIn a o hk
      exact ⟨⟨o, ho, hc⟩, fun b e => by cases e; exact ⟨o, ho, hd⟩⟩
theorem tyC_rel {m : List Addr} {ch : CH} {H : Hp} {T : String} {x : PV} {v : V} (S : Sim K cl m ch H) (r : RV K m H x v) (h : tyC T x ch = true) : tyV' K T v H := by
  cases r with
  | str x => exact .inl (by simpa [tyC, tyV] using h)
  | con hT rr => exact .inl (.inl ⟨by simpa [tyC] using h, _, hT.l⟩)
  | tup hT rr => exact .inr ⟨by simpa [tyC] using h, _, _, rfl, hT⟩
  | @ref n a hn =>
    simp only [tyC] at h
    split at h
    · rename_i xs hk
      obtain ⟨vs, hH, rr⟩ := S.ob n a _ hn hk
      exact .inl (.inl ⟨by simpa using h, _, .of hH⟩)
    · rename_i xs hk
      obtain ⟨vs, hH, rr⟩ := S.ob n a _ hn hk
      exact .inl (.inr (.inr (.inl ⟨by simpa using h, .inl ⟨_, hH⟩⟩)))
    · cases h
  | _ => cases h
def tBM' (K : PySem.W.Frag) (T : String) (r : V → List V → Hp → VK → Prop) (to : TE) (t : TA) : TE := fun σ H Q => to σ H fun x H1 => tyV' K T x H1 ∧ t σ H1 fun xs H2 => r x xs H2 Q
theorem pe_bm' {o e : Expr} {es : List Expr} {to : TE} {t : TA} {name : Str} {apos cpos : Pos} {T id : String} {r : V → List V → Hp → VK → Prop} (pa : PlainAttrs T) (slot : Slot T name id) (hty : typeOf (.builtin id) = pure (.type "method_descriptor")) (hm : MtR X id r) (ho : PE X o to) (ha : PA X (e :: es) t)
    (hbase : attributeBase o name X.env (eval o X.env) = eval o X.env)
    (hfew : ((backTo cpos (starEach (e :: es) X.env)).all (fun x => !x.1) && (backToKw cpos (keywordEach [] X.env)).all (fun x => x.1.isSome)
      && decide ((e :: es).length + ([] : List Keyword).length + (if ([] : List Keyword).isEmpty then 0 else 1) < 30)) = true)
    (hline : (apos.endLine == cpos.line) = true) (hs : starEach (e :: es) X.env = (false, eval e X.env) :: starEach es X.env) (hplain : (backTo cpos (starEach es X.env)).any (·.1) = false) :
    PE X (.Call (.Attribute o name apos) (e :: es) [] cpos) (tBM' X.K T r to t) := by
  refine ⟨fun pins s σ H Q I h => ?_⟩
  refine PySem.wpAny_Call_method_late hbase hfew hline rfl (thn (ho.run pins s σ H _ I h) fun v s1 ⟨x, H1, I1, r1, ty, q1⟩ => ?_)
  obtain ⟨h1, h2⟩ := tyV'_is I1 r1 ty
  refine ⟨T, id, pa, slot, hty, h1, h2, ?_⟩
  have hA := ha.run cpos pins s1 σ H1 _ I1 q1
  rw [hs] at hA ⊢
  refine Calls.callWith_builtin (by show (false || (backTo cpos (starEach es X.env)).any (·.1)) = false; rw [hplain] <;> rfl) (PySem.Calls.evalArgs_plain ?_)
  exact thn hA fun us s2 ⟨vs, H2, I2, r2, q2⟩ => hm pins s2 σ H2 x vs v us Q I2 r1 r2 q2
theorem pe_bm0' {o : Expr} {to : TE} {name : Str} {apos cpos : Pos} {T id : String} {r : V → List V → Hp → VK → Prop} (pa : PlainAttrs T) (slot : Slot T name id) (hty : typeOf (.builtin id) = pure (.type "method_descriptor")) (hm : MtR X id r) (ho : PE X o to)
    (hbase : attributeBase o name X.env (eval o X.env) = eval o X.env) (hline : (apos.endLine == cpos.line) = true) : PE X (.Call (.Attribute o name apos) [] [] cpos) (fun σ H Q => to σ H fun x H1 => tyV' X.K T x H1 ∧ r x [] H1 Q) := by
  refine ⟨fun pins s σ H Q I h => ?_⟩
  refine PySem.wpAny_Call_method0_late hbase hline (thn (ho.run pins s σ H _ I h) fun v s1 ⟨x, H1, I1, r1, ty, q1⟩ => ?_)
  obtain ⟨h1, h2⟩ := tyV'_is I1 r1 ty
  exact ⟨T, id, pa, slot, hty, h1, h2, Calls.callWith_builtin rfl (PySem.evalArgs_none (hm pins s1 σ H1 x [] v [] Q I1 r1 .nil q1))⟩
def cBm (T : String) (g : PV → List PV → CH → Option (PV × CH)) (o : CE) (ga : CAs) : CE := fun σ ch => (o σ ch).bind fun p => if tyC T p.1 p.2 = true then (ga σ p.2).bind fun q => g p.1 q.1 q.2 else none
theorem se_bm {o e : Expr} {es : List Expr} {fo : CE} {ga : CAs} {name : Str} {apos cpos : Pos} {T id : String} {r : V → List V → Hp → VK → Prop} {g : PV → List PV → CH → Option (PV × CH)} (pa : PlainAttrs T) (slot : Slot T name id) (hty : typeOf (.builtin id) = pure (.type "method_descriptor")) (hm : MtR X id r) (hr : SMt X.K cl r g)
    (ho : SE cl X o fo) (ha : SA cl X (e :: es) ga) (hbase : attributeBase o name X.env (eval o X.env) = eval o X.env := by rfl)
    (hfew : ((backTo cpos (starEach (e :: es) X.env)).all (fun x => !x.1) && (backToKw cpos (keywordEach [] X.env)).all (fun x => x.1.isSome)
      && decide ((e :: es).length + ([] : List Keyword).length + (if ([] : List Keyword).isEmpty then 0 else 1) < 30)) = true := by rfl)
    (hline : (apos.endLine == cpos.line) = true := by rfl) (hs : starEach (e :: es) X.env = (false, eval e X.env) :: starEach es X.env := by rfl) (hplain : (backTo cpos (starEach es X.env)).any (·.1) = false := by rfl) :
    SE cl X (.Call (.Attribute o name apos) (e :: es) [] cpos) (cBm T g fo ga) := by
  obtain ⟨t, p, ho⟩ := ho
  obtain ⟨t', p', ha⟩ := ha
  refine ⟨_, pe_bm' pa slot hty hm p p' hbase hfew hline hs hplain, fun cσ ch v ch' h m σ H rs S Q q => ?_⟩
  obtain ⟨⟨x, c1⟩, h1, h⟩ := bindS h
  split at h
  · rename_i hT
    obtain ⟨⟨xs, c2⟩, h2, h⟩ := bindS h
    refine ho _ _ _ _ h1 m σ H rs S _ fun m1 H1 w1 e1 S1 r1 => ⟨tyC_rel S1 r1 hT, ?_⟩
    refine ha _ _ _ _ h2 m1 σ H1 (rs.mono e1) S1 _ fun m2 H2 w2 e2 S2 r2 => ?_
    exact hr _ _ _ _ _ h m2 H2 _ _ S2 (r1.mono e2) r2 Q fun m3 H3 u e3 S3 r3 => q m3 H3 u ((e1.trans e2).trans e3) S3 r3
  · cases h
theorem se_bm0 {o : Expr} {fo : CE} {name : Str} {apos cpos : Pos} {T id : String} {r : V → List V → Hp → VK → Prop} {g : PV → List PV → CH → Option (PV × CH)} (pa : PlainAttrs T) (slot : Slot T name id) (hty : typeOf (.builtin id) = pure (.type "method_descriptor")) (hm : MtR X id r) (hr : SMt X.K cl r g)
    (ho : SE cl X o fo) (hbase : attributeBase o name X.env (eval o X.env) = eval o X.env := by rfl) (hline : (apos.endLine == cpos.line) = true := by rfl) :
    SE cl X (.Call (.Attribute o name apos) [] [] cpos) (cBm T g fo cNil) := by
  obtain ⟨t, p, ho⟩ := ho
  refine ⟨_, pe_bm0' pa slot hty hm p hbase hline, fun cσ ch v ch' h m σ H rs S Q q => ?_⟩
  obtain ⟨⟨x, c1⟩, h1, h⟩ := bindS h
  split at h
  · rename_i hT
    obtain ⟨⟨xs, c2⟩, h2, h⟩ := bindS h
    cases h2
    refine ho _ _ _ _ h1 m σ H rs S _ fun m1 H1 w1 e1 S1 r1 => ⟨tyC_rel S1 r1 hT, ?_⟩
    exact hr _ _ _ _ _ h m1 H1 _ _ S1 r1 .nil Q fun m3 H3 u e3 S3 r3 => q m3 H3 u (e1.trans e3) S3 r3
  · cases h
/-! the methods -/
def mAppend : PV → List PV → CH → Option (PV × CH) := fun x xs ch => match x, xs with
  | .ref n, [y] => (lstAt ch n).bind fun ys => if ys.length < sizeLine then some (.non, ch.set n (.lst (ys ++ [y]))) else none
  | _, _ => none
theorem s_append : SMt K cl rAppend mAppend := by
  intro x xs ch z ch' h m H v vs S rx rr Q q
  match x, xs, rx, rr, h with
  | .ref n, [y], rx, rr, h =>
    cases rx with
    | ref hn =>
      obtain ⟨w, rfl, ry⟩ := rr.one
      obtain ⟨ys, h1, h⟩ := bindS h
      split at h
      · rename_i hz
        cases h
        obtain ⟨us, hH, ru⟩ := S.lst hn h1
        have ex : Ext K m H m (upd H _ (.lst (us ++ [w]))) := .upd hH trivial
        exact ⟨_, us, w, rfl, rfl, hH, by rw [← ru.length]; exact hz, q m _ _ ex (S.set hn hH trivial ⟨_, upd_same, (ru.append (.cons ry .nil)).mono ex⟩) .non⟩
      · cases h
  | .ref n, [], _, _, h => cases h
  | .ref n, _ :: _ :: _, _, _, h => cases h
  | .non, _, _, _, h => cases h
  | .bl _, _, _, _, h => cases h
  | .int _, _, _, _, h => cases h
  | .str _, _, _, _, h => cases h
  | .tup _, _, _, _, h => cases h
  | .con _, _, _, _, h => cases h
def mExtend : PV → List PV → CH → Option (PV × CH) := fun x xs ch => match x, xs with
  | .ref n, [.ref k] => (lstAt ch n).bind fun ys => (lstAt ch k).bind fun zs => if ys.length + zs.length ≤ sizeLine then some (.non, ch.set n (.lst (ys ++ zs))) else none
  | _, _ => none
theorem s_extend : SMt K cl rExtend mExtend := by
  intro x xs ch z ch' h m H v vs S rx rr Q q
  have hx : ∃ n k, x = .ref n ∧ xs = [.ref k] ∧ (lstAt ch n).bind (fun ys => (lstAt ch k).bind fun zs => if ys.length + zs.length ≤ sizeLine then some (PV.non, ch.set n (.lst (ys ++ zs))) else none) = some (z, ch') := by
    unfold mExtend at h
    split at h
    · exact ⟨_, _, rfl, rfl, h⟩
    · cases h
  obtain ⟨n, k, rfl, rfl, h⟩ := hx
  obtain ⟨w, rfl, ry⟩ := rr.one
  obtain ⟨ys, h1, h⟩ := bindS h
  obtain ⟨zs, h2, h⟩ := bindS h
  cases rx with
  | ref hn =>
    cases ry with
    | ref hk =>
      split at h
      · rename_i hz
        cases h
        obtain ⟨us, hH, ru⟩ := S.lst hn h1
        obtain ⟨ws, hH2, rw'⟩ := S.lst hk h2
        have ex : Ext K m H m (upd H _ (.lst (us ++ ws))) := .upd hH trivial
        exact ⟨_, _, us, ws, rfl, rfl, hH, hH2, by rw [← ru.length, ← rw'.length]; exact hz, q m _ _ ex (S.set hn hH trivial ⟨_, upd_same, (ru.append rw').mono ex⟩) .non⟩
      · cases h
def mPop : PV → List PV → CH → Option (PV × CH) := fun x xs ch => match x, xs with
  | .ref n, [] => (lstAt ch n).bind fun ys => (ys[ys.length - 1]?).map fun y => (y, ch.set n (.lst ys.dropLast))
  | _, _ => none
theorem s_pop : SMt K cl rPop mPop := by
  intro x xs ch z ch' h m H v vs S rx rr Q q
  have hx : ∃ n, x = .ref n ∧ xs = [] ∧ (lstAt ch n).bind (fun ys => (ys[ys.length - 1]?).map fun y => (y, ch.set n (.lst ys.dropLast))) = some (z, ch') := by
    unfold mPop at h
    split at h
    · exact ⟨_, rfl, rfl, h⟩
    · cases h
  obtain ⟨n, rfl, rfl, h⟩ := hx
  cases rr
  obtain ⟨ys, h1, h⟩ := bindS h
  simp only [Option.map_eq_some_iff] at h
  obtain ⟨y, hy, e⟩ := h
  cases e
  cases rx with
  | ref hn =>
    obtain ⟨us, hH, ru⟩ := S.lst hn h1
    obtain ⟨u, hu, r2⟩ := ru.get hy
    have ex : Ext K m H m (upd H _ (.lst us.dropLast)) := .upd hH trivial
    exact ⟨_, us, u, rfl, rfl, hH, by rw [← ru.length]; exact hu, q m _ _ ex (S.set hn hH trivial ⟨_, upd_same, ru.dropLast.mono ex⟩) (r2.mono ex)⟩
def mDPop : PV → List PV → CH → Option (PV × CH) := fun x xs ch => match x, xs with
  | .ref n, [k] => (dctAt ch n).bind fun kvs => (keyOf k).bind fun k => (vC kvs k).map fun y => (y, ch.set n (.dct (dropC kvs k)))
  | _, _ => none
def rDPop : V → List V → Hp → VK → Prop := fun x xs H Q => ∃ a kvs k v, x = .ref a ∧ xs = [kV k] ∧ H a = some (.dK kvs) ∧ valV kvs k = some v ∧ Q v (upd H a (.dK (dropK kvs k)))
theorem mt_dpop : MtR X "dict.pop" rDPop := by
  intro pins s σ H x xs v us Q I rx rs h
  obtain ⟨a, kvs, k, w, rfl, rfl, hH, hv, q⟩ := h
  cases rx
  obtain ⟨u, rfl, ru⟩ := vals1 rs
  exact d_pop (more := []) I hH ru hv (.inl rfl) fun w' s' I' r' => ⟨w, _, I', r', q⟩
theorem s_dpop : SMt K cl rDPop mDPop := by
  intro x xs ch z ch' h m H v vs S rx rr Q q
  have hx : ∃ n k, x = .ref n ∧ xs = [k] ∧ (dctAt ch n).bind (fun kvs => (keyOf k).bind fun k => (vC kvs k).map fun y => (y, ch.set n (.dct (dropC kvs k)))) = some (z, ch') := by
    unfold mDPop at h
    split at h
    · exact ⟨_, _, rfl, rfl, h⟩
    · cases h
  obtain ⟨n, k, rfl, rfl, h⟩ := hx
  obtain ⟨w, rfl, ry⟩ := rr.one
  obtain ⟨ys, h1, h⟩ := bindS h
  obtain ⟨kk, h2, h⟩ := bindS h
  simp only [Option.map_eq_some_iff] at h
  obtain ⟨y, hy, e⟩ := h
  cases e
  have ev := keyOf_rel ry h2
  subst ev
  cases rx with
  | ref hn =>
    obtain ⟨us, hH, ru⟩ := S.dct hn h1
    obtain ⟨u, hu, r2⟩ := rk_some ru hy
    have ex : Ext K m H m (upd H _ (.dK (dropK us kk))) := .upd hH trivial
    exact ⟨_, us, kk, u, rfl, rfl, hH, hu, q m _ _ ex (S.set hn hH trivial ⟨_, upd_same, RKV.mono ex (rk_drop ru)⟩) (r2.mono ex)⟩
/-! index -/
def eqF : PV → PV → Bool
  | .non, .non => true
  | .bl a, .bl b => a == b
  | .bl a, .int b => (if a then 1 else 0) == b
  | .int a, .bl b => a == (if b then 1 else 0)
  | .int a, .int b => a == b
  | .str a, .str b => a == b
  | _, _ => false
def flatF : PV → Bool
  | .non => true
  | .bl _ => true
  | .int _ => true
  | .str _ => true
  | _ => false
theorem flat_rel {m : List Addr} {H : Hp} {x : PV} {v : V} (r : RV K m H x v) (h : flatF x = true) : flatV v = true := by
  cases r <;> first | rfl | cases h
theorem flats_rel {m : List Addr} {H : Hp} : ∀ {xs : List PV} {vs : List V}, RVs K m H xs vs → xs.all flatF = true → vs.all flatV = true
  | _, _, .nil, _ => rfl
  | _, _, .cons r t, h => by
    rw [List.all_cons, Bool.and_eq_true] at h
    rw [List.all_cons, flat_rel r h.1, flats_rel t h.2]; rfl
theorem eqF_rel {m : List Addr} {H : Hp} {x y : PV} {v w : V} (r : RV K m H x v) (r' : RV K m H y w) (h : flatF x = true) (h' : flatF y = true) : eqV v w = eqF x y := by
  cases r <;> first | (cases h; done) | (cases r' <;> first | (cases h'; done) | rfl)
def mIndex : PV → List PV → CH → Option (PV × CH) := fun x xs ch => match xs with
  | [y] => (seqOf x ch).bind fun ys => if flatF y = true ∧ ys.all flatF = true then (ys.findIdx? fun z => eqF z y).map fun (j : Nat) => (.int (j : Int), ch) else none
  | _ => none
def rIndexT (K : PySem.W.Frag) : V → List V → Hp → VK → Prop := fun x xs H Q => ∃ (a : Addr) (ys : List V) (y : V) (j : Nat) (z : V), x = V.ref a ∧ xs = [y] ∧ SqT K H a ys ∧ flatV y = true ∧ ys.all flatV = true ∧ ys[j]? = some z ∧ eqV z y = true ∧
  (∀ (m : Nat) (z' : V), m < j → ys[m]? = some z' → eqV z' y = false) ∧ Q (.int (j : Nat)) H
theorem mt_indexT : MtR X "tuple.index" (rIndexT X.K) := by
  intro pins s σ H x xs v us Q I rx rxs h
  obtain ⟨a, ys, y, j, z, rfl, rfl, hs, fy, fys, hz, hzj, hno, q⟩ := h
  cases rx
  cases rxs with
  | cons ry rt =>
    rename_i uy ut
    cases rt
    obtain ⟨its, rv, ⟨⟨cls, dd, data, sl⟩, ho, hc, n, hd⟩, hlen⟩ := I.tuple hs
    simp only at hc hd
    subst hc hd
    obtain ⟨u, hu, ru⟩ := rv.get hz
    obtain ⟨hjl, hje⟩ := List.getElem?_eq_some_iff.mp hu
    have hvl := rv.length
    have hj : j < its.toArray.size := by simpa using hjl
    refine PySem.call_meets PySem.F.slot_tuple_index ⟨_, ho, rfl⟩ PySem.F.entry_tuple_index (PySem.F.args_tuple_index_2 _ _)
      (TI.tuple_indexAt a its.toArray n dd sl uy (eqU y) j hj ?_ ?_) ⟨ho, fun u' hu' => mem_eqAt ry fy rv fys u' (by simpa using hu'), ?_⟩
    · have e1 : its.toArray[j] = u := by simpa using hje
      rw [e1, eqU_of ru (flat_at fys hz)]
      exact hzj
    · intro m hm hmj
      have hml : m < its.length := by simpa using hm
      have hmy : m < ys.length := by omega
      have hy' : ys[m]? = some ys[m] := List.getElem?_eq_getElem hmy
      obtain ⟨u2, hu2, ru2⟩ := rv.get hy'
      obtain ⟨_, hme⟩ := List.getElem?_eq_some_iff.mp hu2
      have e1 : its.toArray[m] = u2 := by simpa using hme
      rw [e1, eqU_of ru2 (flat_at fys hy')]
      exact hno m _ hmj hy'
    · exact ⟨.int (j : Nat), H, I.tok _, ⟨_, rfl⟩, q⟩
theorem index_rel {m : List Addr} {H : Hp} {ys : List PV} {vs : List V} {y : PV} {w : V} {j : Nat} (rr : RVs K m H ys vs) (ry : RV K m H y w) (fy : flatF y = true) (fys : ys.all flatF = true) (h : ys.findIdx? (fun z => eqF z y) = some j) :
    ∃ z, vs[j]? = some z ∧ eqV z w = true ∧ ∀ (m : Nat) (z' : V), m < j → vs[m]? = some z' → eqV z' w = false := by
  obtain ⟨hj, h1, h2⟩ := List.findIdx?_eq_some_iff_getElem.mp h
  have at' : ∀ (k : Nat) (hk : k < ys.length), flatF ys[k] = true := fun k hk => List.all_eq_true.mp fys _ (List.getElem_mem hk)
  obtain ⟨z, hz, rz⟩ := rr.get (List.getElem?_eq_getElem hj)
  refine ⟨z, hz, by rw [eqF_rel rz ry (at' j hj) fy]; exact h1, fun k z' hk hz' => ?_⟩
  have hk' : k < ys.length := by omega
  obtain ⟨z2, hz2, rz2⟩ := rr.get (List.getElem?_eq_getElem hk')
  rw [hz'] at hz2
  cases hz2
  rw [eqF_rel rz2 ry (at' k hk') fy]
  simpa using h2 k hk
theorem s_indexL : SMt K cl (rIndex K) (fun x xs ch => if tyC "list" x ch = true then mIndex x xs ch else none) := by
  intro x xs ch z ch' h m H v vs S rx rr Q q
  simp only at h
  split at h
  · rename_i hT
    match xs, rr, h with
    | [], _, h => cases h
    | _ :: _ :: _, _, h => cases h
    | [y], rr, h =>
      obtain ⟨w, rfl, ry⟩ := rr.one
      obtain ⟨ys, h1, h⟩ := bindS h
      split at h
      · rename_i hf
        simp only [Option.map_eq_some_iff] at h
        obtain ⟨j, hj, e⟩ := h
        cases e
        have hs : ∃ p us, v = .ref p ∧ SqL K H p us ∧ RVs K m H ys us := by
          cases rx with
          | con hZ rr => cases h1; exact ⟨_, _, rfl, hZ.l, rr⟩
          | ref hn => obtain ⟨us, hH, ru⟩ := S.lst hn h1; exact ⟨_, us, rfl, .of hH, ru⟩
          | tup _ _ => simp [tyC] at hT
          | _ => cases h1
        obtain ⟨p, us, rfl, hL, ru⟩ := hs
        obtain ⟨z, a, b, c⟩ := index_rel ru ry hf.1 hf.2 hj
        exact ⟨p, us, w, j, z, rfl, rfl, hL, flat_rel ry hf.1, flats_rel ru hf.2, a, b, c, q m H _ .refl S (.int _)⟩
      · cases h
  · cases h
theorem s_indexT : SMt K cl (rIndexT K) (fun x xs ch => if tyC "tuple" x ch = true then mIndex x xs ch else none) := by
  intro x xs ch z ch' h m H v vs S rx rr Q q
  simp only at h
  split at h
  · rename_i hT
    match xs, rr, h with
    | [], _, h => cases h
    | _ :: _ :: _, _, h => cases h
    | [y], rr, h =>
      obtain ⟨w, rfl, ry⟩ := rr.one
      obtain ⟨ys, h1, h⟩ := bindS h
      split at h
      · rename_i hf
        simp only [Option.map_eq_some_iff] at h
        obtain ⟨j, hj, e⟩ := h
        cases e
        cases rx with
        | @tup p _ us hU ru =>
          cases h1
          obtain ⟨z, a, b, c⟩ := index_rel ru ry hf.1 hf.2 hj
          exact ⟨p, us, w, j, z, rfl, rfl, hU.t, flat_rel ry hf.1, flats_rel ru hf.2, a, b, c, q m H _ .refl S (.int _)⟩
        | con hU rr => simp [tyC] at hT
        | @ref n a hn =>
          simp only [tyC] at hT
          split at hT
          · simp at hT
          · simp at hT
          · cases hT
        | _ => cases h1
      · cases h
  · cases h
def mIndexL : PV → List PV → CH → Option (PV × CH) := fun x xs ch => if tyC "list" x ch = true then mIndex x xs ch else none
def mIndexT : PV → List PV → CH → Option (PV × CH) := fun x xs ch => if tyC "tuple" x ch = true then mIndex x xs ch else none
/-! texts -/
def mStr0 (g : Str → Str) (n : Nat) : PV → List PV → CH → Option (PV × CH) := fun x xs ch => match x, xs with
  | .str a, [] => if a.length ≤ n then some (.str (g a), ch) else none
  | _, _ => none
theorem s_str0 {g : Str → Str} {n : Nat} : SMt K cl (fun x xs H Q => ∃ a, x = .str a ∧ xs = [] ∧ a.length ≤ n ∧ Q (.str (g a)) H) (mStr0 g n) := by
  intro x xs ch z ch' h m H v vs S rx rr Q q
  unfold mStr0 at h
  split at h
  · split at h
    · cases h
      cases rx
      cases rr
      exact ⟨_, rfl, rfl, by assumption, q m H _ .refl S (.str _)⟩
    · cases h
  · cases h
def mFind : PV → List PV → CH → Option (PV × CH) := fun x xs ch => match x, xs with
  | .str a, [.str b] => some (.int (Txt.find a b), ch)
  | _, _ => none
theorem s_find : SMt K cl (fun x xs H Q => ∃ a b, x = .str a ∧ xs = [.str b] ∧ Q (.int (Txt.find a b)) H) mFind := by
  intro x xs ch z ch' h m H v vs S rx rr Q q
  unfold mFind at h
  split at h
  · cases h
    cases rx
    obtain ⟨w, rfl, ry⟩ := rr.one
    cases ry
    exact ⟨_, _, rfl, rfl, q m H _ .refl S (.int _)⟩
  · cases h
def strsOf : List PV → Option (List Str)
  | [] => some []
  | .str i :: r => (strsOf r).map fun ns => i :: ns
  | _ :: _ => none
theorem strsOf_eq : ∀ {xs : List PV} {ns : List Str}, strsOf xs = some ns → xs = ns.map PV.str
  | [], _, h => by cases h; rfl
  | .str i :: r, _, h => by
    simp only [strsOf, Option.map_eq_some_iff] at h
    obtain ⟨ns, h, rfl⟩ := h
    rw [strsOf_eq h]; rfl
  | .non :: _, _, h => by cases h
  | .bl _ :: _, _, h => by cases h
  | .int _ :: _, _, h => by cases h
  | .tup _ :: _, _, h => by cases h
  | .con _ :: _, _, h => by cases h
  | .ref _ :: _, _, h => by cases h
def mJoin : PV → List PV → CH → Option (PV × CH) := fun x xs ch => match x, xs with
  | .str a, [y] => (seqOf y ch).bind fun ys => (strsOf ys).bind fun zs => if (zs.map (·.length)).sum + zs.length * a.length ≤ 16777216 then some (.str (Txt.join a zs), ch) else none
  | _, _ => none
theorem s_join : SMt K cl (fun x xs H Q => ∃ a p, ∃ ys : List Str, x = .str a ∧ xs = [.ref p] ∧ (SqL K H p (ys.map V.str) ∨ SqT K H p (ys.map V.str)) ∧
    (ys.map (·.length)).sum + ys.length * a.length ≤ 16777216 ∧ Q (.str (Txt.join a ys)) H) mJoin := by
  intro x xs ch z ch' h m H v vs S rx rr Q q
  unfold mJoin at h
  split at h
  · obtain ⟨ys, h1, h⟩ := bindS h
    obtain ⟨zs, h2, h⟩ := bindS h
    split at h
    · cases h
      cases rx
      obtain ⟨w, rfl, ry⟩ := rr.one
      obtain ⟨p, us, rfl, hs, ru⟩ := seq_rel S ry h1
      have e := strsOf_eq h2
      subst e
      rw [ru.strs] at hs
      exact ⟨_, p, zs, rfl, rfl, hs, by assumption, q m H _ .refl S (.str _)⟩
    · cases h
  · cases h
end
end Cn
namespace Cn
open PySem L2

/-- what is walked: its items, what must hold at each turn -/
abbrev CI := CSt → CH → Option ((List PV × (CH → Bool)) × CH)
def okT : CH → Bool := fun _ => true
def okL (n : Nat) (xs : List PV) : CH → Bool := fun ch => match lstAt ch n with
  | some ys => PV.beqs ys xs
  | none => false
theorem okL_iff {n : Nat} {xs : List PV} {ch : CH} : okL n xs ch = true ↔ lstAt ch n = some xs := by
  unfold okL
  constructor
  · intro h
    split at h
    · rename_i ys e
      rw [e, PV.beqs_eq h]
    · cases h
  · intro h
    rw [h]
    exact PV.beqs_refl xs
structure WkC (K : PySem.W.Frag) (cl : List CT) (J : It) (xs : List PV) (ok : CH → Bool) (m0 : List Addr) (H0 : Hp) : Prop where
  goes : ∀ i m ch H, i < xs.length → Ext K m0 H0 m H → Sim K cl m ch H → ok ch = true → J.go i H
  stops : ∀ m ch H, Ext K m0 H0 m H → Sim K cl m ch H → ok ch = true → J.stop xs.length H
  yields : ∀ i m ch H x H', i < xs.length → Ext K m0 H0 m H → Sim K cl m ch H → ok ch = true → J.yld i H x H' → ∃ p, xs[i]? = some p ∧ Sim K cl m ch H' ∧ Ext K m H m H' ∧ RV K m H' p x
def SI (cl : List CT) (X : Cx) (tg e : Expr) (f : CI) : Prop := ∃ wi : TI, PI X tg e wi ∧ ∀ cσ ch xs ok ch', f cσ ch = some ((xs, ok), ch') → ∀ m σ H, RS X.K m H cσ σ → Sim X.K cl m ch H →
  ∀ R : It → Hp → Prop, (∀ m' H' J, Ext X.K m H m' H' → Sim X.K cl m' ch' H' → WkC X.K cl J xs ok m' H' → R J H') → wi σ H R
def iSeq : PV → CH → Option ((List PV × (CH → Bool)) × CH) := fun x ch => match x with
  | .tup xs => some ((xs, okT), ch)
  | .con xs => some ((xs, okT), ch)
  | .str z => some ((z.cps.toList.map (fun c => PV.str ⟨#[c]⟩), okT), ch)
  | .ref n => (lstAt ch n).map fun xs => ((xs, okL n xs), ch)
  | _ => none
def ciSeq (a : CE) : CI := fun σ ch => (a σ ch).bind fun p => iSeq p.1 p.2
theorem PI.or {X : Cx} {tg e : Expr} {w1 w2 : TI} (h1 : PI X tg e w1) (h2 : PI X tg e w2) : PI X tg e (fun σ H R => w1 σ H R ∨ w2 σ H R) :=
  ⟨fun pins s σ H R I h => h.elim (h1.run pins s σ H R I) (h2.run pins s σ H R I)⟩
section
variable {K : PySem.W.Frag} {cl : List CT} {X : Cx}
theorem wk_tup {a : Addr} {xs : List PV} {vs : List V} {m : List Addr} {H : Hp} (hT : SqU K H a vs) (rr : RVs K m H xs vs) : WkC K cl (Itt K a) xs okT m H where
  goes i m1 ch H1 hi e S _ := by
    obtain ⟨v, hv, _⟩ := rr.get (List.getElem?_eq_getElem hi)
    exact ⟨vs, v, (e.tup _ _ hT).t, hv⟩
  stops m1 ch H1 e S _ := ⟨vs, (e.tup _ _ hT).t, by rw [rr.length]; exact Nat.le_refl _⟩
  yields i m1 ch H1 x H' hi e S _ y := by
    obtain ⟨rfl, y⟩ := y
    obtain ⟨v, hv, rv⟩ := rr.get (List.getElem?_eq_getElem hi)
    have := y vs (e.tup _ _ hT).t
    rw [hv] at this; cases this
    exact ⟨_, List.getElem?_eq_getElem hi, S, .refl, rv.mono e⟩
theorem wk_con {a : Addr} {xs : List PV} {vs : List V} {m : List Addr} {H : Hp} (hT : SqZ K H a vs) (rr : RVs K m H xs vs) : WkC K cl (Itl K a) xs okT m H where
  goes i m1 ch H1 hi e S _ := by
    obtain ⟨v, hv, _⟩ := rr.get (List.getElem?_eq_getElem hi)
    exact ⟨vs, v, (e.con _ _ hT).l, hv⟩
  stops m1 ch H1 e S _ := ⟨vs, (e.con _ _ hT).l, by rw [rr.length]; exact Nat.le_refl _⟩
  yields i m1 ch H1 x H' hi e S _ y := by
    obtain ⟨rfl, y⟩ := y
    obtain ⟨v, hv, rv⟩ := rr.get (List.getElem?_eq_getElem hi)
    have := y vs (e.con _ _ hT).l
    rw [hv] at this; cases this
    exact ⟨_, List.getElem?_eq_getElem hi, S, .refl, rv.mono e⟩
theorem wk_lst {n : Nat} {a : Addr} {xs : List PV} {m : List Addr} {H : Hp} (hn : m[n]? = some a) : WkC K cl (Itl K a) xs (okL n xs) m H where
  goes i m1 ch H1 hi e S ok := by
    obtain ⟨vs, hH, rr⟩ := S.lst (e.pre _ _ hn) (okL_iff.mp ok)
    obtain ⟨v, hv, _⟩ := rr.get (List.getElem?_eq_getElem hi)
    exact ⟨vs, v, .of hH, hv⟩
  stops m1 ch H1 e S ok := by
    obtain ⟨vs, hH, rr⟩ := S.lst (e.pre _ _ hn) (okL_iff.mp ok)
    exact ⟨vs, .of hH, by rw [rr.length]; exact Nat.le_refl _⟩
  yields i m1 ch H1 x H' hi e S ok y := by
    obtain ⟨rfl, y⟩ := y
    obtain ⟨vs, hH, rr⟩ := S.lst (e.pre _ _ hn) (okL_iff.mp ok)
    obtain ⟨v, hv, rv⟩ := rr.get (List.getElem?_eq_getElem hi)
    have := y vs (.of hH)
    rw [hv] at this; cases this
    exact ⟨_, List.getElem?_eq_getElem hi, S, .refl, rv⟩
theorem wk_str {z : Str} {m : List Addr} {H : Hp} : WkC K cl (Its z) (z.cps.toList.map (fun c => PV.str ⟨#[c]⟩)) okT m H where
  goes i m1 ch H1 hi e S ok := by
    show i < z.cps.size
    simpa using hi
  stops m1 ch H1 e S ok := by show z.cps.size ≤ _; simp
  yields i m1 ch H1 x H' hi e S ok y := by
    obtain ⟨rfl, c, hc, rfl⟩ := y
    refine ⟨_, ?_, S, .refl, .str ⟨#[c]⟩⟩
    rw [List.getElem?_map, Array.getElem?_toList, hc]
    rfl
theorem si_seq {tg e : Expr} {f : CE} (h : SE cl X e f) : SI cl X tg e (ciSeq f) := by
  obtain ⟨t, p, h⟩ := h
  refine ⟨_, PI.or (PI.or (pi_list p) (pi_tup p)) (pi_str p), fun cσ ch xs ok ch' hh m σ H rs S R q => ?_⟩
  obtain ⟨⟨x, c1⟩, h1, hh⟩ := bindS hh
  cases x with
  | tup ys =>
    cases hh
    refine .inl (.inr (h _ _ _ _ h1 m σ H rs S _ fun m1 H1 w e1 S1 r1 => ?_))
    cases r1 with
    | tup hT rr => exact ⟨_, rfl, ⟨_, hT.t⟩, q m1 H1 _ e1 S1 (wk_tup hT rr)⟩
  | con ys =>
    cases hh
    refine .inl (.inl (h _ _ _ _ h1 m σ H rs S _ fun m1 H1 w e1 S1 r1 => ?_))
    cases r1 with
    | con hT rr => exact ⟨_, rfl, ⟨_, hT.l⟩, q m1 H1 _ e1 S1 (wk_con hT rr)⟩
  | str z =>
    cases hh
    refine .inr (h _ _ _ _ h1 m σ H rs S _ fun m1 H1 w e1 S1 r1 => ?_)
    cases r1
    exact ⟨_, rfl, q m1 H1 _ e1 S1 wk_str⟩
  | ref n =>
    simp only [iSeq, Option.map_eq_some_iff] at hh
    obtain ⟨ys, h2, e⟩ := hh
    cases e
    refine .inl (.inl (h _ _ _ _ h1 m σ H rs S _ fun m1 H1 w e1 S1 r1 => ?_))
    cases r1 with
    | ref hn =>
      obtain ⟨vs, hH, rr⟩ := S1.lst hn h2
      exact ⟨_, rfl, ⟨_, .of hH⟩, q m1 H1 _ e1 S1 (wk_lst hn)⟩
  | _ => cases hh
/-- lo, lo + 1, .. n of them -/
def rng (lo : Int) (n : Nat) : List PV := (List.range n).map fun i => PV.int (lo + (i : Nat))
theorem wk_range {lo : Int} {n : Nat} {m : List Addr} {H : Hp} : WkC K cl (Itr lo n) (rng lo n) okT m H where
  goes i m1 ch H1 hi e S ok := by
    show i < n
    simpa [rng] using hi
  stops m1 ch H1 e S ok := by show n ≤ _; simp [rng]
  yields i m1 ch H1 x H' hi e S ok y := by
    obtain ⟨rfl, rfl⟩ := y
    refine ⟨.int (lo + (i : Nat)), ?_, S, .refl, .int _⟩
    have hi' : i < n := by simpa [rng] using hi
    simp [rng, hi']
def iR1 : List PV → CH → Option ((List PV × (CH → Bool)) × CH) := fun xs ch => match xs with
  | [.int j] => if -4611686018427387904 ≤ j ∧ j < 4611686018427387904 then some ((rng 0 j.toNat, okT), ch) else none
  | _ => none
def iR2 : List PV → CH → Option ((List PV × (CH → Bool)) × CH) := fun xs ch => match xs with
  | [.int i, .int j] => if (-4611686018427387904 ≤ i ∧ i < 4611686018427387904) ∧ -4611686018427387904 ≤ j ∧ j < 4611686018427387904 then some ((rng i (j - i).toNat, okT), ch) else none
  | _ => none
def ciR1 (a : CAs) : CI := fun σ ch => (a σ ch).bind fun p => iR1 p.1 p.2
def ciR2 (a : CAs) : CI := fun σ ch => (a σ ch).bind fun p => iR2 p.1 p.2
theorem si_range1 {tg a : Expr} {ga : CAs} {p pos : Pos} (hm : X.mg "range" = none) (ha : SA cl X [a] ga) (hg : Gl X "range" := by rfl) (hs : starEach [a] X.env = [(false, eval a X.env)] := by rfl) : SI cl X tg (.Call (.Name "range" p) [a] [] pos) (ciR1 ga) := by
  obtain ⟨t, p, h⟩ := ha
  refine ⟨_, pi_range1 hg hm p hs, fun cσ ch xs ok ch' hh m σ H rs S R q => ?_⟩
  obtain ⟨⟨x, c1⟩, h1, hh⟩ := bindS hh
  refine h _ _ _ _ h1 m σ H rs S _ fun m1 H1 w e1 S1 r1 => ?_
  dsimp only at hh
  unfold iR1 at hh
  split at hh
  · split at hh
    · rename_i hz
      cases hh
      obtain ⟨v, rfl, rv⟩ := r1.one
      cases rv
      exact ⟨_, rfl, by omega, by omega, q m1 H1 _ e1 S1 wk_range⟩
    · cases hh
  · cases hh
theorem si_range2 {tg a b : Expr} {ga : CAs} {p pos : Pos} (hm : X.mg "range" = none) (ha : SA cl X [a, b] ga) (hg : Gl X "range" := by rfl) (hs : starEach [a, b] X.env = [(false, eval a X.env), (false, eval b X.env)] := by rfl) (hs2 : starEach [b] X.env = [(false, eval b X.env)] := by rfl) : SI cl X tg (.Call (.Name "range" p) [a, b] [] pos) (ciR2 ga) := by
  obtain ⟨t, p, h⟩ := ha
  refine ⟨_, pi_range2 hg hm p hs hs2, fun cσ ch xs ok ch' hh m σ H rs S R q => ?_⟩
  obtain ⟨⟨x, c1⟩, h1, hh⟩ := bindS hh
  refine h _ _ _ _ h1 m σ H rs S _ fun m1 H1 w e1 S1 r1 => ?_
  dsimp only at hh
  unfold iR2 at hh
  split at hh
  · split at hh
    · rename_i hz
      cases hh
      obtain ⟨v, v', rfl, rv, rv'⟩ := r1.two
      cases rv
      cases rv'
      exact ⟨_, _, rfl, by omega, q m1 H1 _ e1 S1 wk_range⟩
    · cases hh
  · cases hh
/-! ### for -/
def kLoop (k : CSt → CH → Option (CF × CSt × CH)) : CF × CSt × CH → Option (CF × CSt × CH)
  | (.nx, σ, ch) => k σ ch
  | (.ct, σ, ch) => k σ ch
  | (.bk, σ, ch) => some (.nx, σ, ch)
  | (.rt v, σ, ch) => some (.rt v, σ, ch)
def forL (ok : CH → Bool) (g : CG) (b : CS) : List PV → CSt → CH → Option (CF × CSt × CH)
  | [], σ, ch => if ok ch = true then some (.nx, σ, ch) else none
  | x :: xs, σ, ch => if ok ch = true then (g x σ ch).bind fun p => (b p.1 p.2).bind (kLoop (forL ok g b xs)) else none
def cFor (it : CI) (g : CG) (b : CS) : CS := fun σ ch => (it σ ch).bind fun p => forL p.1.2 g b p.1.1 σ p.2
theorem ss_for {tg iter : Expr} {body : List Stmt} {fi : CI} {g : CG} {fb : CS} {pos : Pos} (hp : PassesOwn (model X.prog X.w) X.A X.env X.xe) (hc : X.calm = true) (hi : SI cl X tg iter fi) (hg : SG cl X tg g) (hb : SSs cl X body fb)
    (hs : ∀ x, foldedSetIterable iter X.env x = pure x := by intro _; rfl) : SS cl X (.For tg iter body [] pos) (cFor fi g fb) := by
  obtain ⟨wi, p, hi⟩ := hi
  obtain ⟨tgt, p', hg⟩ := hg
  obtain ⟨tb, p'', hb⟩ := hb
  refine ⟨_, ps_for hp hc p p' p'' hs, fun cσ ch fl cσ' ch' h m σ H rs S D q => ?_⟩
  obtain ⟨⟨⟨xs, ok⟩, c1⟩, h1, h⟩ := bindS h
  refine hi _ _ _ _ _ h1 m σ H rs S _ fun m0 H0 J e0 S0 W => ?_
  refine ⟨fun i mm σ H => mm = xs.length - i ∧ i ≤ xs.length ∧ ∃ cσ1 ch1 m1, RS X.K m1 H cσ1 σ ∧ Sim X.K cl m1 ch1 H ∧ Ext X.K m0 H0 m1 H ∧ forL ok g fb (xs.drop i) cσ1 ch1 = some (fl, cσ', ch'), ?_, ?_⟩
  · exact ⟨_, rfl, Nat.zero_le _, cσ, c1, m0, rs.mono e0, S0, .refl, h⟩
  · rintro i mm σ2 H2 ⟨rfl, hi', cσ1, ch1, m1, rs1, S1, e1, h2⟩
    by_cases hlt : i < xs.length
    · right
      rw [List.drop_eq_getElem_cons hlt] at h2
      unfold forL at h2
      split at h2
      · rename_i hok
        obtain ⟨⟨σ3, c3⟩, h3, h2⟩ := bindS h2
        obtain ⟨⟨f4, σ4, c4⟩, h4, h2⟩ := bindS h2
        refine ⟨W.goes i m1 ch1 H2 hlt e1 S1 hok, fun σ' H' => ∃ cσ1 ch1 m1, RS X.K m1 H' cσ1 σ' ∧ Sim X.K cl m1 ch1 H' ∧ Ext X.K m0 H0 m1 H' ∧ forL ok g fb (xs.drop (i + 1)) cσ1 ch1 = some (fl, cσ', ch'), fun σ' H' hN => ⟨xs.length - (i + 1), by omega, rfl, hlt, hN⟩, fun x H' y => ?_⟩
        obtain ⟨pv, hpv, Sy, ey, ry⟩ := W.yields i m1 ch1 H2 x H' hlt e1 S1 hok y
        rw [List.getElem?_eq_getElem hlt] at hpv
        cases hpv
        refine hg _ _ _ _ _ h3 m1 σ2 H' x (rs1.mono ey) Sy ry _ fun m5 H5 σ5 e5 S5 r5 => ?_
        have e05 := (e1.trans ey).trans e5
        refine hb _ _ _ _ _ h4 m5 σ5 H5 r5 S5 _ ?_
        cases f4 with
        | nx => exact fun m6 H6 σ6 e6 S6 r6 => ⟨σ4, c4, m6, r6, S6, e05.trans e6, h2⟩
        | ct => exact fun m6 H6 σ6 e6 S6 r6 => ⟨σ4, c4, m6, r6, S6, e05.trans e6, h2⟩
        | bk =>
          cases h2
          exact fun m6 H6 σ6 e6 S6 r6 => q m6 H6 σ6 ((e0.trans e05).trans e6) S6 r6
        | rt v =>
          cases h2
          exact fun m6 H6 w e6 S6 r6 => q m6 H6 w ((e0.trans e05).trans e6) S6 r6
      · cases h2
    · left
      have ei : i = xs.length := by omega
      subst ei
      rw [List.drop_length] at h2
      unfold forL at h2
      split at h2
      · rename_i hok
        cases h2
        exact ⟨W.stops m1 _ H2 e1 S1 hok, q m1 H2 σ2 (e0.trans e1) S1 rs1⟩
      · cases h2
/-! ### while -/
def whileN (c : CTt) (b : CS) : Nat → CSt → CH → Option (CF × CSt × CH)
  | 0, _, _ => none
  | n + 1, σ, ch => (c σ ch).bind fun p => if p.1 = true then (b σ p.2).bind (kLoop (whileN c b n)) else some (.nx, σ, p.2)
def cWhile (n : Nat) (c : CTt) (b : CS) : CS := whileN c b n
theorem ss_while {c : Expr} {body : List Stmt} {fc : CTt} {fb : CS} {pos : Pos} (n : Nat) (hp : PassesOwn (model X.prog X.w) X.A X.env X.xe) (hc : ST cl X c fc) (hb : SSs cl X body fb) : SS cl X (.While c body [] pos) (cWhile n fc fb) := by
  obtain ⟨tc, p, hc⟩ := hc
  obtain ⟨tb, p'', hb⟩ := hb
  refine ⟨_, ps_while hp p p'', fun cσ ch fl cσ' ch' h m σ H rs S D q => ?_⟩
  refine ⟨fun k σ1 H1 => ∃ cσ1 ch1 m1, RS X.K m1 H1 cσ1 σ1 ∧ Sim X.K cl m1 ch1 H1 ∧ Ext X.K m H m1 H1 ∧ whileN fc fb k cσ1 ch1 = some (fl, cσ', ch'), ⟨n, cσ, ch, m, rs, S, .refl, h⟩, ?_⟩
  rintro k σ1 H1 ⟨cσ1, ch1, m1, rs1, S1, e1, h1⟩
  cases k with
  | zero => cases h1
  | succ k =>
    unfold whileN at h1
    obtain ⟨⟨b, c2⟩, h2, h1⟩ := bindS h1
    refine hc _ _ _ _ h2 m1 σ1 H1 rs1 S1 _ fun m2 H2 e2 S2 => ?_
    have e02 := e1.trans e2
    cases b with
    | false => cases h1; exact q m2 H2 σ1 e02 S2 (rs1.mono e2)
    | true =>
      obtain ⟨⟨f4, σ4, c4⟩, h4, h1⟩ := bindS h1
      rw [if_pos rfl]
      refine ⟨fun σ' H' => ∃ cσ1 ch1 m1, RS X.K m1 H' cσ1 σ' ∧ Sim X.K cl m1 ch1 H' ∧ Ext X.K m H m1 H' ∧ whileN fc fb k cσ1 ch1 = some (fl, cσ', ch'), fun σ' H' hN => ⟨k, Nat.lt_succ_self k, hN⟩, ?_⟩
      refine hb _ _ _ _ _ h4 m2 σ1 H2 (rs1.mono e2) S2 _ ?_
      cases f4 with
      | nx => exact fun m6 H6 σ6 e6 S6 r6 => ⟨σ4, c4, m6, r6, S6, e02.trans e6, h1⟩
      | ct => exact fun m6 H6 σ6 e6 S6 r6 => ⟨σ4, c4, m6, r6, S6, e02.trans e6, h1⟩
      | bk =>
        cases h1
        exact fun m6 H6 σ6 e6 S6 r6 => q m6 H6 σ6 (e02.trans e6) S6 r6
      | rt v =>
        cases h1
        exact fun m6 H6 w e6 S6 r6 => q m6 H6 w (e02.trans e6) S6 r6
/-! ### comprehensions: a name walks -/
def wipeC (σ : CSt) : List Nat → CSt
  | [] => σ
  | v :: vs => (wipeC σ vs).set v none
theorem RS.wipe {m : List Addr} {H : Hp} {cσ : CSt} {σ : L2.St} (r : RS K m H cσ σ) : ∀ vs : List Nat, RS K m H (wipeC cσ vs) (L2.wipe σ vs)
  | [] => r
  | v :: vs => (RS.wipe r vs).setN v
def cYes : CTt := fun _ ch => some (true, ch)
def compL (ok : CH → Bool) (i D : Nat) (t : CTt) (e : CE) (σ : CSt) : List PV → CH → Option CH
  | [], ch => if ok ch = true then some ch else none
  | x :: xs, ch => if ok ch = true then (t (σ.set i (some x)) ch).bind fun p => if p.1 = true then (e (σ.set i (some x)) p.2).bind fun q => (lstAt q.2 D).bind fun acc =>
      if acc.length < sizeLine then compL ok i D t e σ xs (q.2.set D (.lst (acc ++ [q.1]))) else none else compL ok i D t e σ xs p.2 else none
/-- [e for x in .. if t], x at slot i -/
def cLc (it : CI) (i : Nat) (t : CTt) (e : CE) (vs : List Nat) : CE := fun σ ch => (it σ ch).bind fun p => (compL p.1.2 i p.2.length t e (wipeC σ vs) p.1.1 (p.2 ++ [.lst []])).bind fun c => some (.ref p.2.length, c)
def STs (cl : List CT) (X : Cx) (es : List Expr) (f : CTt) : Prop := ∃ t : TT, PTs X es t ∧ ∀ cσ ch v ch', f cσ ch = some (v, ch') → ∀ m σ H, RS X.K m H cσ σ → Sim X.K cl m ch H →
  ∀ Q : Bool → Hp → Prop, (∀ m' H', Ext X.K m H m' H' → Sim X.K cl m' ch' H' → Q v H') → t σ H Q
theorem sts_nil : STs cl X [] cYes := ⟨_, pts_nil, fun cσ ch v ch' h m σ H rs S Q q => by cases h; exact q m H .refl S⟩
theorem sts_one {c : Expr} {t : CTt} (h : ST cl X c t) : STs cl X [c] t := let ⟨t, p, q⟩ := h; ⟨t, pts_one p, q⟩
theorem wipe_setW {σ : L2.St} {i : Nat} {x : V} : ∀ {vs : List Nat}, i ∈ vs → L2.wipe ((L2.wipe σ vs).set i (some x)) vs = L2.wipe σ vs := by
  intro vs hi
  have gen : ∀ (ws : List Nat) (τ : L2.St) (j : Nat), (L2.wipe τ ws)[j]? = if j ∈ ws then (if j < τ.length then some none else none) else τ[j]? := by
    intro ws
    induction ws with
    | nil => intro τ j; simp [L2.wipe]
    | cons v ws ih =>
      intro τ j
      show ((L2.wipe τ ws).set v none)[j]? = _
      by_cases hj : v = j
      · subst hj
        by_cases hl : v < τ.length
        · rw [List.getElem?_set_self (by rw [wipe_length]; exact hl)]; simp [hl]
        · rw [List.getElem?_eq_none (by simp [wipe_length]; omega)]; simp [hl]
      · rw [List.getElem?_set_ne hj, ih]
        have : (j ∈ v :: ws) = (j ∈ ws) := by simp [Ne.symm hj]
        simp only [this]
  apply List.ext_getElem?
  intro j
  rw [gen, gen]
  by_cases hj : j ∈ vs
  · simp [hj, wipe_length]
  · have : j ≠ i := by rintro rfl; exact hj hi
    simp only [hj, if_false]
    rw [List.getElem?_set_ne (Ne.symm this), gen]
    simp [hj]
theorem lcS {wi : TI} {tt : TT} {te : TE} {fi : CI} {ft : CTt} {fe : CE} {i : Nat} {vs : List Nat} (hiv : i ∈ vs)
    (hi : ∀ cσ ch xs ok ch', fi cσ ch = some ((xs, ok), ch') → ∀ m σ H, RS K m H cσ σ → Sim K cl m ch H → ∀ R : It → Hp → Prop, (∀ m' H' J, Ext K m H m' H' → Sim K cl m' ch' H' → WkC K cl J xs ok m' H' → R J H') → wi σ H R)
    (ht : ∀ cσ ch v ch', ft cσ ch = some (v, ch') → ∀ m σ H, RS K m H cσ σ → Sim K cl m ch H → ∀ Q : Bool → Hp → Prop, (∀ m' H', Ext K m H m' H' → Sim K cl m' ch' H' → Q v H') → tt σ H Q)
    (he : ∀ cσ ch v ch', fe cσ ch = some (v, ch') → ∀ m σ H, RS K m H cσ σ → Sim K cl m ch H → ∀ Q : VK, (∀ m' H' w, Ext K m H m' H' → Sim K cl m' ch' H' → RV K m' H' v w → Q w H') → te σ H Q) :
    ∀ cσ ch v ch', cLc fi i ft fe vs cσ ch = some (v, ch') → ∀ m σ H, RS K m H cσ σ → Sim K cl m ch H →
      ∀ Q : VK, (∀ m' H' w, Ext K m H m' H' → Sim K cl m' ch' H' → RV K m' H' v w → Q w H') → tLc wi (gName i) tt te vs σ H Q := by
  intro cσ ch v ch' h m σ H rs S Q q
  obtain ⟨⟨⟨xs, ok⟩, c1⟩, h1, h⟩ := bindS h
  obtain ⟨c2, h2, h⟩ := bindS h
  cases h
  refine hi _ _ _ _ _ h1 m σ H rs S _ fun m0 H0 J e0 S0 W => ?_
  intro D nD
  obtain ⟨S1, e1, r1⟩ := S0.newL (xs := []) nD .nil
  have gD : (m0 ++ [D])[c1.length]? = some D := by rw [← S0.len, List.getElem?_append_right (Nat.le_refl _)]; simp
  refine ⟨fun i mm H => mm = xs.length - i ∧ i ≤ xs.length ∧ ∃ ch1 m1, Sim K cl m1 ch1 H ∧ Ext K (m0 ++ [D]) (upd H0 D (.lst [])) m1 H ∧ compL ok _ c1.length ft fe (wipeC cσ vs) (xs.drop i) ch1 = some ch', ⟨_, rfl, Nat.zero_le _, _, _, S1, .refl, h2⟩, ?_⟩
  rintro k mm H2 ⟨rfl, hk, ch1, m1, Sk, ek, h3⟩
  have e0k := e1.trans ek
  by_cases hlt : k < xs.length
  · right
    rw [List.drop_eq_getElem_cons hlt] at h3
    unfold compL at h3
    split at h3
    · rename_i hok
      obtain ⟨⟨b, c4⟩, h4, h3⟩ := bindS h3
      refine ⟨W.goes k m1 ch1 H2 hlt e0k Sk hok, fun H' => ∃ ch1 m1, Sim K cl m1 ch1 H' ∧ Ext K (m0 ++ [D]) (upd H0 D (.lst [])) m1 H' ∧ compL ok _ c1.length ft fe (wipeC cσ vs) (xs.drop (k + 1)) ch1 = some ch', fun H' hN => ⟨xs.length - (k + 1), by omega, rfl, hlt, hN⟩, fun x H' y => ?_⟩
      obtain ⟨pv, hpv, Sy, ey, ry⟩ := W.yields k m1 ch1 H2 x H' hlt e0k Sk hok y
      rw [List.getElem?_eq_getElem hlt] at hpv
      cases hpv
      have rs1 : RS K m1 H' ((wipeC cσ vs).set i (some xs[k])) ((L2.wipe σ vs).set i (some x)) := ((rs.mono ((e0.trans e0k).trans ey)).wipe vs).set ry
      refine ⟨wipe_setW hiv, ht _ _ _ _ h4 m1 _ H' rs1 Sy _ fun m5 H5 e5 S5 => ?_⟩
      cases b with
      | false =>
        rw [if_neg Bool.false_ne_true]
        exact ⟨c4, m5, S5, (ek.trans ey).trans e5, h3⟩
      | true =>
        rw [if_pos rfl]
        obtain ⟨⟨v6, c6⟩, h6, h3⟩ := bindS h3
        obtain ⟨acc, h7, h3⟩ := bindS h3
        split at h3
        · rename_i hz
          refine he _ _ _ _ h6 m5 _ H5 (rs1.mono e5) S5 _ fun m8 H8 w8 e8 S8 r8 => ?_
          have e18 := ((ek.trans ey).trans e5).trans e8
          have g8 := e18.pre _ _ gD
          obtain ⟨us, hH, ru⟩ := S8.lst g8 h7
          refine ⟨us, hH, by rw [← ru.length]; exact hz, ?_⟩
          have ex : Ext K m8 H8 m8 (upd H8 D (.lst (us ++ [w8]))) := .upd hH trivial
          exact ⟨_, m8, S8.set (u := .lst (acc ++ [v6])) g8 hH trivial ⟨_, upd_same, (ru.append (.cons r8 .nil)).mono ex⟩, e18.trans ex, h3⟩
        · cases h3
    · cases h3
  · left
    have ei : k = xs.length := by omega
    subst ei
    rw [List.drop_length] at h3
    unfold compL at h3
    split at h3
    · rename_i hok
      cases h3
      exact ⟨W.stops m1 _ H2 e0k Sk hok, q m1 H2 _ (e0.trans e0k) Sk (.ref (ek.pre _ _ gD))⟩
    · cases h3
/-- the reading that a clean function is -/
def tEc (K : PySem.W.Frag) (cl : List CT) (f : CE) : TE := fun σ H Q => ∃ cσ ch v ch' m, f cσ ch = some (v, ch') ∧ RS K m H cσ σ ∧ Sim K cl m ch H ∧ ∀ m' H' w, Ext K m H m' H' → Sim K cl m' ch' H' → RV K m' H' v w → Q w H'
def tTc (K : PySem.W.Frag) (cl : List CT) (f : CTt) : TT := fun σ H Q => ∃ cσ ch v ch' m, f cσ ch = some (v, ch') ∧ RS K m H cσ σ ∧ Sim K cl m ch H ∧ ∀ m' H', Ext K m H m' H' → Sim K cl m' ch' H' → Q v H'
theorem SE.canon {e : Expr} {f : CE} (h : SE cl X e f) : PE X e (tEc X.K cl f) := by
  obtain ⟨t, p, h⟩ := h
  exact ⟨fun pins s σ H Q I ⟨cσ, ch, v, ch', m, h1, rs, S, q⟩ => p.run pins s σ H Q I (h _ _ _ _ h1 m σ H rs S Q q)⟩
theorem STs.canon {e : List Expr} {f : CTt} (h : STs cl X e f) : PTs X e (tTc X.K cl f) := by
  obtain ⟨t, p, h⟩ := h
  exact ⟨fun pins s σ H Q I ⟨cσ, ch, v, ch', m, h1, rs, S, q⟩ => p.run pins s σ H Q I (h _ _ _ _ h1 m σ H rs S Q q)⟩
theorem se_lc {elt iter : Expr} {x : Str} {px : Pos} {ifs : List Expr} {scope : Scope} {own : List (Str × Nat)} {pos : Pos} {fi : CI} {ft : CTt} {fe : CE} (i : Nat) (hc : X.calm = true) (hN : X.N.Nodup) (hi : SI cl X (.Name x px) iter fi) (ok : BlkOk X.N X.env.scope scope own)
    (hg : ∀ (s : Shared) (H : Hp) (C : Addr) (cls : List (Str × Addr)) (fp : List Addr), PG (X.blk s H scope (PySem.compEnvC scope cls C X.env) fp) (.Name x px) (gName i))
    (ht : ∀ (s : Shared) (H : Hp) (C : Addr) (cls : List (Str × Addr)) (fp : List Addr), STs cl (X.blk s H scope (PySem.compEnvC scope cls C X.env) fp) ifs ft)
    (he : ∀ (s : Shared) (H : Hp) (C : Addr) (cls : List (Str × Addr)) (fp : List Addr), SE cl (X.blk s H scope (PySem.compEnvC scope cls C X.env) fp) elt fe)
    (hiv : i ∈ own.map (·.2) := by decide) (hs : ∀ x, foldedSetIterable iter X.env x = pure x := by intro _; rfl) :
    SE cl X (.ListComp elt [⟨.Name x px, iter, ifs, 0⟩] scope pos) (cLc fi i ft fe (own.map (·.2))) := by
  obtain ⟨wi, p, hi⟩ := hi
  refine ⟨_, pe_lc (own := own) (te := tEc X.K cl fe) (tt := tTc X.K cl ft) hc hN p ok hg (fun s H C cls fp => (ht s H C cls fp).canon) (fun s H C cls fp => (he s H C cls fp).canon) hs, ?_⟩
  exact lcS hiv hi (fun cσ ch v ch' h m σ H rs S Q q => ⟨cσ, ch, v, ch', m, h, rs, S, q⟩) (fun cσ ch v ch' h m σ H rs S Q q => ⟨cσ, ch, v, ch', m, h, rs, S, q⟩)
/-- y = [e for x in .. if t] -/
theorem ss_setLc {elt iter : Expr} {x y : Str} {px py : Pos} {ifs : List Expr} {scope : Scope} {own : List (Str × Nat)} {pos spos : Pos} {fi : CI} {ft : CTt} {fe : CE} (k i : Nat) (hc : X.calm = true) (hN : X.N.Nodup)
    (hsw : swapsWith (.ListComp elt [⟨.Name x px, iter, ifs, 0⟩] scope pos) (some (.Name y py)) spos.line X.env = pure true) (hi : SI cl X (.Name x px) iter fi) (ok : BlkOk X.N X.env.scope scope own)
    (hg : ∀ (s : Shared) (H : Hp) (C : Addr) (cls : List (Str × Addr)) (fp : List Addr), PG (X.blk s H scope (PySem.compEnvC scope cls C X.env) fp) (.Name x px) (gName i))
    (ht : ∀ (s : Shared) (H : Hp) (C : Addr) (cls : List (Str × Addr)) (fp : List Addr), STs cl (X.blk s H scope (PySem.compEnvC scope cls C X.env) fp) ifs ft)
    (he : ∀ (s : Shared) (H : Hp) (C : Addr) (cls : List (Str × Addr)) (fp : List Addr), SE cl (X.blk s H scope (PySem.compEnvC scope cls C X.env) fp) elt fe)
    (hy : X.N[k]? = some y := by rfl) (hyl : X.env.scope.names.lookup y = some .local := by rfl)
    (hiv : i ∈ own.map (·.2) := by decide) (hs : ∀ x, foldedSetIterable iter X.env x = pure x := by intro _; rfl) :
    SS cl X (.Assign [.Name y py] (.ListComp elt [⟨.Name x px, iter, ifs, 0⟩] scope pos) spos) (cSet k (cLc fi i ft fe (own.map (·.2)))) := by
  obtain ⟨wi, p, hi⟩ := hi
  refine ⟨_, ps_setLc (own := own) (te := tEc X.K cl fe) (tt := tTc X.K cl ft) hc hN hy hyl hsw p ok hg (fun s H C cls fp => (ht s H C cls fp).canon) (fun s H C cls fp => (he s H C cls fp).canon) hs, fun cσ ch fl cσ' ch' h m σ H rs S D q => ?_⟩
  obtain ⟨⟨v, c1⟩, h1, h⟩ := bindS h
  cases h
  refine lcS hiv hi (fun cσ ch v ch' h m σ H rs S Q q => ⟨cσ, ch, v, ch', m, h, rs, S, q⟩) (fun cσ ch v ch' h m σ H rs S Q q => ⟨cσ, ch, v, ch', m, h, rs, S, q⟩) _ _ _ _ h1 m σ H rs S _ fun m1 H1 w e1 S1 r1 => ?_
  exact q m1 H1 _ e1 S1 ((rs.mono e1).set r1)
end
end Cn
namespace PySem
set_option maxHeartbeats 1000000 in
theorem meets_enumerate_newTup (l : Addr) (items : Array Value) (n : Nat) (dct : Option Addr) (sl : Array (Option Value)) :
    Meets (Builtin.«enumerate.__new__» ⟨[.type "enumerate", .ref l], []⟩) (fun _ R s => s.heap.get? l = some { cls := .type "tuple", dict := dct, data := .seq items n, slots := sl } ∧
      R (.ok (.ret (.ref (s.heap.push { cls := .type "tuple_iterator", data := .fields #[.ref l, .int 0 0] }).objs.size)))
        { s with heap := (s.heap.push { cls := .type "tuple_iterator", data := .fields #[.ref l, .int 0 0] }).push { cls := .type "enumerate", data := .fields #[.none, .bool false, .ref s.heap.objs.size, rawInt 0, .none, .none] } }) :=
  .of_wp fun prog w A R s h => by
    obtain ⟨hp, g, d, tk, os⟩ := s; obtain ⟨hl, h⟩ := h
    have hsub := sub_enumerate
    have hL : Heap.IsTuple (Shared.heap ⟨hp, g, d, tk, os⟩) l items := ⟨_, hl, rfl, n, rfl⟩
    wp_walk using wpAny_loadPart' hl
    refine wpAny_stack_any fun st => wpAny_pure ?_
    split
    · rename_i c _ _ _ _ _
      cases (c == Value.type "enumerate")
      · wp_walk using wpAny_loadPart' hl, wpAny_pyIter_tuple hL
        exact ⟨_, rfl, h⟩
      · wp_walk using wpAny_loadPart' hl, wpAny_pyIter_tuple hL
        exact ⟨_, rfl, h⟩
    · wp_walk using wpAny_loadPart' hl, wpAny_pyIter_tuple hL
      exact ⟨_, rfl, h⟩
section
variable {prog : Program} {w : World} {A : Around} {E : Value → Shared → Prop} {s : Shared}
theorem call_enumerate_tup {l : Addr} {items : Array Value} {Q : Value → Shared → Prop} (hL : s.heap.IsTuple l items)
    (h : ∀ h', IsEnum h' (s.heap.objs.size + 1) s.heap.objs.size 0 .none → h'.IsTupleIter s.heap.objs.size l 0 → h'.objs.size = s.heap.objs.size + 2 →
      (∀ b o, s.heap.get? b = some o → h'.get? b = some o) → Q (.ref (s.heap.objs.size + 1)) { s with heap := h' }) :
    wpAny (model prog w) A (call (.type "enumerate") [.ref l]) Q E s := by
  obtain ⟨⟨c, dct, dt, sl⟩, hl, hc, n, hd⟩ := hL
  replace hc : c = .type "tuple" := hc
  replace hd : dt = .seq items n := hd
  subst hc hd
  refine callType_new F.called_enumerate (by decide) (F.typeCall_enumerate_1 _) (F.newCall_enumerate_1 _) (fun obj => F.args_object_init_2 obj _) F.entry_enumerate_new
    (meets_enumerate_newTup l items n dct sl) ⟨hl, ?_⟩
  have hz : (s.heap.push { cls := .type "tuple_iterator", data := .fields #[.ref l, .int 0 0] }).objs.size = s.heap.objs.size + 1 := Heap.size_push ..
  show _ ∧ _
  rw [hz]
  have he : IsEnum ((s.heap.push { cls := .type "tuple_iterator", data := .fields #[.ref l, .int 0 0] }).push
      { cls := .type "enumerate", data := .fields #[.none, .bool false, .ref s.heap.objs.size, rawInt 0, .none, .none] }) (s.heap.objs.size + 1) s.heap.objs.size 0 .none := by
    have := Heap.get?_push_size (s.heap.push { cls := .type "tuple_iterator", data := .fields #[.ref l, .int 0 0] })
      (o := { cls := .type "enumerate", data := .fields #[.none, .bool false, .ref s.heap.objs.size, rawInt 0, .none, .none] }) rfl
    rw [hz] at this; exact this
  refine ⟨⟨_, he, rfl⟩, h _ he ⟨_, Heap.get?_push_of_some _ (Heap.get?_push_size _ rfl), rfl, rfl⟩ (by rw [Heap.size_push, hz]) fun b o x => Heap.get?_push_of_some _ (Heap.get?_push_of_some _ x)⟩
end
end PySem
namespace Cn
open PySem L2
section
variable {K : PySem.W.Frag} {cl : List CT} {X : Cx}
/-- the tuple at a, each item in a new pair -/
def IteT (K : PySem.W.Frag) (a : Addr) : It :=
  ⟨fun i H => ∃ (xs : List V) (x : V), SqT K H a xs ∧ xs[i]? = some x, fun i H v H' => ∃ T x, v = .ref T ∧ H T = none ∧ H' = upd H T (.tup [.int (i : Nat), x]) ∧ ∀ xs, SqT K H a xs → xs[i]? = some x, fun i H => ∃ xs : List V, SqT K H a xs ∧ xs.length ≤ i⟩
theorem turn_enumT {P : Program} {w : World} {K : PySem.W.Frag} {elts : List Expr} {kk : Nat} {tpos : Pos} (a e it : Addr) :
    Turn P w K (.Tuple elts kk tpos) (IteT K a) [e, it] e (fun i h => (∃ old, IsEnum h e it ((i : Nat) : Int) old) ∧ h.IsTupleIter it a i ∧ e ≠ it ∧ a ≠ e ∧ a ≠ it) where
  mem := by simp
  obj := fun i h st b hb => by
    obtain ⟨⟨old, he⟩, ⟨o, ho, hc, hd⟩, _⟩ := st
    have e' : b = e ∨ b = it := by simpa using hb
    rcases e' with z | z
    · rw [z]; exact ⟨_, he, fun v q => nomatch q⟩
    · rw [z]; exact ⟨o, ho, fun v q => by rw [hd] at q; cases q⟩
  keep := fun i h h' st k => let ⟨⟨old, he⟩, hi, hne⟩ := st; ⟨⟨old, k e (by simp) _ he⟩, hi.at fun o q => k it (by simp) o q, hne⟩
  item := by
    intro X hP hw hK hc i pins s σ H E I hf st hg
    subst hP hw hK
    obtain ⟨⟨old, he⟩, hit, hne, hae, hai⟩ := st
    obtain ⟨xs, x, hq, hx⟩ := hg
    obtain ⟨its, rv, p, hz⟩ := I.tuple hq
    obtain ⟨u, hu, ru⟩ := rv.get hx
    have hel : e < s.heap.objs.size := Heap.lt_size he
    have hil : it < s.heap.objs.size := by obtain ⟨_, q, _⟩ := hit; exact Heap.lt_size q
    have hh : X.A.in1.handled = none := I.ok.hd hc
    have hil' : i < its.toArray.size := by have := (List.getElem?_eq_some_iff.mp hu).1; simpa using this
    refine wpAny_pyNext_enum_itemD (Draws.tuple hh it a hai its.toArray) he ⟨hit, p⟩ hil' hne (by simp [hne, Ne.symm hae]) fun u' h' tk hP ho hit' hT hsz hk => ?_
    have eu : u' = u := by
      have hu2 : its.toArray[i]? = some u := by simpa using hu
      rw [hu2] at hP
      exact (Option.some.inj hP).symm
    subst eu
    refine ⟨_, rfl, wpAny_letOwnedTupleGo_enum (s := { s with heap := h', toks := tk + 1 }) ho fun h'' he' sb => ?_⟩
    have hT2 : h''.get? s.heap.objs.size = some { cls := .type "tuple", data := .seq #[.int i tk, u'] } := (sb.2 _ (Nat.ne_of_gt hel)).trans hT
    have new : ObjOk X.prog X.w (upd H s.heap.objs.size (.tup [.int (i : Nat), x])) h'' s.heap.objs.size (.tup [.int (i : Nat), x]) :=
      ⟨by show 2 ≤ sizeLine; decide, [.int i tk, u'], .cons ⟨_, rfl⟩ (.cons ru .nil), ⟨_, hT2, rfl, _, rfl⟩⟩
    have I1 : Inv X pins σ (upd H s.heap.objs.size (.tup [.int (i : Nat), x])) { s with heap := h'', toks := tk + 1 } :=
      I.turnedNew (ch := [e, it]) (fun b ob hb q => (sb.2 b (fun z => hb (by simp [z]))).trans (hk b ob (fun z => hb (by simp [z])) (fun z => hb (by simp [z])) q)) hf (Nat.le_refl _) new
    refine ⟨.ref s.heap.objs.size, _, I1, rfl, ⟨_, x, rfl, I.hok.fresh (Nat.le_refl _), rfl, fun ys hy => by rw [I.tuple_inj hy hq]; exact hx⟩, ⟨⟨u', ?_⟩, hit'.1.at fun o q => (sb.2 it (Ne.symm hne)).trans q, hne, hae, hai⟩, fun b hb => ?_⟩
    · have e1 : ((i + 1 : Nat) : Int) = (i : Int) + 1 := by omega
      rw [e1]; exact he'
    · have hb' : b < s.heap.objs.size := by
        have e' : b = e ∨ b = it := by simpa using hb
        rcases e' with z | z
        · rw [z]; exact hel
        · rw [z]; exact hil
      rw [upd_ne (Nat.ne_of_lt hb')]
      exact (hf b hb).1
  done := by
    intro X hP hw hK hc i pins s σ H E I hf st hg
    subst hP hw hK
    obtain ⟨⟨old, he⟩, hit, hne, hae, hai⟩ := st
    obtain ⟨xs, hq, hx⟩ := hg
    obtain ⟨its, rv, p, hz⟩ := I.tuple hq
    obtain ⟨f0, f1, f2, f3, f4, f5⟩ := hf it (by simp)
    have hl := rv.length
    have hh : X.A.in1.handled = none := I.ok.hd hc
    have none_at : its.toArray[i]? = none := by simp; omega
    have hT : s.TypeIs (.ref e) "enumerate" := ⟨_, he, rfl⟩
    unfold pyNext
    refine wpAny_bind (wpAny_attempt (wpAny_callSpecial?_slot (name := Str.ofString "__next__") hT PySem.F.slot_enumerate_next
      (wpAny_call_entry PySem.F.slot_enumerate_next hT PySem.F.entry_enumerate_next ?_ (PySem.F.args_enumerate_next_1 _))))
    show wpAny _ _ (field (.ref e) 2 >>= _) _ _ _
    refine wpAny_bind (wpAny_field he rfl (x := .ref it) rfl ?_)
    refine wpAny_bind (wpAny_nextOf_tuple_end hh hit p none_at fun h' x he' hx' => ?_)
    obtain ⟨o, ho, hc'⟩ := hx'
    refine wpAny_bind (wpAny_isInstance (T := "StopIteration") (b := true) ⟨o, ho, hc'⟩ isSubtype_stop ?_)
    exact wpAny_pure ⟨rfl, I.turned (t' := s.toks) (fun b o hb q => he' b o hb q) f0 f1 f3 f4 f5⟩
  self := fun A i s Q E st h => let ⟨⟨_, he⟩, _⟩ := st; PySem.wpAny_pyIter_enum he h
def iEnumT (K : PySem.W.Frag) (ta : TA) : TI := fun σ H R => ta σ H fun vs H1 => ∃ a xs, vs = [.ref a] ∧ SqT K H1 a xs ∧ R (IteT K a) H1
theorem pi_enumT {X : Cx} {e : Expr} {ta : TA} {p pos tpos : Pos} {elts : List Expr} {kk : Nat} (hg : Gl X "enumerate") (hm : X.mg "enumerate" = none) (ha : PA X [e] ta) (hs : starEach [e] X.env = [(false, eval e X.env)]) :
    PI X (.Tuple elts kk tpos) (.Call (.Name "enumerate" p) [e] [] pos) (iEnumT X.K ta) := by
  refine ⟨fun pins s σ H R I h => ?_⟩
  refine PyProof.Rows.Call_ (ld_blt I hg hm PyProof.Rows.boot_enumerate (PyProof.Rows.callWith_type1 (thn (ha.run pos pins s σ H _ I h) fun us s1 ⟨vs, H1, I1, r1, q1⟩ => ?_) hs rfl))
  obtain ⟨a, xs, ex, hq, q⟩ := q1
  subst ex
  cases r1 with
  | cons r rr =>
    cases rr
    cases r
    obtain ⟨its, rv, p', hz⟩ := I1.tuple hq
    refine call_enumerate_tup p' fun h' he hit hsz hk => PySem.wpAny_pyIter_enum he ?_
    have I2 : Inv X pins σ H1 { s1 with heap := h' } := I1.kept (t' := s1.toks) hk
    have hal : a < s1.heap.objs.size := p'.lt
    refine ⟨s1.heap.objs.size + 1, [s1.heap.objs.size + 1, s1.heap.objs.size], _, _, H1, rfl, I2, turn_enumT a (s1.heap.objs.size + 1) s1.heap.objs.size, ⟨⟨.none, he⟩, hit, Nat.succ_ne_self _, Nat.ne_of_lt (Nat.lt_succ_of_lt hal), Nat.ne_of_lt hal⟩, fun b hb => ?_, q⟩
    have e' : b = s1.heap.objs.size + 1 ∨ b = s1.heap.objs.size := by simpa using hb
    have hle : s1.heap.objs.size ≤ b := by
      rcases e' with z | z
      · rw [z]; exact Nat.le_add_right _ _
      · rw [z]; exact Nat.le_refl _
    exact I1.fpOk hle (I1.hok.fresh hle)
/-! ### pairs -/
structure WkP (K : PySem.W.Frag) (cl : List CT) (J : It) (xs : List PV) (ok : CH → Bool) (m0 : List Addr) (H0 : Hp) : Prop where
  goes : ∀ i m ch H, i < xs.length → Ext K m0 H0 m H → Sim K cl m ch H → ok ch = true → J.go i H
  stops : ∀ m ch H, Ext K m0 H0 m H → Sim K cl m ch H → ok ch = true → J.stop xs.length H
  yields : ∀ i m ch H x H', i < xs.length → Ext K m0 H0 m H → Sim K cl m ch H → ok ch = true → J.yld i H x H' → ∃ a b q va vb, xs[i]? = some (.tup [a, b]) ∧ x = .ref q ∧ SqT K H' q [va, vb] ∧ Sim K cl m ch H' ∧ Ext K m H m H' ∧ RV K m H' a va ∧ RV K m H' b vb
def SIP (cl : List CT) (X : Cx) (tg e : Expr) (f : CI) : Prop := ∃ wi : TI, PI X tg e wi ∧ ∀ cσ ch xs ok ch', f cσ ch = some ((xs, ok), ch') → ∀ m σ H, RS X.K m H cσ σ → Sim X.K cl m ch H →
  ∀ R : It → Hp → Prop, (∀ m' H' J, Ext X.K m H m' H' → Sim X.K cl m' ch' H' → WkP X.K cl J xs ok m' H' → R J H') → wi σ H R
theorem ss_forP {iter : Expr} {es : List Expr} {kk : Nat} {tpos : Pos} {body : List Stmt} {fi : CI} {gs : List PV → CSt → CH → Option (CSt × CH)} {fb : CS} {pos : Pos} (hp : PassesOwn (model X.prog X.w) X.A X.env X.xe) (hc : X.calm = true) (hi : SIP cl X (.Tuple es kk tpos) iter fi) (hg : SGs cl X es gs) (hb : SSs cl X body fb)
    (hn : (assignEach es X.env).length = 2 := by rfl) (hst : (assignEach es X.env).findIdx? (·.1) = none := by rfl)
    (hs : ∀ x, foldedSetIterable iter X.env x = pure x := by intro _; rfl) : SS cl X (.For (.Tuple es kk tpos) iter body [] pos) (cFor fi (gTp 2 gs) fb) := by
  obtain ⟨wi, p, hi⟩ := hi
  obtain ⟨tgt, p', hg⟩ := hg
  obtain ⟨tb, p'', hb⟩ := hb
  refine ⟨_, ps_for hp hc p (pg_tup hc p' hn hst) p'' hs, fun cσ ch fl cσ' ch' h m σ H rs S D q => ?_⟩
  obtain ⟨⟨⟨xs, ok⟩, c1⟩, h1, h⟩ := bindS h
  refine hi _ _ _ _ _ h1 m σ H rs S _ fun m0 H0 J e0 S0 W => ?_
  refine ⟨fun i mm σ H => mm = xs.length - i ∧ i ≤ xs.length ∧ ∃ cσ1 ch1 m1, RS X.K m1 H cσ1 σ ∧ Sim X.K cl m1 ch1 H ∧ Ext X.K m0 H0 m1 H ∧ forL ok (gTp 2 gs) fb (xs.drop i) cσ1 ch1 = some (fl, cσ', ch'), ?_, ?_⟩
  · exact ⟨_, rfl, Nat.zero_le _, cσ, c1, m0, rs.mono e0, S0, .refl, h⟩
  · rintro i mm σ2 H2 ⟨rfl, hi', cσ1, ch1, m1, rs1, S1, e1, h2⟩
    by_cases hlt : i < xs.length
    · right
      rw [List.drop_eq_getElem_cons hlt] at h2
      unfold forL at h2
      split at h2
      · rename_i hok
        obtain ⟨⟨σ3, c3⟩, h3, h2⟩ := bindS h2
        obtain ⟨⟨f4, σ4, c4⟩, h4, h2⟩ := bindS h2
        refine ⟨W.goes i m1 ch1 H2 hlt e1 S1 hok, fun σ' H' => ∃ cσ1 ch1 m1, RS X.K m1 H' cσ1 σ' ∧ Sim X.K cl m1 ch1 H' ∧ Ext X.K m0 H0 m1 H' ∧ forL ok (gTp 2 gs) fb (xs.drop (i + 1)) cσ1 ch1 = some (fl, cσ', ch'), fun σ' H' hN => ⟨xs.length - (i + 1), by omega, rfl, hlt, hN⟩, fun x H' y => ?_⟩
        obtain ⟨pa, pb, qa, va, vb, hpv, rfl, hT, Sy, ey, ra, rb⟩ := W.yields i m1 ch1 H2 x H' hlt e1 S1 hok y
        rw [List.getElem?_eq_getElem hlt] at hpv
        have hpv := Option.some.inj hpv
        rw [hpv] at h3
        have h3 : gs [pa, pb] cσ1 ch1 = some (σ3, c3) := h3
        refine ⟨qa, _, rfl, hT, rfl, hg _ _ _ _ _ h3 m1 σ2 H' _ (rs1.mono ey) Sy (.cons ra (.cons rb .nil)) _ fun m5 H5 σ5 e5 S5 r5 => ?_⟩
        have e05 := (e1.trans ey).trans e5
        refine hb _ _ _ _ _ h4 m5 σ5 H5 r5 S5 _ ?_
        cases f4 with
        | nx => exact fun m6 H6 σ6 e6 S6 r6 => ⟨σ4, c4, m6, r6, S6, e05.trans e6, h2⟩
        | ct => exact fun m6 H6 σ6 e6 S6 r6 => ⟨σ4, c4, m6, r6, S6, e05.trans e6, h2⟩
        | bk =>
          cases h2
          exact fun m6 H6 σ6 e6 S6 r6 => q m6 H6 σ6 ((e0.trans e05).trans e6) S6 r6
        | rt v =>
          cases h2
          exact fun m6 H6 w e6 S6 r6 => q m6 H6 w ((e0.trans e05).trans e6) S6 r6
      · cases h2
    · left
      have ei : i = xs.length := by omega
      subst ei
      rw [List.drop_length] at h2
      unfold forL at h2
      split at h2
      · rename_i hok
        cases h2
        exact ⟨W.stops m1 _ H2 e1 S1 hok, q m1 H2 σ2 (e0.trans e1) S1 rs1⟩
      · cases h2
def enumP : Nat → List PV → List PV
  | _, [] => []
  | i, x :: xs => .tup [.int i, x] :: enumP (i + 1) xs
theorem enumP_length : ∀ (xs : List PV) (i : Nat), (enumP i xs).length = xs.length
  | [], _ => rfl
  | _ :: xs, i => by simp [enumP, enumP_length xs]
theorem enumP_get : ∀ (xs : List PV) (k i : Nat) (x : PV), xs[i]? = some x → (enumP k xs)[i]? = some (.tup [.int ((k + i : Nat) : Int), x])
  | [], _, _, _, h => by simp at h
  | y :: xs, k, 0, x, h => by simp at h; subst h; simp [enumP]
  | y :: xs, k, i + 1, x, h => by
    have := enumP_get xs (k + 1) i x (by simpa using h)
    simp only [enumP, List.getElem?_cons_succ]
    rw [this]
    congr 4
    omega
def iEnumC : List PV → CH → Option ((List PV × (CH → Bool)) × CH) := fun xs ch => match xs with
  | [.tup ys] => some ((enumP 0 ys, okT), ch)
  | [.con ys] => some ((enumP 0 ys, okT), ch)
  | [.ref n] => (lstAt ch n).map fun ys => ((enumP 0 ys, okL n ys), ch)
  | _ => none
def ciEnum (a : CAs) : CI := fun σ ch => (a σ ch).bind fun p => iEnumC p.1 p.2
theorem wkp_tup {a : Addr} {xs : List PV} {vs : List V} {m : List Addr} {H : Hp} (hT : SqU K H a vs) (rr : RVs K m H xs vs) : WkP K cl (IteT K a) (enumP 0 xs) okT m H where
  goes i m1 ch H1 hi e S _ := by
    rw [enumP_length] at hi
    obtain ⟨v, hv, _⟩ := rr.get (List.getElem?_eq_getElem hi)
    exact ⟨vs, v, (e.tup _ _ hT).t, hv⟩
  stops m1 ch H1 e S _ := ⟨vs, (e.tup _ _ hT).t, by rw [enumP_length, rr.length]; exact Nat.le_refl _⟩
  yields i m1 ch H1 x H' hi e S _ y := by
    rw [enumP_length] at hi
    obtain ⟨T, z, rfl, nT, rfl, y⟩ := y
    obtain ⟨v, hv, rv⟩ := rr.get (List.getElem?_eq_getElem hi)
    have := y vs (e.tup _ _ hT).t
    rw [hv] at this; cases this
    refine ⟨_, _, T, _, _, enumP_get xs 0 i _ (List.getElem?_eq_getElem hi), rfl, SqT.of upd_same, S.fresh nT, .fresh nT, ?_, (rv.mono e).mono (.fresh nT)⟩
    rw [Nat.zero_add]
    exact .int _
theorem wkp_con {a : Addr} {xs : List PV} {vs : List V} {m : List Addr} {H : Hp} (hT : SqZ K H a vs) (rr : RVs K m H xs vs) : WkP K cl (Ite K a) (enumP 0 xs) okT m H where
  goes i m1 ch H1 hi e S _ := by
    rw [enumP_length] at hi
    obtain ⟨v, hv, _⟩ := rr.get (List.getElem?_eq_getElem hi)
    exact ⟨vs, v, (e.con _ _ hT).l, hv⟩
  stops m1 ch H1 e S _ := ⟨vs, (e.con _ _ hT).l, by rw [enumP_length, rr.length]; exact Nat.le_refl _⟩
  yields i m1 ch H1 x H' hi e S _ y := by
    rw [enumP_length] at hi
    obtain ⟨T, z, rfl, nT, rfl, y⟩ := y
    obtain ⟨v, hv, rv⟩ := rr.get (List.getElem?_eq_getElem hi)
    have := y vs (e.con _ _ hT).l
    rw [hv] at this; cases this
    refine ⟨_, _, T, _, _, enumP_get xs 0 i _ (List.getElem?_eq_getElem hi), rfl, SqT.of upd_same, S.fresh nT, .fresh nT, ?_, (rv.mono e).mono (.fresh nT)⟩
    rw [Nat.zero_add]
    exact .int _
theorem wkp_lst {n : Nat} {a : Addr} {xs : List PV} {m : List Addr} {H : Hp} (hn : m[n]? = some a) : WkP K cl (Ite K a) (enumP 0 xs) (okL n xs) m H where
  goes i m1 ch H1 hi e S ok := by
    rw [enumP_length] at hi
    obtain ⟨vs, hH, rr⟩ := S.lst (e.pre _ _ hn) (okL_iff.mp ok)
    obtain ⟨v, hv, _⟩ := rr.get (List.getElem?_eq_getElem hi)
    exact ⟨vs, v, .of hH, hv⟩
  stops m1 ch H1 e S ok := by
    obtain ⟨vs, hH, rr⟩ := S.lst (e.pre _ _ hn) (okL_iff.mp ok)
    exact ⟨vs, .of hH, by rw [enumP_length, rr.length]; exact Nat.le_refl _⟩
  yields i m1 ch H1 x H' hi e S ok y := by
    rw [enumP_length] at hi
    obtain ⟨T, z, rfl, nT, rfl, y⟩ := y
    obtain ⟨vs, hH, rr⟩ := S.lst (e.pre _ _ hn) (okL_iff.mp ok)
    obtain ⟨v, hv, rv⟩ := rr.get (List.getElem?_eq_getElem hi)
    have := y vs (.of hH)
    rw [hv] at this; cases this
    refine ⟨_, _, T, _, _, enumP_get xs 0 i _ (List.getElem?_eq_getElem hi), rfl, SqT.of upd_same, S.fresh nT, .fresh nT, ?_, rv.mono (.fresh nT)⟩
    rw [Nat.zero_add]
    exact .int _
theorem sip_enum {e : Expr} {es : List Expr} {kk : Nat} {tpos p pos : Pos} {ga : CAs} (hm : X.mg "enumerate" = none) (ha : SA cl X [e] ga) (hg : Gl X "enumerate" := by rfl) (hs : starEach [e] X.env = [(false, eval e X.env)] := by rfl) :
    SIP cl X (.Tuple es kk tpos) (.Call (.Name "enumerate" p) [e] [] pos) (ciEnum ga) := by
  obtain ⟨t, p, h⟩ := ha
  refine ⟨_, PI.or (pi_enum hg hm p hs) (pi_enumT hg hm p hs), fun cσ ch xs ok ch' hh m σ H rs S R q => ?_⟩
  obtain ⟨⟨x, c1⟩, h1, hh⟩ := bindS hh
  dsimp only at hh
  unfold iEnumC at hh
  split at hh
  · cases hh
    refine .inr (h _ _ _ _ h1 m σ H rs S _ fun m1 H1 w e1 S1 r1 => ?_)
    obtain ⟨v, rfl, rv⟩ := r1.one
    cases rv with
    | tup hT rr => exact ⟨_, _, rfl, hT.t, q m1 H1 _ e1 S1 (wkp_tup hT rr)⟩
  · cases hh
    refine .inl (h _ _ _ _ h1 m σ H rs S _ fun m1 H1 w e1 S1 r1 => ?_)
    obtain ⟨v, rfl, rv⟩ := r1.one
    cases rv with
    | con hT rr => exact ⟨_, _, rfl, hT.l, q m1 H1 _ e1 S1 (wkp_con hT rr)⟩
  · simp only [Option.map_eq_some_iff] at hh
    obtain ⟨ys, h2, e⟩ := hh
    cases e
    refine .inl (h _ _ _ _ h1 m σ H rs S _ fun m1 H1 w e1 S1 r1 => ?_)
    obtain ⟨v, rfl, rv⟩ := r1.one
    cases rv with
    | ref hn =>
      obtain ⟨vs, hH, rr⟩ := S1.lst hn h2
      exact ⟨_, _, rfl, .of hH, q m1 H1 _ e1 S1 (wkp_lst hn)⟩
  · cases hh
/-! ### isinstance -/
def tyN : PV → CH → Option String := fun x ch => match x with
  | .non => some "NoneType"
  | .bl _ => some "bool"
  | .int _ => some "int"
  | .str _ => some "str"
  | .tup _ => some "tuple"
  | .con _ => some "list"
  | .ref n => (match ch[n]? with
    | some (.lst _) => some "list"
    | some (.dct _) => some "dict"
    | _ => none)
theorem tyN_rel {m : List Addr} {ch : CH} {H : Hp} {x : PV} {v : V} {T : String} (S : Sim K cl m ch H) (r : RV K m H x v) (h : tyN x ch = some T) : TyX K H v (.type T) := by
  cases r with
  | non => cases h; exact .base .non
  | bl b => cases h; exact .base (.bl b)
  | int b => cases h; exact .base (.int b)
  | str b => cases h; exact .base (.str b)
  | tup hT rr =>
    cases h
    rcases hT with ⟨o, h, _⟩ | ⟨o, its, n, hk, hc, _⟩
    · exact .fTuple h
    · exact .kTuple hk hc
  | con hT rr =>
    cases h
    rcases hT with ⟨o, h⟩ | ⟨o, its, n, hk, hc, _⟩
    · exact .base (.frz h)
    · exact .kList hk hc
  | @ref n a hn =>
    simp only [tyN] at h
    split at h
    · rename_i xs hk
      obtain ⟨vs, hH, rr⟩ := S.ob n a _ hn hk
      cases h
      exact .base (.lst hH)
    · rename_i xs hk
      obtain ⟨vs, hH, rr⟩ := S.ob n a _ hn hk
      cases h
      exact .base (.dK hH)
    · cases h
def cIsi (T : String) (a : CE) : CE := fun σ ch => (a σ ch).bind fun p => (tyN p.1 p.2).bind fun t => (kitB t T).map fun b => (.bl b, p.2)
theorem se_isi {e : Expr} {f : CE} {x : Str} {p px pos : Pos} {T : String} (hm : X.mg "isinstance" = none) (hx : X.mg x = none) (hv : bootBuiltins x = some (.type T)) (h : SE cl X e f) (hv2 : bootBuiltins "isinstance" = some (.builtin "isinstance") := by decide +kernel) (hg : Gl X "isinstance" := by rfl) (hgx : Gl X x := by rfl)
    (hnx : x ≠ "__name__" := by decide) (hdx : (x == ("__debug__" : Str)) = false := by decide) (h1 : starEach [e, .Name x px] X.env = (false, eval e X.env) :: starEach [.Name x px] X.env := by rfl) (h2 : starEach [.Name x px] X.env = (false, eval (.Name x px) X.env) :: starEach [] X.env := by rfl)
    (hpl : (backTo pos (starEach [.Name x px] X.env)).any (·.1) = false := by rfl) : SE cl X (.Call (.Name "isinstance" p) [e, .Name x px] [] pos) (cIsi T f) := by
  obtain ⟨t, p, h⟩ := h
  refine ⟨_, pe_callB call_isi hg hm hv2 (pa_cons p (pa_cons (pe_bltn (v := .ty T) hgx hx hv rfl hnx hdx) pa_nil h2) h1) (by decide) (by decide) h1 hpl, fun cσ ch v ch' hh m σ H rs S Q q => ?_⟩
  obtain ⟨⟨y, c1⟩, h3, hh⟩ := bindS hh
  obtain ⟨tn, h4, hh⟩ := bindS hh
  simp only [Option.map_eq_some_iff] at hh
  obtain ⟨b, h5, e⟩ := hh
  cases e
  refine h _ _ _ _ h3 m σ H rs S _ fun m1 H1 w e1 S1 r1 => ?_
  exact ⟨w, .ty T, .type tn, .type T, b, rfl, .ty T, tyN_rel S1 r1 h4, kit_ty h5, q m1 H1 _ e1 S1 (.bl _)⟩
/-! ### for the printed texts -/
/-- the most turns of a while -/
def whileMax : Nat := 4294967296
def oAddI : C2 := fun x y ch => match x, y with
  | .int i, .int j => some (.int (i + j), ch)
  | _, _ => none
theorem s_addI : SOp K cl (rI0 fun i j => .int (i + j)) oAddI := s_ii (g' := fun i j => .int (i + j)) (fun x y ch z ch' h => by
  cases x <;> cases y <;> cases h; exact ⟨_, _, rfl, rfl, rfl, rfl⟩) fun i j m H => .int _
end
end Cn
namespace Cn
open PySem L2
/-- from the clean run of a law to its promise -/
theorem law_to {K : PySem.W.Frag} {cl : List CT} {F : CFn} (ht : ∀ ns : List Int, ns.length ≤ 63 → ∃ ch', F [.con (ns.map PV.int)] [] = some (.bl true, ch')) {vs : List V} {H : Hp} {Q : VK} {E : XK}
    (h : ∃ (a : Addr) (ns : List Int), vs = [.ref a] ∧ Only H ∧ SqL K H a (ns.map V.int) ∧ ns.length ≤ 63 ∧ ∀ H', Q (.bl true) H') : spC K cl 1 F vs H Q E := by
  obtain ⟨a, ns, rfl, hO, hS, hl, k⟩ := h
  obtain ⟨ch', hF⟩ := ht ns hl
  refine ⟨rfl, [], [], [.con (ns.map PV.int)], .bl true, ch', hF, ⟨rfl, .nil, fun i a o h => by simp at h⟩, .cons (.con ?_ RVs.of_ints) .nil, fun m' H' w _ _ r => by cases r; exact k H'⟩
  rcases hS with (h | ⟨o, h⟩) | h
  · rcases hO a with z | ⟨o, xs, z⟩
    · rw [h] at z; cases z
    · rw [h] at z; cases z
  · exact .inl ⟨o, h⟩
  · exact .inr h
end Cn
namespace Cn
open PySem L2
section
variable {σ : CSt} {ch : CH} {a b c : CE} {t u : CTt} {x y v : PV} {f g : CS} {ga : CAs}
@[simp] theorem e_var0 {v : PV} {σ : CSt} : cVar 0 (some v :: σ) ch = some (v, ch) := rfl
@[simp] theorem e_varS {i : Nat} {v : Option PV} {σ : CSt} : cVar (i + 1) (v :: σ) ch = cVar i σ ch := rfl
@[simp] theorem e_c : cC v σ ch = some (v, ch) := rfl
@[simp] theorem e_bin {g : C2} : cBin g a b σ ch = (a σ ch).bind fun p => (b σ p.2).bind fun q => g p.1 q.1 q.2 := rfl
@[simp] theorem e_un {g : C1} : cUn g a σ ch = (a σ ch).bind fun p => g p.1 p.2 := rfl
@[simp] theorem e_tru {b : Bool} : tru (.bl b) ch = some (b, ch) := rfl
@[simp] theorem e_tst : cTst a σ ch = (a σ ch).bind fun p => tru p.1 p.2 := rfl
@[simp] theorem e_and : cAnd t u σ ch = (t σ ch).bind fun p => if p.1 = true then u σ p.2 else some (false, p.2) := rfl
@[simp] theorem e_or : cOr t u σ ch = (t σ ch).bind fun p => if p.1 = true then some (true, p.2) else u σ p.2 := rfl
@[simp] theorem e_not : cNot t σ ch = (t σ ch).bind fun p => some (!p.1, p.2) := rfl
@[simp] theorem e_andV : cAndV a b σ ch = (a σ ch).bind fun p => (tru p.1 p.2).bind fun q => if q.1 = true then b σ p.2 else some (.bl false, p.2) := rfl
@[simp] theorem e_orV : cOrV a b σ ch = (a σ ch).bind fun p => (tru p.1 p.2).bind fun q => if q.1 = true then some (.bl true, p.2) else b σ p.2 := rfl
@[simp] theorem e_notV : cNotV a σ ch = (a σ ch).bind fun p => (tru p.1 p.2).bind fun q => some (.bl (!q.1), p.2) := rfl
@[simp] theorem e_ifE : cIfE t a b σ ch = (t σ ch).bind fun p => if p.1 = true then a σ p.2 else b σ p.2 := rfl
@[simp] theorem e_nil : cNil σ ch = some ([], ch) := rfl
@[simp] theorem e_cons : cCons a ga σ ch = (a σ ch).bind fun p => (ga σ p.2).bind fun q => some (p.1 :: q.1, q.2) := rfl
@[simp] theorem e_tup : cTup ga σ ch = (ga σ ch).bind fun p => if p.1.length ≤ sizeLine then some (.tup p.1, p.2) else none := rfl
@[simp] theorem e_lst : cLst ga σ ch = (ga σ ch).bind fun p => if p.1.length ≤ sizeLine then some (.ref p.2.length, p.2 ++ [.lst p.1]) else none := rfl
@[simp] theorem e_cl {g : CL} : cCl g ga σ ch = (ga σ ch).bind fun p => g p.1 p.2 := rfl
@[simp] theorem e_chain {g g' : C2} : cChain g g' a b c σ ch = (a σ ch).bind fun p => (b σ p.2).bind fun q => (g p.1 q.1 q.2).bind fun r => (tru r.1 r.2).bind fun k =>
  if k.1 = true then (c σ r.2).bind fun u => g' q.1 u.1 u.2 else some (.bl false, r.2) := rfl
@[simp] theorem e_pInt {i : Int} : pInt (.int i) ch = some (some i, ch) := rfl
@[simp] theorem e_po : cPo a σ ch = (a σ ch).bind fun p => pInt p.1 p.2 := rfl
@[simp] theorem e_poN : cPoN σ ch = some (none, ch) := rfl
@[simp] theorem e_sl {g : PV → Option Int → Option Int → CH → Option (PV × CH)} {l h : CPo} : cSl g a l h σ ch = (a σ ch).bind fun p => (l σ p.2).bind fun q => (h σ q.2).bind fun r => g p.1 q.1 r.1 r.2 := rfl
@[simp] theorem e_next : cNext σ ch = some (.nx, σ, ch) := rfl
@[simp] theorem e_kSeq_nx : kSeq g (.nx, σ, ch) = g σ ch := rfl
@[simp] theorem e_kSeq_rt : kSeq g (.rt v, σ, ch) = some (.rt v, σ, ch) := rfl
@[simp] theorem e_kSeq_bk : kSeq g (.bk, σ, ch) = some (.bk, σ, ch) := rfl
@[simp] theorem e_kSeq_ct : kSeq g (.ct, σ, ch) = some (.ct, σ, ch) := rfl
@[simp] theorem e_seq : cSeq f g σ ch = (f σ ch).bind (kSeq g) := rfl
@[simp] theorem e_expr : cExpr a σ ch = (a σ ch).bind fun p => some (.nx, σ, p.2) := rfl
@[simp] theorem e_ret : cRet a σ ch = (a σ ch).bind fun p => some (.rt p.1, σ, p.2) := rfl
@[simp] theorem e_retN : cRetN σ ch = some (.rt .non, σ, ch) := rfl
@[simp] theorem e_brk : cBrk σ ch = some (.bk, σ, ch) := rfl
@[simp] theorem e_cnt : cCnt σ ch = some (.ct, σ, ch) := rfl
@[simp] theorem e_if : cIf t f g σ ch = (t σ ch).bind fun p => if p.1 = true then f σ p.2 else g σ p.2 := rfl
@[simp] theorem e_asg {gg : CG} : cAsg a gg σ ch = (a σ ch).bind fun p => (gg p.1 σ p.2).bind fun q => some (.nx, q.1, q.2) := rfl
@[simp] theorem e_set {i : Nat} : cSet i a σ ch = (a σ ch).bind fun p => some (.nx, σ.set i (some p.1), p.2) := rfl
@[simp] theorem e_gN {i : Nat} : gN i v σ ch = some (σ.set i (some v), ch) := rfl
@[simp] theorem e_gTp {n : Nat} {g : List PV → CSt → CH → Option (CSt × CH)} {xs : List PV} : gTp n g (.tup xs) σ ch = if xs.length = n then g xs σ ch else none := rfl
@[simp] theorem e_gsNil : gsNil [] σ ch = some (σ, ch) := rfl
@[simp] theorem e_gsCons {gg : CG} {r : List PV → CSt → CH → Option (CSt × CH)} {xs : List PV} : gsCons gg r (x :: xs) σ ch = (gg x σ ch).bind fun p => r xs p.1 p.2 := rfl
@[simp] theorem e_gSb {s : PV → PV → PV → CH → Option CH} : gSb a b s v σ ch = (a σ ch).bind fun p => (b σ p.2).bind fun q => (s p.1 q.1 v q.2).bind fun c => some (σ, c) := rfl
@[simp] theorem e_slot0 {σ : CSt} : slot 0 (some v :: σ) = some v := rfl
@[simp] theorem e_slotS {i : Nat} {w : Option PV} {σ : CSt} : slot (i + 1) (w :: σ) = slot i σ := rfl
@[simp] theorem e_aug {i : Nat} {g : C2} : cAug i g a σ ch = (slot i σ).bind fun x => (a σ ch).bind fun p => (g x p.1 p.2).bind fun q => some (.nx, σ.set i (some q.1), q.2) := rfl
@[simp] theorem e_fldS {c i : Nat} : cFldS c i a b σ ch = (b σ ch).bind fun p => (a σ p.2).bind fun q => (sFldO c i q.1 p.1 q.2).bind fun c => some (.nx, σ, c) := rfl
@[simp] theorem e_ret1_nx : ret1 (.nx, σ, ch) = some (.non, ch) := rfl
@[simp] theorem e_ret1_rt : ret1 (.rt v, σ, ch) = some (v, ch) := rfl
theorem e_runF {n k : Nat} {fb : CS} {args : List PV} (h : args.length = n) : runF n k fb args ch = (fb (args.map some ++ List.replicate k none) ch).bind ret1 := if_pos h
@[simp] theorem e_meth {c : Nat} {F : CFn} : cMeth c F a ga σ ch = (a σ ch).bind fun p => if isIns c p.1 p.2 = true then (ga σ p.2).bind fun q => F (p.1 :: q.1) q.2 else none := rfl
@[simp] theorem e_retN' {n : Nat} : retN n (.non, ch) = some (.ref n, ch) := rfl
@[simp] theorem e_make {c k : Nat} {F : CFn} : cMake c k F ga σ ch = (ga σ ch).bind fun p => (F (.ref p.2.length :: p.1) (p.2 ++ [.ins c (List.replicate k none)])).bind (retN p.2.length) := rfl
@[simp] theorem e_augSb {g : C2} : cAugSb a b g c σ ch = (a σ ch).bind fun p => (b σ p.2).bind fun q => (oGet p.1 q.1 q.2).bind fun x => (c σ x.2).bind fun y => (g x.1 y.1 y.2).bind fun z => (oSet p.1 q.1 z.1 z.2).bind fun c => some (.nx, σ, c) := rfl
@[simp] theorem e_del : cDel a b σ ch = (a σ ch).bind fun p => (b σ p.2).bind fun q => (oDel p.1 q.1 q.2).bind fun c => some (.nx, σ, c) := rfl
@[simp] theorem e_dnew : cDNew σ ch = some (.ref ch.length, ch ++ [.dct []]) := rfl
@[simp] theorem e_bm {T : String} {g : PV → List PV → CH → Option (PV × CH)} : cBm T g a ga σ ch = (a σ ch).bind fun p => if tyC T p.1 p.2 = true then (ga σ p.2).bind fun q => g p.1 q.1 q.2 else none := rfl
@[simp] theorem e_isi {T : String} : cIsi T a σ ch = (a σ ch).bind fun p => (tyN p.1 p.2).bind fun t => (kitB t T).map fun b => (.bl b, p.2) := rfl
@[simp] theorem e_ciSeq : ciSeq a σ ch = (a σ ch).bind fun p => iSeq p.1 p.2 := rfl
@[simp] theorem e_ciR1 : ciR1 ga σ ch = (ga σ ch).bind fun p => iR1 p.1 p.2 := rfl
@[simp] theorem e_ciR2 : ciR2 ga σ ch = (ga σ ch).bind fun p => iR2 p.1 p.2 := rfl
@[simp] theorem e_ciEnum : ciEnum ga σ ch = (ga σ ch).bind fun p => iEnumC p.1 p.2 := rfl
@[simp] theorem e_cFor {it : CI} {gg : CG} : cFor it gg f σ ch = (it σ ch).bind fun p => forL p.1.2 gg f p.1.1 σ p.2 := rfl
@[simp] theorem e_cLc {it : CI} {i : Nat} {vs : List Nat} : cLc it i t a vs σ ch = (it σ ch).bind fun p => (compL p.1.2 i p.2.length t a (wipeC σ vs) p.1.1 (p.2 ++ [.lst []])).bind fun c => some (.ref p.2.length, c) := rfl
@[simp] theorem e_cYes : cYes σ ch = some (true, ch) := rfl
/-! operators -/
@[simp] theorem o_addI {i j : Int} : oAdd (.int i) (.int j) ch = some (.int (i + j), ch) := rfl
@[simp] theorem o_addS {i j : Str} : oAdd (.str i) (.str j) ch = if i.length + j.length ≤ sizeLine then some (.str (i ++ j), ch) else none := rfl
@[simp] theorem o_addT {i j : List PV} : oAdd (.tup i) (.tup j) ch = if i.length + j.length ≤ sizeLine then some (.tup (i ++ j), ch) else none := rfl
@[simp] theorem o_addII {i j : Int} : oAddI (.int i) (.int j) ch = some (.int (i + j), ch) := rfl
@[simp] theorem o_sub {i j : Int} : oSub (.int i) (.int j) ch = some (.int (i - j), ch) := rfl
@[simp] theorem o_mul {i j : Int} : oMul (.int i) (.int j) ch = if (-(2 ^ 64) < i ∧ i < 2 ^ 64) ∨ (-(2 ^ 64) < j ∧ j < 2 ^ 64) then some (.int (i * j), ch) else none := rfl
@[simp] theorem o_div {i j : Int} : oDiv (.int i) (.int j) ch = if 0 < j ∧ j < 1073741824 then some (.int (i / j), ch) else none := rfl
@[simp] theorem o_mod {i j : Int} : oMod (.int i) (.int j) ch = if 0 < j then some (.int (i % j), ch) else none := rfl
@[simp] theorem o_shr {i j : Int} : oShr (.int i) (.int j) ch = if 0 ≤ j then some (.int (i / 2 ^ j.toNat), ch) else none := rfl
@[simp] theorem o_and {i j : Int} : oAnd (.int i) (.int j) ch = some (.int (Builtin.bitAnd i j), ch) := rfl
@[simp] theorem o_neg {i : Int} : oNeg (.int i) ch = some (.int (-i), ch) := rfl
@[simp] theorem o_lt {i j : Int} : oLt (.int i) (.int j) ch = some (.bl (decide (i < j)), ch) := rfl
@[simp] theorem o_le {i j : Int} : oLe (.int i) (.int j) ch = some (.bl (decide (i ≤ j)), ch) := rfl
@[simp] theorem o_gt {i j : Int} : oGt (.int i) (.int j) ch = some (.bl (decide (j < i)), ch) := rfl
@[simp] theorem o_ge {i j : Int} : oGe (.int i) (.int j) ch = some (.bl (decide (j ≤ i)), ch) := rfl
theorem eqB_ii {i j : Int} : eqB (.int i) (.int j) ch = some (i == j) := by simp [eqB, toD, pdW, PyData.depth, PyData.eqv]
@[simp] theorem o_eqI {i j : Int} : oEq (.int i) (.int j) ch = some (.bl (i == j), ch) := by simp [oEq, eqB_ii]
@[simp] theorem o_neI {i j : Int} : oNe (.int i) (.int j) ch = some (.bl (!(i == j)), ch) := by simp [oNe, eqB_ii]
theorem eqB_ss {i j : Str} : eqB (.str i) (.str j) ch = some (i == j) := by simp [eqB, toD, pdW, PyData.depth, PyData.eqv]
@[simp] theorem o_eqS {i j : Str} : oEq (.str i) (.str j) ch = some (.bl (i == j), ch) := by simp [oEq, eqB_ss]
@[simp] theorem o_neS {i j : Str} : oNe (.str i) (.str j) ch = some (.bl (!(i == j)), ch) := by simp [oNe, eqB_ss]
@[simp] theorem o_isN_non : oIsN .non .non ch = some (.bl true, ch) := rfl
@[simp] theorem o_isN_tup {xs : List PV} : oIsN (.tup xs) .non ch = some (.bl false, ch) := rfl
@[simp] theorem o_isN_ref {n : Nat} : oIsN (.ref n) .non ch = some (.bl false, ch) := rfl
@[simp] theorem o_isN_int {i : Int} : oIsN (.int i) .non ch = some (.bl false, ch) := rfl
@[simp] theorem o_isN_str {i : Str} : oIsN (.str i) .non ch = some (.bl false, ch) := rfl
@[simp] theorem o_notN_non : oNotN .non .non ch = some (.bl false, ch) := rfl
@[simp] theorem o_notN_tup {xs : List PV} : oNotN (.tup xs) .non ch = some (.bl true, ch) := rfl
@[simp] theorem o_notN_ref {n : Nat} : oNotN (.ref n) .non ch = some (.bl true, ch) := rfl
@[simp] theorem o_notN_int {i : Int} : oNotN (.int i) .non ch = some (.bl true, ch) := rfl
@[simp] theorem o_notN_str {i : Str} : oNotN (.str i) .non ch = some (.bl true, ch) := rfl
@[simp] theorem o_int {i : Int} : oInt [.int i] ch = some (.int i, ch) := rfl
@[simp] theorem o_abs {i : Int} : oAbs [.int i] ch = some (.int (if i < 0 then -i else i), ch) := rfl
@[simp] theorem o_lenT {xs : List PV} : oLen [.tup xs] ch = some (.int xs.length, ch) := rfl
@[simp] theorem o_lenC {xs : List PV} : oLen [.con xs] ch = some (.int xs.length, ch) := rfl
@[simp] theorem o_lenS {z : Str} : oLen [.str z] ch = if z.length ≤ sizeLine then some (.int z.length, ch) else none := rfl
theorem o_lenR {n : Nat} {xs : List PV} (h : lstAt ch n = some xs) : oLen [.ref n] ch = some (.int xs.length, ch) := by
  simp only [oLen, lstAt_eq h]
theorem o_lenD {n : Nat} {xs : List (Key × PV)} (h : dctAt ch n = some xs) : oLen [.ref n] ch = some (.int xs.length, ch) := by
  simp only [oLen, dctAt_eq h]
@[simp] theorem o_ord {z : Str} : oOrd [.str z] ch = if z.length = 1 then some (.int (z.cps.getD 0 0 : Nat), ch) else none := rfl
@[simp] theorem o_tupT {xs : List PV} : oTup [.tup xs] ch = some (.tup xs, ch) := rfl
theorem o_tupR {n : Nat} {xs : List PV} (h : lstAt ch n = some xs) : oTup [.ref n] ch = some (.tup xs, ch) := by simp [oTup, seqOf, h]
@[simp] theorem o_lstT {xs : List PV} : oLst [.tup xs] ch = some (.ref ch.length, ch ++ [.lst xs]) := rfl
theorem o_lstR {n : Nat} {xs : List PV} (h : lstAt ch n = some xs) : oLst [.ref n] ch = some (.ref ch.length, ch ++ [.lst xs]) := by simp [oLst, seqOf, h]
@[simp] theorem o_max2 {i j : Int} : oMax [.int i, .int j] ch = some (.int (if j > i then j else i), ch) := rfl
@[simp] theorem o_min2 {i j : Int} : oMin [.int i, .int j] ch = some (.int (if j < i then j else i), ch) := rfl
@[simp] theorem o_ixT {xs : List PV} {i : Int} : oIx (.tup xs) (.int i) ch = (atI xs i).map fun v => (v, ch) := rfl
@[simp] theorem o_ixC {xs : List PV} {i : Int} : oIx (.con xs) (.int i) ch = (atI xs i).map fun v => (v, ch) := rfl
@[simp] theorem o_ixS {z : Str} {i : Int} : oIx (.str z) (.int i) ch = if z.length ≤ sizeLine then (atI z.cps.toList i).map fun c => (.str ⟨#[c]⟩, ch) else none := rfl
theorem o_ixR {n : Nat} {xs : List PV} {i : Int} (h : lstAt ch n = some xs) : oIx (.ref n) (.int i) ch = (atI xs i).map fun v => (v, ch) := by simp only [oIx, lstAt_eq h]
theorem o_ixD {n : Nat} {kvs : List (Key × PV)} {y : PV} (h : dctAt ch n = some kvs) : oIx (.ref n) y ch = (keyOf y).bind fun k => (vC kvs k).map fun v => (v, ch) := by simp only [oIx, dctAt_eq h]
@[simp] theorem o_slT {xs : List PV} {l h : Option Int} : oSl (.tup xs) l h ch = some (.tup (cutP xs l h), ch) := rfl
@[simp] theorem o_slS {z : Str} {l h : Option Int} : oSl (.str z) l h ch = if z.length ≤ sizeLine then some (.str (cutS z l h), ch) else none := rfl
theorem o_slR {n : Nat} {xs : List PV} {l h : Option Int} (e : lstAt ch n = some xs) : oSl (.ref n) l h ch = some (.ref ch.length, ch ++ [.lst (cutP xs l h)]) := by simp [oSl, e]
theorem o_setR {n : Nat} {xs : List PV} {i : Int} {v : PV} (h : lstAt ch n = some xs) : oSet (.ref n) (.int i) v ch = (ixN xs.length i).map fun j => ch.set n (.lst (xs.set j v)) := by simp only [oSet, lstAt_eq h]
theorem o_setD {n : Nat} {kvs : List (Key × PV)} {y v : PV} (h : dctAt ch n = some kvs) : oSet (.ref n) y v ch = (keyOf y).bind fun k => if kvs.length < sizeLine then some (ch.set n (.dct (putC kvs k v))) else none := by simp only [oSet, dctAt_eq h]
@[simp] theorem i_tup {xs : List PV} : iSeq (.tup xs) ch = some ((xs, okT), ch) := rfl
@[simp] theorem i_con {xs : List PV} : iSeq (.con xs) ch = some ((xs, okT), ch) := rfl
@[simp] theorem i_str {z : Str} : iSeq (.str z) ch = some ((z.cps.toList.map (fun c => PV.str ⟨#[c]⟩), okT), ch) := rfl
theorem i_ref {n : Nat} {xs : List PV} (h : lstAt ch n = some xs) : iSeq (.ref n) ch = some ((xs, okL n xs), ch) := by simp [iSeq, h]
@[simp] theorem e_okT : okT ch = true := rfl
@[simp] theorem forL_nil {ok : CH → Bool} {gg : CG} : forL ok gg f [] σ ch = if ok ch = true then some (.nx, σ, ch) else none := rfl
theorem forL_cons {ok : CH → Bool} {gg : CG} {xs : List PV} : forL ok gg f (x :: xs) σ ch = if ok ch = true then (gg x σ ch).bind fun p => (f p.1 p.2).bind (kLoop (forL ok gg f xs)) else none := rfl
@[simp] theorem kLoop_nx {k : CSt → CH → Option (CF × CSt × CH)} : kLoop k (.nx, σ, ch) = k σ ch := rfl
@[simp] theorem kLoop_ct {k : CSt → CH → Option (CF × CSt × CH)} : kLoop k (.ct, σ, ch) = k σ ch := rfl
@[simp] theorem kLoop_bk {k : CSt → CH → Option (CF × CSt × CH)} : kLoop k (.bk, σ, ch) = some (.nx, σ, ch) := rfl
@[simp] theorem kLoop_rt {k : CSt → CH → Option (CF × CSt × CH)} : kLoop k (.rt v, σ, ch) = some (.rt v, σ, ch) := rfl
@[simp] theorem tyC_tup {xs : List PV} {T : String} : tyC T (.tup xs) ch = (T == "tuple") := rfl
@[simp] theorem tyC_str {xs : Str} {T : String} : tyC T (.str xs) ch = (T == "str") := rfl
theorem tyC_lst {n : Nat} {xs : List PV} (h : lstAt ch n = some xs) : tyC "list" (.ref n) ch = true := by simp only [tyC, lstAt_eq h]; rfl
theorem tyC_dct {n : Nat} {xs : List (Key × PV)} (h : dctAt ch n = some xs) : tyC "dict" (.ref n) ch = true := by simp only [tyC, dctAt_eq h]; rfl
theorem m_append {n : Nat} {xs : List PV} {y : PV} (h : lstAt ch n = some xs) (hz : xs.length < sizeLine) : mAppend (.ref n) [y] ch = some (.non, ch.set n (.lst (xs ++ [y]))) := by simp [mAppend, h, hz]
theorem m_extend {n k : Nat} {xs ys : List PV} (h : lstAt ch n = some xs) (h2 : lstAt ch k = some ys) (hz : xs.length + ys.length ≤ sizeLine) : mExtend (.ref n) [.ref k] ch = some (.non, ch.set n (.lst (xs ++ ys))) := by simp [mExtend, h, h2, hz]
/-! lists by number -/
theorem lstAt_app {n : Nat} {g : CH} {xs : List PV} (h : lstAt ch n = some xs) : lstAt (ch ++ g) n = some xs := by
  have e := lstAt_eq h
  unfold lstAt
  rw [List.getElem?_append_left (List.getElem?_eq_some_iff.mp e).1, e]
theorem dctAt_app {n : Nat} {g : CH} {xs : List (Key × PV)} (h : dctAt ch n = some xs) : dctAt (ch ++ g) n = some xs := by
  have e := dctAt_eq h
  unfold dctAt
  rw [List.getElem?_append_left (List.getElem?_eq_some_iff.mp e).1, e]
@[simp] theorem lstAt_new {xs : List PV} {g : CH} : lstAt (ch ++ .lst xs :: g) ch.length = some xs := by
  unfold lstAt
  rw [List.getElem?_append_right (Nat.le_refl _)]
  simp
theorem lstAt_set_ne {n k : Nat} {o : CO} (h : n ≠ k) : lstAt (ch.set k o) n = lstAt ch n := by
  unfold lstAt
  rw [List.getElem?_set_ne (Ne.symm h)]
theorem lstAt_set {n : Nat} {xs ys : List PV} (h : lstAt ch n = some xs) : lstAt (ch.set n (.lst ys)) n = some ys := by
  have e := lstAt_eq h
  unfold lstAt
  rw [List.getElem?_set_self (List.getElem?_eq_some_iff.mp e).1]
theorem set_new {o o' : CO} {g : CH} : (ch ++ o :: g).set ch.length o' = ch ++ o' :: g := by simp
end
end Cn
namespace Cn
open PySem L2
@[simp] theorem bind_ite {α β : Type} {c : Prop} [Decidable c] {a b : Option α} {f : α → Option β} : (if c then a else b).bind f = if c then a.bind f else b.bind f := by split <;> rfl
theorem seq_nx {f g : CS} {σ σ' : CSt} {ch ch' : CH} (h : f σ ch = some (.nx, σ', ch')) : cSeq f g σ ch = g σ' ch' := by rw [e_seq, h]; rfl
theorem seq_rt {f g : CS} {σ σ' : CSt} {ch ch' : CH} {v : PV} (h : f σ ch = some (.rt v, σ', ch')) : cSeq f g σ ch = some (.rt v, σ', ch') := by rw [e_seq, h]; rfl
theorem seq_ct {f g : CS} {σ σ' : CSt} {ch ch' : CH} (h : f σ ch = some (.ct, σ', ch')) : cSeq f g σ ch = some (.ct, σ', ch') := by rw [e_seq, h]; rfl
theorem seq_bk {f g : CS} {σ σ' : CSt} {ch ch' : CH} (h : f σ ch = some (.bk, σ', ch')) : cSeq f g σ ch = some (.bk, σ', ch') := by rw [e_seq, h]; rfl
theorem atI_of {α : Type} {xs : List α} {i : Nat} {v : α} (h : xs[i]? = some v) : atI xs (i : Int) = some v := atI_nat h
@[simp] theorem atI_lit0 {α : Type} {x : α} {xs : List α} : atI (x :: xs) 0 = some x := atI_nat (j := 0) rfl
@[simp] theorem atI_lit1 {α : Type} {x y : α} {xs : List α} : atI (x :: y :: xs) 1 = some y := atI_nat (j := 1) rfl
@[simp] theorem atI_lit2 {α : Type} {x y z : α} {xs : List α} : atI (x :: y :: z :: xs) 2 = some z := atI_nat (j := 2) rfl
@[simp] theorem atI_lit3 {α : Type} {x y z w : α} {xs : List α} : atI (x :: y :: z :: w :: xs) 3 = some w := atI_nat (j := 3) rfl
theorem ixN_of {n j : Nat} (h : j < n) : ixN n (j : Int) = some j := by
  unfold ixN
  rw [if_pos (by omega), if_pos (by omega)]
  simp
theorem ixN_0 {n : Nat} (h : 0 < n) : ixN n 0 = some 0 := ixN_of (j := 0) h
theorem ixN_1 {n : Nat} (h : 1 < n) : ixN n 1 = some 1 := ixN_of (j := 1) h
theorem ixN_2 {n : Nat} (h : 2 < n) : ixN n 2 = some 2 := ixN_of (j := 2) h
theorem ixN_3 {n : Nat} (h : 3 < n) : ixN n 3 = some 3 := ixN_of (j := 3) h
/-! ### one turn of a loop -/
section
variable {c : CTt} {b : CS} {n : Nat} {σ σ1 σ2 : CSt} {ch ch1 ch2 : CH} {v x : PV} {ok : CH → Bool} {g : CG} {xs : List PV}
theorem while_nx (h1 : c σ ch = some (true, ch1)) (h2 : b σ ch1 = some (.nx, σ2, ch2)) : whileN c b (n + 1) σ ch = whileN c b n σ2 ch2 := by
  simp only [whileN, h1, Option.bind_some, if_true, h2, kLoop_nx]
theorem while_ct (h1 : c σ ch = some (true, ch1)) (h2 : b σ ch1 = some (.ct, σ2, ch2)) : whileN c b (n + 1) σ ch = whileN c b n σ2 ch2 := by
  simp only [whileN, h1, Option.bind_some, if_true, h2, kLoop_ct]
theorem while_rt (h1 : c σ ch = some (true, ch1)) (h2 : b σ ch1 = some (.rt v, σ2, ch2)) : whileN c b (n + 1) σ ch = some (.rt v, σ2, ch2) := by
  simp only [whileN, h1, Option.bind_some, if_true, h2, kLoop_rt]
theorem while_bk (h1 : c σ ch = some (true, ch1)) (h2 : b σ ch1 = some (.bk, σ2, ch2)) : whileN c b (n + 1) σ ch = some (.nx, σ2, ch2) := by
  simp only [whileN, h1, Option.bind_some, if_true, h2, kLoop_bk]
theorem while_end (h1 : c σ ch = some (false, ch1)) : whileN c b (n + 1) σ ch = some (.nx, σ, ch1) := by
  simp [whileN, h1]
theorem for_nx (h0 : ok ch = true) (h1 : g x σ ch = some (σ1, ch1)) (h2 : b σ1 ch1 = some (.nx, σ2, ch2)) : forL ok g b (x :: xs) σ ch = forL ok g b xs σ2 ch2 := by
  simp only [forL, h0, if_true, h1, Option.bind_some, h2, kLoop_nx]
theorem for_ct (h0 : ok ch = true) (h1 : g x σ ch = some (σ1, ch1)) (h2 : b σ1 ch1 = some (.ct, σ2, ch2)) : forL ok g b (x :: xs) σ ch = forL ok g b xs σ2 ch2 := by
  simp only [forL, h0, if_true, h1, Option.bind_some, h2, kLoop_ct]
theorem for_rt (h0 : ok ch = true) (h1 : g x σ ch = some (σ1, ch1)) (h2 : b σ1 ch1 = some (.rt v, σ2, ch2)) : forL ok g b (x :: xs) σ ch = some (.rt v, σ2, ch2) := by
  simp only [forL, h0, if_true, h1, Option.bind_some, h2, kLoop_rt]
theorem for_bk (h0 : ok ch = true) (h1 : g x σ ch = some (σ1, ch1)) (h2 : b σ1 ch1 = some (.bk, σ2, ch2)) : forL ok g b (x :: xs) σ ch = some (.nx, σ2, ch2) := by
  simp only [forL, h0, if_true, h1, Option.bind_some, h2, kLoop_bk]
theorem for_end (h0 : ok ch = true) : forL ok g b [] σ ch = some (.nx, σ, ch) := by simp [h0]
theorem comp_nx {i D : Nat} {t : CTt} {e : CE} {acc : List PV} (h0 : ok ch = true) (ht : t (σ.set i (some x)) ch = some (true, ch1)) (h1 : e (σ.set i (some x)) ch1 = some (v, ch2)) (h2 : lstAt ch2 D = some acc) (hz : acc.length < sizeLine) :
    compL ok i D t e σ (x :: xs) ch = compL ok i D t e σ xs (ch2.set D (.lst (acc ++ [v]))) := by
  simp [compL, h0, ht, h1, h2, hz]
theorem comp_no {i D : Nat} {t : CTt} {e : CE} (h0 : ok ch = true) (ht : t (σ.set i (some x)) ch = some (false, ch1)) : compL ok i D t e σ (x :: xs) ch = compL ok i D t e σ xs ch1 := by
  simp [compL, h0, ht]
theorem comp_end {i D : Nat} {t : CTt} {e : CE} (h0 : ok ch = true) : compL ok i D t e σ [] ch = some ch := by simp [compL, h0]
end
/-! ### lists by number, computed -/
section
variable {ch g : CH} {n k : Nat} {y v : PV} {i : Int} {xs : List PV} {o : CO}
@[simp] theorem lstAt_end : lstAt (ch ++ g) (ch.length + k) = lstAt g k := by
  unfold lstAt
  rw [List.getElem?_append_right (Nat.le_add_right _ _), Nat.add_sub_cancel_left]
@[simp] theorem lstAt_end0 : lstAt (ch ++ g) ch.length = lstAt g 0 := lstAt_end (k := 0)
@[simp] theorem lstAt_z : lstAt (.lst xs :: g) 0 = some xs := rfl
@[simp] theorem lstAt_s : lstAt (o :: g) (k + 1) = lstAt g k := by simp [lstAt]
theorem lstAt_pre (h : n < ch.length) : lstAt (ch ++ g) n = lstAt ch n := by
  unfold lstAt
  rw [List.getElem?_append_left h]
@[simp] theorem dctAt_end : dctAt (ch ++ g) (ch.length + k) = dctAt g k := by
  unfold dctAt
  rw [List.getElem?_append_right (Nat.le_add_right _ _), Nat.add_sub_cancel_left]
@[simp] theorem dctAt_end0 : dctAt (ch ++ g) ch.length = dctAt g 0 := dctAt_end (k := 0)
theorem set_end : (ch ++ g).set (ch.length + k) o = ch ++ g.set k o := by
  rw [List.set_append_right _ _ (Nat.le_add_right _ _), Nat.add_sub_cancel_left]
@[simp] theorem set_end0 : (ch ++ g).set ch.length o = ch ++ g.set 0 o := set_end (k := 0)
theorem set_pre (h : n < ch.length) : (ch ++ g).set n o = ch.set n o ++ g := List.set_append_left _ _ h
@[simp] theorem mAppend_ref : mAppend (.ref n) [y] ch = (lstAt ch n).bind fun ys => if ys.length < sizeLine then some (.non, ch.set n (.lst (ys ++ [y]))) else none := rfl
@[simp] theorem mExtend_ref : mExtend (.ref n) [.ref k] ch = (lstAt ch n).bind fun ys => (lstAt ch k).bind fun zs => if ys.length + zs.length ≤ sizeLine then some (.non, ch.set n (.lst (ys ++ zs))) else none := rfl
@[simp] theorem tyC_list_ref : tyC "list" (.ref n) ch = (lstAt ch n).isSome := by
  unfold tyC lstAt
  split <;> simp_all
  split <;> simp_all
@[simp] theorem tyC_dict_ref : tyC "dict" (.ref n) ch = (dctAt ch n).isSome := by
  unfold tyC dctAt
  split <;> simp_all
  split <;> simp_all
@[simp] theorem oIx_refI : oIx (.ref n) (.int i) ch = match lstAt ch n with
    | some xs => (atI xs i).map fun v => (v, ch)
    | none => (dctAt ch n).bind fun kvs => (vC kvs (.inl i)).map fun v => (v, ch) := by
  unfold oIx lstAt dctAt
  split <;> simp_all [keyOf]
  split <;> simp_all
@[simp] theorem oLen_ref : oLen [.ref n] ch = match lstAt ch n with
    | some xs => some (.int xs.length, ch)
    | none => (dctAt ch n).map fun kvs => (.int kvs.length, ch) := by
  show (match ch[n]? with
    | some (.lst xs) => some (PV.int xs.length, ch)
    | some (.dct kvs) => some (PV.int kvs.length, ch)
    | _ => none) = _
  unfold lstAt dctAt
  split <;> simp_all
@[simp] theorem oSet_refI : oSet (.ref n) (.int i) v ch = match lstAt ch n with
    | some xs => (ixN xs.length i).map fun j => ch.set n (.lst (xs.set j v))
    | none => (dctAt ch n).bind fun kvs => if kvs.length < sizeLine then some (ch.set n (.dct (putC kvs (.inl i) v))) else none := by
  unfold oSet lstAt dctAt
  split <;> simp_all [keyOf]
  split <;> simp_all
@[simp] theorem iSeq_ref : iSeq (.ref n) ch = (lstAt ch n).map fun xs => ((xs, okL n xs), ch) := rfl
@[simp] theorem oTup_ref : oTup [.ref n] ch = (lstAt ch n).map fun ys => (.tup ys, ch) := rfl
@[simp] theorem oLst_ref : oLst [.ref n] ch = (lstAt ch n).map fun ys => (.ref ch.length, ch ++ [.lst ys]) := rfl
@[simp] theorem oAdd_ref : oAdd (.ref n) (.ref k) ch = (lstAt ch n).bind fun a => (lstAt ch k).bind fun b => if a.length + b.length ≤ sizeLine then some (.ref ch.length, ch ++ [.lst (a ++ b)]) else none := rfl
@[simp] theorem oSl_ref {l h : Option Int} : oSl (.ref n) l h ch = (lstAt ch n).bind fun xs => some (.ref ch.length, ch ++ [.lst (cutP xs l h)]) := rfl
@[simp] theorem okL_eq : (okL n xs ch = true) = (lstAt ch n = some xs) := propext okL_iff
theorem pdWs_ints {f : Nat → Option PyData} : ∀ ns : List Int, pdWs f (ns.map PV.int) = some (ns.map PyData.int)
  | [] => rfl
  | n :: ns => by simp [pdWs, pdW, pdWs_ints ns]
theorem depthAll_ints : ∀ ns : List Int, PyData.depthAll (ns.map PyData.int) = 0
  | [] => rfl
  | n :: ns => by simp [PyData.depthAll, PyData.depth, depthAll_ints ns]
theorem eqvAll_ints : ∀ ns ms : List Int, PyData.eqvAll (ns.map PyData.int) (ms.map PyData.int) = (ns == ms)
  | [], [] => rfl
  | [], _ :: _ => rfl
  | _ :: _, [] => rfl
  | n :: ns, m :: ms => by simp [PyData.eqvAll, PyData.eqv, eqvAll_ints ns ms]
theorem eqB_tup {ns ms : List Int} : eqB (.tup (ns.map PV.int)) (.tup (ms.map PV.int)) ch = some (ns == ms) := by
  simp [eqB, toD, pdW, pdWs_ints, PyData.depth, depthAll_ints, PyData.eqv, eqvAll_ints]
theorem any_ints (i : Int) : ∀ ns : List Int, ((ns.map PyData.int).any fun e => PyData.eqv e (.int i)) = ns.any (· == i)
  | [] => rfl
  | n :: ns => by rw [List.map_cons, List.any_cons, List.any_cons, any_ints i ns]; rfl
theorem inB_tup {ns : List Int} : inB (.int i) (.tup (ns.map PV.int)) ch = some (ns.any (· == i)) := by
  simp only [inB, toD, pdW, pdWs_ints, PyData.depth, depthAll_ints, Option.bind_some, any_ints]; rfl
theorem inB_lst {ns : List Int} (h : lstAt ch n = some (ns.map PV.int)) : inB (.int i) (.ref n) ch = some (ns.any (· == i)) := by
  simp only [inB, lstAt_eq h, toD, pdW, pdWs_ints, PyData.depth, depthAll_ints, Option.bind_some, any_ints]; rfl
theorem inB_dct {kvs : List (Key × PV)} (h : dctAt ch n = some kvs) : inB (.int i) (.ref n) ch = some (vC kvs (.inl i)).isSome := by
  simp [inB, dctAt_eq h, keyOf]
end
/-! ### what stays of a clean heap -/
/-- all but the objects that p names is as it was; new ones may stand behind -/
structure Keep (p : Nat → Prop) (ch ch' : CH) : Prop where
  le : ch.length ≤ ch'.length
  at_ : ∀ n, n < ch.length → ¬ p n → ch'[n]? = ch[n]?
theorem Keep.refl {p : Nat → Prop} {ch : CH} : Keep p ch ch := ⟨Nat.le_refl _, fun _ _ _ => rfl⟩
theorem Keep.trans {p : Nat → Prop} {a b c : CH} (h : Keep p a b) (h' : Keep p b c) : Keep p a c :=
  ⟨Nat.le_trans h.le h'.le, fun n hn hp => (h'.at_ n (Nat.lt_of_lt_of_le hn h.le) hp).trans (h.at_ n hn hp)⟩
theorem Keep.app {p : Nat → Prop} {ch g : CH} : Keep p ch (ch ++ g) := ⟨by simp, fun n hn _ => List.getElem?_append_left hn⟩
theorem Keep.mono {p q : Nat → Prop} {a b : CH} (h : Keep p a b) (hpq : ∀ n, p n → q n) : Keep q a b := ⟨h.le, fun n hn hq => h.at_ n hn fun hp => hq (hpq n hp)⟩
theorem Keep.set {p : Nat → Prop} {ch : CH} {n : Nat} {o : CO} (hp : p n) : Keep p ch (ch.set n o) := ⟨by simp, fun k hk hn => by
  rw [List.getElem?_set_ne]
  rintro rfl
  exact hn hp⟩
theorem Keep.lst {p : Nat → Prop} {ch ch' : CH} {n : Nat} {xs : List PV} (k : Keep p ch ch') (hn : ¬ p n) (h : lstAt ch n = some xs) : lstAt ch' n = some xs := by
  have e := lstAt_eq h
  unfold lstAt
  rw [k.at_ n (List.getElem?_eq_some_iff.mp e).1 hn, e]
theorem Keep.dct {p : Nat → Prop} {ch ch' : CH} {n : Nat} {xs : List (Key × PV)} (k : Keep p ch ch') (hn : ¬ p n) (h : dctAt ch n = some xs) : dctAt ch' n = some xs := by
  have e := dctAt_eq h
  unfold dctAt
  rw [k.at_ n (List.getElem?_eq_some_iff.mp e).1 hn, e]
theorem lstAt_lt {ch : CH} {n : Nat} {xs : List PV} (h : lstAt ch n = some xs) : n < ch.length := (List.getElem?_eq_some_iff.mp (lstAt_eq h)).1
theorem dctAt_lt {ch : CH} {n : Nat} {xs : List (Key × PV)} (h : dctAt ch n = some xs) : n < ch.length := (List.getElem?_eq_some_iff.mp (dctAt_eq h)).1
/-- new objects behind the end alone -/
abbrev Grow (ch ch' : CH) : Prop := Keep (fun _ => False) ch ch'
theorem Grow.keep {p : Nat → Prop} {ch ch' : CH} (h : Grow ch ch') : Keep p ch ch' := h.mono fun _ z => z.elim
/-! ### the laws' own draws -/
def bDraw : CS := cSeq (cSet 1 (cC (.int 7))) (cSeq (cFor (ciSeq (cVar 0)) (gN 2) (cSet 1 (cBin oMod (cCl oInt (cCons (cBin oAdd (cBin oAdd (cBin oMul (cVar 1) (cC (.int 48271))) (cBin oMod (cCl oAbs (cCons (cCl oInt (cCons (cVar 2) (cNil))) (cNil))) (cC (.int 65521)))) (cC (.int 1))) (cNil))) (cC (.int 2147483647))))) (cRet (cLst (cCons (cLc (ciSeq (cVar 0)) 2 (cYes) (cCl oAbs (cCons (cCl oInt (cCons (cVar 2) (cNil))) (cNil))) [2]) (cCons (cUn oNeg (cC (.int 1))) (cCons (cC (.int 0)) (cCons (cVar 1) (cNil))))))))
def bTake : CS := cSeq (cIf (cTst (cBin oEq (cBin oIx (cVar 0) (cC (.int 2))) (cC (.int 0)))) (cSeq (cAsg (cBin oAdd (cBin oIx (cVar 0) (cC (.int 1))) (cC (.int 1))) (gSb (cVar 0) (cC (.int 1)) oSet)) (cSeq (cIf (cTst (cBin oLt (cBin oIx (cVar 0) (cC (.int 1))) (cCl oLen (cCons (cBin oIx (cVar 0) (cC (.int 0))) (cNil))))) (cAsg (cBin oIx (cBin oIx (cVar 0) (cC (.int 0))) (cBin oIx (cVar 0) (cC (.int 1)))) (gSb (cVar 0) (cC (.int 2)) oSet)) (cNext)) (cIf (cTst (cBin oEq (cBin oIx (cVar 0) (cC (.int 2))) (cC (.int 0)))) (cSeq (cAsg (cBin oMod (cCl oInt (cCons (cBin oAdd (cBin oMul (cBin oIx (cVar 0) (cC (.int 3))) (cC (.int 48271))) (cC (.int 11))) (cNil))) (cC (.int 2147483647))) (gSb (cVar 0) (cC (.int 3)) oSet)) (cAsg (cBin oIx (cVar 0) (cC (.int 3))) (gSb (cVar 0) (cC (.int 2)) oSet))) (cNext)))) (cNext)) (cSeq (cSet 2 (cBin oMod (cCl oInt (cCons (cBin oIx (cVar 0) (cC (.int 2))) (cNil))) (cVar 1))) (cSeq (cAsg (cBin oDiv (cBin oIx (cVar 0) (cC (.int 2))) (cVar 1)) (gSb (cVar 0) (cC (.int 2)) oSet)) (cRet (cVar 2))))
def seedOk (s : Int) : Prop := 0 ≤ s ∧ s < 2147483647
/-- a draw stands at d, its cells at c -/
structure Drw (c d : Nat) (ch : CH) : Prop where
  ne : c ≠ d
  ex : ∃ (idx cur seed : Int) (cells : List Int), lstAt ch d = some [.ref c, .int idx, .int cur, .int seed] ∧ lstAt ch c = some (cells.map PV.int) ∧ (∀ x ∈ cells, 0 ≤ x) ∧ -1 ≤ idx ∧ 0 ≤ cur ∧ seedOk seed
theorem Drw.keep {p : Nat → Prop} {c d : Nat} {ch ch' : CH} (D : Drw c d ch) (k : Keep p ch ch') (hc : ¬ p c) (hd : ¬ p d) : Drw c d ch' := by
  obtain ⟨ne, idx, cur, seed, cells, h1, h2, h⟩ := D
  exact ⟨ne, idx, cur, seed, cells, k.lst hd h1, k.lst hc h2, h⟩
theorem seed_step {s x : Int} (h : seedOk s) : seedOk ((s * 48271 + x) % 2147483647) := ⟨by omega, by omega⟩
def bTakeA : CS := (cIf (cTst (cBin oEq (cBin oIx (cVar 0) (cC (.int 2))) (cC (.int 0)))) (cSeq (cAsg (cBin oAdd (cBin oIx (cVar 0) (cC (.int 1))) (cC (.int 1))) (gSb (cVar 0) (cC (.int 1)) oSet)) (cSeq (cIf (cTst (cBin oLt (cBin oIx (cVar 0) (cC (.int 1))) (cCl oLen (cCons (cBin oIx (cVar 0) (cC (.int 0))) (cNil))))) (cAsg (cBin oIx (cBin oIx (cVar 0) (cC (.int 0))) (cBin oIx (cVar 0) (cC (.int 1)))) (gSb (cVar 0) (cC (.int 2)) oSet)) (cNext)) (cIf (cTst (cBin oEq (cBin oIx (cVar 0) (cC (.int 2))) (cC (.int 0)))) (cSeq (cAsg (cBin oMod (cCl oInt (cCons (cBin oAdd (cBin oMul (cBin oIx (cVar 0) (cC (.int 3))) (cC (.int 48271))) (cC (.int 11))) (cNil))) (cC (.int 2147483647))) (gSb (cVar 0) (cC (.int 3)) oSet)) (cAsg (cBin oIx (cVar 0) (cC (.int 3))) (gSb (cVar 0) (cC (.int 2)) oSet))) (cNext)))) (cNext))
def bTakeB : CS := (cSeq (cSet 2 (cBin oMod (cCl oInt (cCons (cBin oIx (cVar 0) (cC (.int 2))) (cNil))) (cVar 1))) (cSeq (cAsg (cBin oDiv (cBin oIx (cVar 0) (cC (.int 2))) (cVar 1)) (gSb (cVar 0) (cC (.int 2)) oSet)) (cRet (cVar 2))))
theorem Drw.set {c d : Nat} {ch : CH} {idx cur seed : Int} {cells : List Int} (ne : c ≠ d) (hd : d < ch.length) (h2 : lstAt ch c = some (cells.map PV.int)) (h3 : ∀ x ∈ cells, 0 ≤ x) (h4 : -1 ≤ idx) (h5 : 0 ≤ cur) (h6 : seedOk seed) :
    Drw c d (ch.set d (.lst [.ref c, .int idx, .int cur, .int seed])) := by
  refine ⟨ne, idx, cur, seed, cells, ?_, ?_, h3, h4, h5, h6⟩
  · unfold lstAt
    rw [List.getElem?_set_self hd]
  · rw [lstAt_set_ne ne]; exact h2
theorem takeA_ok {c d : Nat} {ch : CH} {many : Int} (D : Drw c d ch) : ∃ ch', bTakeA [some (.ref d), some (.int many), none] ch = some (.nx, [some (.ref d), some (.int many), none], ch') ∧ Drw c d ch' ∧ Keep (· = d) ch ch' ∧ ch'.length = ch.length := by
  obtain ⟨ne, idx, cur, seed, cells, h1, h2, h3, h4, h5, h6⟩ := id D
  have hd := lstAt_lt h1
  unfold bTakeA
  by_cases hc : cur = 0
  · subst hc
    have g1 : ∀ (o : List PV), lstAt (ch.set d (.lst o)) d = some o := fun o => lstAt_set h1
    have g2 : ∀ (o : List PV), lstAt (ch.set d (.lst o)) c = some (cells.map PV.int) := fun o => by rw [lstAt_set_ne ne]; exact h2
    have hs := seed_step (x := 11) h6
    by_cases hl : idx + 1 < (cells.length : Int)
    · obtain ⟨i, hi⟩ : ∃ i : Nat, idx + 1 = (i : Int) := ⟨(idx + 1).toNat, by omega⟩
      have hi' : i < cells.length := by omega
      have hx : atI (cells.map PV.int) (i : Int) = some (.int cells[i]) := atI_of (by simp [hi'])
      by_cases hz : cells[i] = 0
      · refine ⟨ch.set d (.lst [.ref c, .int (idx + 1), .int ((seed * 48271 + 11) % 2147483647), .int ((seed * 48271 + 11) % 2147483647)]), by
          simp [h1, g1, g2, ixN_1, ixN_2, ixN_3, hi, hi', hx, hz, List.set_set], ?_, .set rfl, by simp⟩
        exact .set ne hd h2 h3 (by omega) hs.1 hs
      · refine ⟨ch.set d (.lst [.ref c, .int (idx + 1), .int cells[i], .int seed]), by
          simp [h1, g1, g2, ixN_1, ixN_2, ixN_3, hi, hi', hx, hz, List.set_set], ?_, .set rfl, by simp⟩
        exact .set ne hd h2 h3 (by omega) (h3 _ (List.getElem_mem hi')) h6
    · refine ⟨ch.set d (.lst [.ref c, .int (idx + 1), .int ((seed * 48271 + 11) % 2147483647), .int ((seed * 48271 + 11) % 2147483647)]), by
        simp [h1, g1, g2, ixN_1, ixN_2, ixN_3, hl, List.set_set], ?_, .set rfl, by simp⟩
      exact .set ne hd h2 h3 (by omega) hs.1 hs
  · refine ⟨ch, by simp [h1, hc], D, .refl, rfl⟩
/-- a draw: any number below many -/
theorem take_ok {c d : Nat} {ch : CH} {many : Int} (D : Drw c d ch) (h0 : 0 < many) (hm : many < 1073741824) :
    ∃ (r : Int) (ch' : CH), runF 2 1 bTake [.ref d, .int many] ch = some (.int r, ch') ∧ 0 ≤ r ∧ r < many ∧ Drw c d ch' ∧ Keep (· = d) ch ch' ∧ ch'.length = ch.length := by
  obtain ⟨ch1, e1, D1, k1, l1⟩ := takeA_ok (many := many) D
  obtain ⟨ne, idx, cur, seed, cells, h1, h2, h3, h4, h5, h6⟩ := id D1
  have hd := lstAt_lt h1
  refine ⟨cur % many, ch1.set d (.lst [.ref c, .int idx, .int (cur / many), .int seed]), ?_, Int.emod_nonneg _ (by omega), Int.emod_lt_of_pos _ h0, ?_, k1.trans (.set rfl), by simp [l1]⟩
  · show (cSeq bTakeA bTakeB [some (.ref d), some (.int many), none] ch).bind ret1 = _
    rw [seq_nx e1]
    simp [bTakeB, h1, ixN_2, h0, hm]
  · exact .set ne hd h2 h3 h4 (Int.ediv_nonneg h5 (by omega)) h6
/-! the draw is laid -/
theorem draw_loop (K : List Int) : ∀ (ns : List Int) (s : Int) (x : Option PV) (ch : CH), seedOk s → ∃ (s' : Int) (x' : Option PV), seedOk s' ∧
    forL okT (gN 2) (cSet 1 (cBin oMod (cCl oInt (cCons (cBin oAdd (cBin oAdd (cBin oMul (cVar 1) (cC (.int 48271))) (cBin oMod (cCl oAbs (cCons (cCl oInt (cCons (cVar 2) (cNil))) (cNil))) (cC (.int 65521)))) (cC (.int 1))) (cNil))) (cC (.int 2147483647)))) (ns.map PV.int)
      [some (.con (K.map PV.int)), some (.int s), x] ch = some (.nx, [some (.con (K.map PV.int)), some (.int s'), x'], ch)
  | [], s, x, ch, h => ⟨s, x, h, by simp⟩
  | n :: ns, s, x, ch, h => by
    obtain ⟨s', x', h', e⟩ := draw_loop K ns ((s * 48271 + ((if n < 0 then -n else n) % 65521 + 1)) % 2147483647) (some (.int n)) ch (seed_step h)
    refine ⟨s', x', h', ?_⟩
    rw [List.map_cons, forL_cons]
    have b : -(2 ^ 64) < s ∧ s < 2 ^ 64 := by have := h.1; have := h.2; omega
    simp [b, Int.add_assoc]
    exact e
theorem draw_cells (K : List Int) (s : PV) : ∀ (ns : List Int) (acc : List PV) (ch : CH), acc.length + ns.length < sizeLine → compL okT 2 ch.length cYes (cCl oAbs (cCons (cCl oInt (cCons (cVar 2) (cNil))) (cNil))) [some (.con (K.map PV.int)), some s, none] (ns.map PV.int) (ch ++ [.lst acc]) =
      some (ch ++ [.lst (acc ++ (ns.map fun n => PV.int (if n < 0 then -n else n)))])
  | [], acc, ch, h => by simp [compL]
  | n :: ns, acc, ch, h => by
    have e := draw_cells K s ns (acc ++ [.int (if n < 0 then -n else n)]) ch (by simp at h ⊢; omega)
    have hz : acc.length < sizeLine := by simp at h; omega
    simp only [List.map_cons, compL]
    simp [hz]
    simpa using e
theorem draw_ok {ns : List Int} (hl : ns.length ≤ 63) : ∃ ch, runF 1 2 bDraw [.con (ns.map PV.int)] [] = some (.ref 1, ch) ∧ Drw 0 1 ch ∧ ch.length = 2 := by
  obtain ⟨s, x, hs, e⟩ := draw_loop ns ns 7 none [] ⟨by decide, by decide⟩
  have e2 := draw_cells ns (.int s) ns [] [] (by simp; exact Nat.lt_of_le_of_lt hl (by decide))
  refine ⟨[.lst (ns.map fun n => PV.int (if n < 0 then -n else n)), .lst [.ref 0, .int (-1), .int 0, .int s]], ?_, ⟨by decide, -1, 0, s, ns.map fun n => if n < 0 then -n else n, rfl, ?_, fun x hx => ?_, by decide, by decide, hs⟩, rfl⟩
  · show (bDraw [some (.con (ns.map PV.int)), none, none] []).bind ret1 = _
    unfold bDraw
    simp only [List.nil_append, List.length_nil] at e2
    simp [e, wipeC, e2, show (4 : Nat) ≤ sizeLine from by decide]
  · simp [lstAt, Function.comp_def]
  · simp only [List.mem_map] at hx
    obtain ⟨n, _, rfl⟩ := hx
    split <;> omega
end Cn
namespace Cn
open PySem L2
/-! ### equality of values without lists and truth values -/
instance : DecidableEq PV := fun x y => if h : PV.beq x y = true then .isTrue (PV.beq_eq h) else .isFalse fun e => h (e ▸ PV.beq_refl x)
theorem PV.beq_dec {x y : PV} : PV.beq x y = decide (x = y) := by
  by_cases h : x = y
  · subst h; simp [PV.beq_refl]
  · have : PV.beq x y ≠ true := fun z => h (PV.beq_eq z)
    simp [h, this]
theorem PV.beqs_dec {x y : List PV} : PV.beqs x y = decide (x = y) := by
  by_cases h : x = y
  · subst h; simp [PV.beqs_refl]
  · have : PV.beqs x y ≠ true := fun z => h (PV.beqs_eq z)
    simp [h, this]
mutual
def PV.flat : PV → Bool
  | .non => true
  | .int _ => true
  | .str _ => true
  | .tup xs => PV.flats xs
  | .bl _ => false
  | .con _ => false
  | .ref _ => false
def PV.flats : List PV → Bool
  | [] => true
  | x :: xs => PV.flat x && PV.flats xs
end
mutual
def PV.dep : PV → Nat
  | .tup xs => PV.deps xs + 1
  | _ => 0
def PV.deps : List PV → Nat
  | [] => 0
  | x :: xs => max (PV.dep x) (PV.deps xs)
end
mutual
def PV.dat : PV → PyData
  | .non => .none
  | .int i => .int i
  | .str s => .str s
  | .tup xs => .tuple (PV.dats xs)
  | _ => .none
def PV.dats : List PV → List PyData
  | [] => []
  | x :: xs => PV.dat x :: PV.dats xs
end
mutual
theorem pdW_flat {f : Nat → Option PyData} : ∀ (x : PV), x.flat = true → pdW f x = some x.dat
  | .non, _ => rfl
  | .int _, _ => rfl
  | .str _, _ => rfl
  | .tup xs, h => by simp only [PV.flat] at h; simp only [pdW, pdWs_flat xs h, Option.map_some, PV.dat]
  | .bl _, h => by simp [PV.flat] at h
  | .con _, h => by simp [PV.flat] at h
  | .ref _, h => by simp [PV.flat] at h
theorem pdWs_flat {f : Nat → Option PyData} : ∀ (x : List PV), PV.flats x = true → pdWs f x = some (PV.dats x)
  | [], _ => rfl
  | x :: xs, h => by
    simp only [PV.flats, Bool.and_eq_true] at h
    simp only [pdWs, pdW_flat x h.1, pdWs_flat xs h.2, Option.bind_some, Option.map_some, PV.dats]
end
mutual
theorem dep_flat : ∀ (x : PV), x.flat = true → x.dat.depth ≤ x.dep
  | .non, _ => Nat.le_refl _
  | .int _, _ => Nat.le_refl _
  | .str _, _ => Nat.le_refl _
  | .tup xs, h => by
    simp only [PV.flat] at h
    have := deps_flat xs h
    simp only [PV.dat, PyData.depth, PV.dep]
    omega
  | .bl _, h => by simp [PV.flat] at h
  | .con _, h => by simp [PV.flat] at h
  | .ref _, h => by simp [PV.flat] at h
theorem deps_flat : ∀ (x : List PV), PV.flats x = true → PyData.depthAll (PV.dats x) ≤ PV.deps x
  | [], _ => Nat.le_refl _
  | x :: xs, h => by
    simp only [PV.flats, Bool.and_eq_true] at h
    have h1 := dep_flat x h.1
    have h2 := deps_flat xs h.2
    simp only [PV.dats, PyData.depthAll, PV.deps]
    omega
end
mutual
theorem eqv_flat : ∀ (x y : PV), x.flat = true → y.flat = true → PyData.eqv x.dat y.dat = PV.beq x y
  | .tup xs, .tup ys, h, h' => by
    simp only [PV.flat] at h h'
    simp only [PV.dat, PyData.eqv, PV.beq]
    exact eqvs_flat xs ys h h'
  | .non, .non, _, _ => rfl
  | .non, .int _, _, _ => rfl
  | .non, .str _, _, _ => rfl
  | .non, .tup _, _, _ => rfl
  | .int _, .non, _, _ => rfl
  | .int _, .int _, _, _ => rfl
  | .int _, .str _, _, _ => rfl
  | .int _, .tup _, _, _ => rfl
  | .str _, .non, _, _ => rfl
  | .str _, .int _, _, _ => rfl
  | .str _, .str _, _, _ => rfl
  | .str _, .tup _, _, _ => rfl
  | .tup _, .non, _, _ => rfl
  | .tup _, .int _, _, _ => rfl
  | .tup _, .str _, _, _ => rfl
  | .bl _, _, h, _ => by simp [PV.flat] at h
  | .con _, _, h, _ => by simp [PV.flat] at h
  | .ref _, _, h, _ => by simp [PV.flat] at h
  | _, .bl _, _, h => by simp [PV.flat] at h
  | _, .con _, _, h => by simp [PV.flat] at h
  | _, .ref _, _, h => by simp [PV.flat] at h
theorem eqvs_flat : ∀ (x y : List PV), PV.flats x = true → PV.flats y = true → PyData.eqvAll (PV.dats x) (PV.dats y) = PV.beqs x y
  | [], [], _, _ => rfl
  | [], _ :: _, _, _ => rfl
  | _ :: _, [], _, _ => rfl
  | x :: xs, y :: ys, h, h' => by
    simp only [PV.flats, Bool.and_eq_true] at h h'
    simp only [PV.dats, PyData.eqvAll, PV.beqs, eqv_flat x y h.1 h'.1, eqvs_flat xs ys h.2 h'.2]
end
section
variable {ch : CH} {x y : PV} {n k : Nat} {xs ys : List PV}
theorem eqB_flat (hx : x.flat = true) (hy : y.flat = true) (d : x.dep ≤ 60 ∨ y.dep ≤ 60) : eqB x y ch = some (decide (x = y)) := by
  have h1 := dep_flat x hx
  have h2 := dep_flat y hy
  unfold eqB toD
  rw [pdW_flat x hx, pdW_flat y hy, Option.bind_some, Option.bind_some, if_pos (by omega), eqv_flat x y hx hy, PV.beq_dec]
theorem toD_lst (h : lstAt ch n = some xs) (hx : PV.flats xs = true) : toD ch (.ref n) = some (.list (PV.dats xs)) := by
  show refD ch 60 n = _
  simp only [refD, h, Option.bind_some, pdWs_flat xs hx, Option.map_some]
theorem eqB_lst (h : lstAt ch n = some xs) (h' : lstAt ch k = some ys) (hx : PV.flats xs = true) (hy : PV.flats ys = true) (d : PV.deps xs < 60 ∨ PV.deps ys < 60) : eqB (.ref n) (.ref k) ch = some (decide (xs = ys)) := by
  have h1 := deps_flat xs hx
  have h2 := deps_flat ys hy
  unfold eqB
  rw [toD_lst h hx, toD_lst h' hy, Option.bind_some, Option.bind_some, if_pos (by simp only [PyData.depth]; omega)]
  show some (PyData.eqvAll _ _) = _
  rw [eqvs_flat xs ys hx hy, PV.beqs_dec]
theorem any_flat (hy : y.flat = true) : ∀ xs : List PV, PV.flats xs = true → ((PV.dats xs).any fun e => PyData.eqv e y.dat) = decide (y ∈ xs)
  | [], _ => by simp [PV.dats]
  | x :: xs, h => by
    simp only [PV.flats, Bool.and_eq_true] at h
    rw [PV.dats, List.any_cons, any_flat hy xs h.2, eqv_flat x y h.1 hy, PV.beq_dec]
    by_cases e : x = y
    · simp [e]
    · simp [e, Ne.symm e]
theorem inB_flat (hx : PV.flats xs = true) (hy : y.flat = true) (d : PV.deps xs ≤ 60 ∨ y.dep ≤ 60) : inB y (.tup xs) ch = some (decide (y ∈ xs)) := by
  have h1 := dep_flat y hy
  have h2 := deps_flat xs hx
  simp only [inB, toD, pdW_flat y hy, pdWs_flat xs hx, Option.bind_some]
  rw [if_pos (by omega), any_flat hy xs hx]
theorem inB_flatC (hx : PV.flats xs = true) (hy : y.flat = true) (d : PV.deps xs ≤ 60 ∨ y.dep ≤ 60) : inB y (.con xs) ch = some (decide (y ∈ xs)) := by
  have h1 := dep_flat y hy
  have h2 := deps_flat xs hx
  simp only [inB, toD, pdW_flat y hy, pdWs_flat xs hx, Option.bind_some]
  rw [if_pos (by omega), any_flat hy xs hx]
theorem inB_flatL (h : lstAt ch n = some xs) (hx : PV.flats xs = true) (hy : y.flat = true) (d : PV.deps xs ≤ 60 ∨ y.dep ≤ 60) : inB y (.ref n) ch = some (decide (y ∈ xs)) := by
  have h1 := dep_flat y hy
  have h2 := deps_flat xs hx
  simp only [inB, lstAt_eq h, toD, pdW_flat y hy, pdWs_flat xs hx, Option.bind_some]
  rw [if_pos (by omega), any_flat hy xs hx]
theorem flats_ints : ∀ ns : List Int, PV.flats (ns.map PV.int) = true
  | [] => rfl
  | n :: ns => by simp only [List.map_cons, PV.flats, flats_ints ns, PV.flat, Bool.and_self]
theorem deps_ints : ∀ ns : List Int, PV.deps (ns.map PV.int) = 0
  | [] => rfl
  | n :: ns => by simp only [List.map_cons, PV.deps, deps_ints ns, PV.dep, Nat.max_self]
theorem flats_all : ∀ {xs : List PV}, (∀ x ∈ xs, x.flat = true) → PV.flats xs = true
  | [], _ => rfl
  | x :: xs, h => by simp only [PV.flats, h x List.mem_cons_self, flats_all (xs := xs) fun y hy => h y (List.mem_cons_of_mem _ hy), Bool.and_self]
theorem deps_all {d : Nat} : ∀ {xs : List PV}, (∀ x ∈ xs, x.dep ≤ d) → PV.deps xs ≤ d
  | [], _ => Nat.zero_le _
  | x :: xs, h => by
    have h1 := h x List.mem_cons_self
    have h2 := deps_all (xs := xs) fun y hy => h y (List.mem_cons_of_mem _ hy)
    simp only [PV.deps]
    omega
theorem ints_inj {a b : List Int} : a.map PV.int = b.map PV.int ↔ a = b :=
  ⟨fun h => List.map_inj_right (fun x y e => by cases e; rfl) |>.mp h, fun h => by rw [h]⟩
theorem int_mem {i : Int} {ns : List Int} : PV.int i ∈ ns.map PV.int ↔ i ∈ ns := by
  rw [List.mem_map]
  exact ⟨fun ⟨a, h, e⟩ => by cases e; exact h, fun h => ⟨i, h, rfl⟩⟩
/-! slices and places -/
theorem cutP_to {j : Nat} (h : j ≤ xs.length) : cutP xs none (some (j : Int)) = xs.take j := by
  unfold cutP
  rw [HT.sIx_none, HT.sIx_nat, Nat.min_eq_left h]
  simp
theorem cutP_from {j : Nat} : cutP xs (some (j : Int)) none = xs.drop j := by
  unfold cutP
  rw [HT.sIx_none, HT.sIx_nat]
  by_cases h : j ≤ xs.length
  · rw [Nat.min_eq_left h]
    exact List.take_of_length_le (by simp)
  · rw [Nat.min_eq_right (by omega), List.drop_eq_nil_of_le (Nat.le_refl _), List.drop_eq_nil_of_le (by omega)]
    simp
theorem cutP_mid {i j : Nat} (h : i ≤ j) (h' : j ≤ xs.length) : cutP xs (some (i : Int)) (some (j : Int)) = (xs.drop i).take (j - i) := by
  unfold cutP
  rw [HT.sIx_nat, HT.sIx_nat, Nat.min_eq_left h', Nat.min_eq_left (by omega)]
theorem find_int (i : Int) : ∀ ns : List Int, ((ns.map PV.int).findIdx? fun z => eqF z (.int i)) = ns.findIdx? (· == i)
  | [] => rfl
  | n :: ns => by
    rw [List.map_cons, List.findIdx?_cons, List.findIdx?_cons, find_int i ns]
    have : eqF (.int n) (.int i) = (n == i) := by simp [eqF]
    rw [this]
theorem indexT_int {i : Int} {ns : List Int} : mIndexT (.tup (ns.map PV.int)) [.int i] ch = (ns.findIdx? (· == i)).map fun (j : Nat) => (.int (j : Int), ch) := by
  unfold mIndexT mIndex
  have hf : (ns.map PV.int).all flatF = true := by simp [List.all_eq_true, flatF]
  rw [tyC_tup, if_pos (by decide)]
  simp only [seqOf, Option.bind_some]
  rw [if_pos ⟨rfl, hf⟩, find_int]
theorem findIdx_some {i : Int} : ∀ {ns : List Int} {j : Nat}, ns.findIdx? (· == i) = some j → j < ns.length
  | ns, j, h => by
    have := List.findIdx?_eq_some_iff_findIdx_eq.mp h
    exact this.1
theorem cSeq_assoc (f g h : CS) : cSeq (cSeq f g) h = cSeq f (cSeq g h) := by
  funext σ ch
  simp only [e_seq]
  cases f σ ch with
  | none => rfl
  | some p =>
    obtain ⟨fl, σ', ch'⟩ := p
    cases fl <;> simp [e_seq]
theorem cutP_to' {j : Nat} : cutP xs none (some (j : Int)) = xs.take j := by
  unfold cutP
  rw [HT.sIx_none, HT.sIx_nat, List.drop_zero, Nat.sub_zero]
  by_cases h : j ≤ xs.length
  · rw [Nat.min_eq_left h]
  · rw [Nat.min_eq_right (by omega), List.take_of_length_le (Nat.le_refl _), List.take_of_length_le (by omega)]
/-- a comprehension that touches nothing -/
theorem comp_map {i d : Nat} {σ : CSt} {e : CE} {f : PV → PV} : ∀ (xs acc : List PV) (ch : CH), (∀ x ∈ xs, ∀ ch, e (σ.set i (some x)) ch = some (f x, ch)) → lstAt ch d = some acc → acc.length + xs.length ≤ 1000000 →
    ∃ ch', compL okT i d cYes e σ xs ch = some ch' ∧ Keep (· = d) ch ch' ∧ lstAt ch' d = some (acc ++ xs.map f)
  | [], acc, ch, _, hd, _ => ⟨ch, comp_end rfl, .refl, by simpa using hd⟩
  | x :: xs, acc, ch, h, hd, hz => by
    simp at hz
    obtain ⟨ch', e', k, g⟩ := comp_map xs (acc ++ [f x]) (ch.set d (.lst (acc ++ [f x]))) (fun z hz => h z (List.mem_cons_of_mem _ hz)) (lstAt_set hd) (by simp; omega)
    refine ⟨ch', ?_, Keep.trans (.set rfl) k, by simpa using g⟩
    rw [comp_nx (v := f x) (ch1 := ch) (ch2 := ch) rfl rfl (h x List.mem_cons_self ch) hd (Nat.lt_of_le_of_lt (show acc.length ≤ 1000000 by omega) (by decide)), e']
theorem Grow.mk' {p : Nat → Prop} {ch ch' g : CH} (h : Keep p (ch ++ g) ch') (hp : ∀ n, p n → ch.length ≤ n) : Grow ch ch' :=
  ⟨by have := h.le; simp at this; omega, fun n hn _ => by
    rw [h.at_ n (by simp; omega) fun z => by have := hp n z; omega, List.getElem?_append_left hn]⟩
theorem tyN_lst {n : Nat} (h : lstAt ch n = some xs) : tyN (.ref n) ch = some "list" := by
  unfold tyN
  simp only [lstAt_eq h]
theorem ord_one (c : Nat) (ch : CH) : oOrd [.str ⟨#[c]⟩] ch = some (.int (c : Int), ch) := by
  rw [o_ord]
  rfl
theorem Keep.mk' {p q : Nat → Prop} {ch ch' g : CH} (h : Keep p (ch ++ g) ch') (hp : ∀ n, n < ch.length → p n → q n) : Keep q ch ch' :=
  ⟨by have := h.le; simp at this; omega, fun n hn hq => by
    rw [h.at_ n (by simp; omega) fun z => hq (hp n hn z), List.getElem?_append_left hn]⟩
theorem Drw.lt {c d : Nat} {ch : CH} (D : Drw c d ch) : d < ch.length ∧ c < ch.length := by
  obtain ⟨_, _, _, _, _, h1, h2, _⟩ := D
  exact ⟨lstAt_lt h1, lstAt_lt h2⟩
/-! range -/
theorem rng_eq (n : Nat) (i : Int) : rng i n = (List.range n).map fun (k : Nat) => PV.int (i + k) := rfl
@[simp] theorem rng_z {i : Int} : rng i 0 = [] := rfl
@[simp] theorem rng_s {i : Int} {n : Nat} : rng i (n + 1) = .int i :: rng (i + 1) n := by
  simp only [rng_eq, List.range_succ_eq_map, List.map_cons, List.map_map]
  congr 1
  · simp
  · refine List.map_congr_left fun a _ => ?_
    simp only [Function.comp_apply, PV.int.injEq]
    omega
theorem iR1_nat {n : Nat} (h : n ≤ 1000000000) : iR1 [.int (n : Int)] ch = some ((rng 0 n, okT), ch) := by
  unfold iR1
  simp only
  rw [if_pos (by omega), Int.toNat_natCast]
theorem iR1_int {n : Int} (h0 : 0 ≤ n) (h : n ≤ 1000000000) : iR1 [.int n] ch = some ((rng 0 n.toNat, okT), ch) := by
  unfold iR1
  simp only
  rw [if_pos (by omega)]
@[simp] theorem rng_length {i : Int} {n : Nat} : (rng i n).length = n := by rw [rng_eq]; simp
theorem for_range {a : CAs} {g : CG} {f : CS} {σ : CSt} {ch ch1 : CH} {n : Nat} (h : a σ ch = some ([.int (n : Int)], ch1)) (hn : n ≤ 1000000000) : cFor (ciR1 a) g f σ ch = forL okT g f (rng 0 n) σ ch1 := by
  rw [e_cFor, e_ciR1, h, Option.bind_some, iR1_nat hn]
  rfl
theorem for_rangeI {a : CAs} {g : CG} {f : CS} {σ : CSt} {ch ch1 : CH} {n : Int} (h : a σ ch = some ([.int n], ch1)) (h0 : 0 ≤ n) (hn : n ≤ 1000000000) : cFor (ciR1 a) g f σ ch = forL okT g f (rng 0 n.toNat) σ ch1 := by
  rw [e_cFor, e_ciR1, h, Option.bind_some, iR1_int h0 hn]
  rfl
theorem lc_range {a : CAs} {i : Nat} {t : CTt} {e : CE} {vs : List Nat} {σ : CSt} {ch ch1 : CH} {n : Nat} (h : a σ ch = some ([.int (n : Int)], ch1)) (hn : n ≤ 1000000000) :
    cLc (ciR1 a) i t e vs σ ch = (compL okT i ch1.length t e (wipeC σ vs) (rng 0 n) (ch1 ++ [.lst []])).bind fun c => some (.ref ch1.length, c) := by
  rw [e_cLc, e_ciR1, h, Option.bind_some, iR1_nat hn]
  rfl
end
end Cn
namespace K57
open PySem L2 Cn
def topS (i : Nat) : Stmt := PySem.Challenge.pw_ownanswer_k57_targets_and_hosts.main.body.getD i (.Pass ⟨0, 0, 0, 0⟩)
/-! the clean functions -/
def v_COLON : PV := (.int 58)
def v_PERCENT_octets : PV := (.int 37)
def v_PERCENT_targets : PV := (.int 37)
def v_QUESTION : PV := (.int 63)
def v_SCHEME : PV := (.tup [(.int 104), (.int 116), (.int 116), (.int 112), (.int 58), (.int 47), (.int 47)])
def v_SIGNS : PV := (.str " !\"#$&'()*+,-./0123456789:;<=>?@ABCDEFGHIJKLMNOPQRSTUVWXYZ[\\]^_`abcdefghijklmnopqrstuvwxyz{|}~")
def v_SLASH : PV := (.int 47)
def v_TAB : PV := (.int 9)
abbrev s_L_take : Stmt := (topS 31)
def b_L_take : CS := cSeq (cIf (cTst (cBin oEq (cBin oIx (cVar 0) (cC (.int 2))) (cC (.int 0)))) (cSeq (cAsg (cBin oAdd (cBin oIx (cVar 0) (cC (.int 1))) (cC (.int 1))) (gSb (cVar 0) (cC (.int 1)) oSet)) (cSeq (cIf (cTst (cBin oLt (cBin oIx (cVar 0) (cC (.int 1))) (cCl oLen (cCons (cBin oIx (cVar 0) (cC (.int 0))) (cNil))))) (cAsg (cBin oIx (cBin oIx (cVar 0) (cC (.int 0))) (cBin oIx (cVar 0) (cC (.int 1)))) (gSb (cVar 0) (cC (.int 2)) oSet)) (cNext)) (cIf (cTst (cBin oEq (cBin oIx (cVar 0) (cC (.int 2))) (cC (.int 0)))) (cSeq (cAsg (cBin oMod (cCl oInt (cCons (cBin oAdd (cBin oMul (cBin oIx (cVar 0) (cC (.int 3))) (cC (.int 48271))) (cC (.int 11))) (cNil))) (cC (.int 2147483647))) (gSb (cVar 0) (cC (.int 3)) oSet)) (cAsg (cBin oIx (cVar 0) (cC (.int 3))) (gSb (cVar 0) (cC (.int 2)) oSet))) (cNext)))) (cNext)) (cSeq (cSet 2 (cBin oMod (cCl oInt (cCons (cBin oIx (cVar 0) (cC (.int 2))) (cNil))) (cVar 1))) (cSeq (cAsg (cBin oDiv (cBin oIx (cVar 0) (cC (.int 2))) (cVar 1)) (gSb (cVar 0) (cC (.int 2)) oSet)) (cRet (cVar 2))))
def F_L_take : CFn := runF 2 1 b_L_take
abbrev s_L_host : Stmt := (topS 33)
def b_L_host : CS := cSeq (cSet 1 (cBin oIx (cLst (cCons (cC (.str "h")) (cCons (cC (.str "A.b-C")) (cCons (cC (.str "9.9")) (cCons (cBin oMul (cC (.str "x")) (cC (.int 30))) (cCons (cC (.str "")) (cCons (cC (.str "a_b")) (cCons (cC (.str "a/")) (cCons (cC (.str "-")) (cNil)))))))))) (cCl F_L_take (cCons (cVar 0) (cCons (cC (.int 8)) (cNil)))))) (cSeq (cSet 2 (cBin oIx (cLst (cCons (cC (.str "")) (cCons (cC (.str "")) (cCons (cC (.str ":1")) (cCons (cC (.str ":80")) (cCons (cC (.str ":65535")) (cCons (cC (.str ":0")) (cCons (cC (.str ":65536")) (cCons (cC (.str ":000080")) (cCons (cC (.str ":")) (cCons (cC (.str ":8a")) (cCons (cC (.str ":080")) (cCons (cC (.str ":1:2")) (cNil)))))))))))))) (cCl F_L_take (cCons (cVar 0) (cCons (cC (.int 12)) (cNil)))))) (cSeq (cSet 3 (cDisp (cPsC (cC (.str "")) (cC (.int 80)) (cPsC (cC (.str ":1")) (cC (.int 1)) (cPsC (cC (.str ":80")) (cC (.int 80)) (cPsC (cC (.str ":65535")) (cC (.int 65535)) (cPsC (cC (.str ":080")) (cC (.int 80)) (cPsN)))))))) (cSeq (cIf (cOr (cTst (cBin oIn (cVar 1) (cLst (cCons (cC (.str "")) (cCons (cC (.str "a_b")) (cCons (cC (.str "a/")) (cNil))))))) (cTst (cBin oNotIn (cVar 2) (cVar 3)))) (cRet (cTup (cCons (cBin oAdd (cVar 1) (cVar 2)) (cCons (cC .non) (cCons (cBin oNe (cVar 2) (cC (.str ""))) (cNil)))))) (cNext)) (cRet (cTup (cCons (cBin oAdd (cVar 1) (cVar 2)) (cCons (cTup (cCons (cBm "str" (mStr0 Txt.lower 5592405) (cVar 1) cNil) (cCons (cBin oIx (cVar 3) (cVar 2)) (cNil)))) (cCons (cBin oNe (cVar 2) (cC (.str ""))) (cNil)))))))))
def F_L_host : CFn := runF 1 3 b_L_host
abbrev s_L_joined : Stmt := (topS 35)
def b_L_joined : CS := cRet (cIfE (cTst (cBin oIsN (cVar 1) (cC .non))) (cVar 0) (cBin oAdd (cBin oAdd (cVar 0) (cTup (cCons (cC (.int 63)) (cNil)))) (cVar 1)))
def F_L_joined : CFn := runF 2 0 b_L_joined
abbrev s_L_octets : Stmt := (topS 32)
def e_L_octets_1 : CE := cCl oOrd (cCons (cVar 1) (cNil))
def b_L_octets : CS := cRet (cCl oTup (cCons (cLc (ciSeq (cVar 0)) 1 (cYes) (e_L_octets_1) [1]) (cNil)))
def F_L_octets : CFn := runF 1 1 b_L_octets
abbrev s_L_place : Stmt := (topS 34)
def e_L_place_1 : CE := cCl oOrd (cCons (cBin oIx (cC (.str "/a.~!:@")) (cCl F_L_take (cCons (cVar 0) (cCons (cC (.int 7)) (cNil))))) (cNil))
def e_L_place_2 : CE := cCl oOrd (cCons (cBin oIx (cC (.str "a=&/?+")) (cCl F_L_take (cCons (cVar 0) (cCons (cC (.int 6)) (cNil))))) (cNil))
def b_L_place : CS := cSeq (cSet 1 (cC (.bl true))) (cSeq (cSet 2 (cLc (ciR1 (cCons (cCl F_L_take (cCons (cVar 0) (cCons (cC (.int 6)) (cNil)))) (cNil))) 5 (cYes) (e_L_place_1) [5])) (cSeq (cIf (cTst (cBin oEq (cCl F_L_take (cCons (cVar 0) (cCons (cC (.int 4)) (cNil)))) (cC (.int 0)))) (cSet 2 (cBin oAdd (cVar 2) (cLst (cCons (cC (.int 37)) (cCons (cC (.int 52)) (cCons (cC (.int 49)) (cNil))))))) (cNext)) (cSeq (cSet 3 (cC .non)) (cSeq (cIf (cTst (cBin oEq (cCl F_L_take (cCons (cVar 0) (cCons (cC (.int 2)) (cNil)))) (cC (.int 0)))) (cSet 3 (cLc (ciR1 (cCons (cCl F_L_take (cCons (cVar 0) (cCons (cC (.int 5)) (cNil)))) (cNil))) 5 (cYes) (e_L_place_2) [5])) (cNext)) (cSeq (cIf (cTst (cBin oEq (cCl F_L_take (cCons (cVar 0) (cCons (cC (.int 5)) (cNil)))) (cC (.int 0)))) (cSeq (cSet 1 (cC (.bl false))) (cSeq (cSet 4 (cBin oIx (cLst (cCons (cC (.int 35)) (cCons (cC (.int 32)) (cCons (cC (.int 127)) (cCons (cC (.int 200)) (cCons (cC (.int 37)) (cCons (cC (.int 0)) (cNil)))))))) (cCl F_L_take (cCons (cVar 0) (cCons (cC (.int 6)) (cNil)))))) (cIf (cAnd (cTst (cBin oNotN (cVar 3) (cC .non))) (cTst (cBin oEq (cCl F_L_take (cCons (cVar 0) (cCons (cC (.int 2)) (cNil)))) (cC (.int 0))))) (cSet 3 (cBin oAdd (cVar 3) (cLst (cCons (cVar 4) (cNil))))) (cSet 2 (cBin oAdd (cVar 2) (cLst (cCons (cVar 4) (cNil)))))))) (cNext)) (cRet (cTup (cCons (cCl oTup (cCons (cVar 2) (cNil))) (cCons (cIfE (cTst (cBin oIsN (cVar 3) (cC .non))) (cC .non) (cCl oTup (cCons (cVar 3) (cNil)))) (cCons (cVar 1) (cNil)))))))))))
def F_L_place : CFn := runF 1 5 b_L_place
abbrev s_L_absolute : Stmt := (topS 37)
def b_L_absolute : CS := cSeq (cSet 1 (cCl F_L_host (cCons (cVar 0) (cNil)))) (cSeq (cAsg (cCl F_L_place (cCons (cVar 0) (cNil))) (gTp 3 (gsCons (gN 2) (gsCons (gN 3) (gsCons (gN 4) (gsNil)))))) (cSeq (cIf (cTst (cBin oGt (cCl F_L_take (cCons (cVar 0) (cCons (cC (.int 3)) (cNil)))) (cC (.int 0)))) (cSet 2 (cBin oAdd (cTup (cCons (cC (.int 47)) (cNil))) (cVar 2))) (cIf (cTst (cVar 4)) (cSet 2 (cTup (cNil))) (cSet 2 (cBin oAdd (cTup (cCons (cC (.int 47)) (cNil))) (cVar 2))))) (cSeq (cSet 5 (cCl F_L_octets (cCons (cBin oIx (cLst (cCons (cC (.str "http://")) (cCons (cC (.str "HTTP://")) (cCons (cC (.str "hTtP://")) (cNil))))) (cCl F_L_take (cCons (cVar 0) (cCons (cC (.int 3)) (cNil))))) (cNil)))) (cSeq (cSet 6 (cC .non)) (cSeq (cIf (cAnd (cTst (cBin oNotN (cBin oIx (cVar 1) (cC (.int 1))) (cC .non))) (cTst (cVar 4))) (cSet 6 (cTup (cCons (cC (.str "absolute")) (cCons (cBin oIx (cBin oIx (cVar 1) (cC (.int 1))) (cC (.int 0))) (cCons (cBin oIx (cBin oIx (cVar 1) (cC (.int 1))) (cC (.int 1))) (cCons (cIfE (cTst (cBin oNe (cVar 2) (cTup (cNil)))) (cVar 2) (cTup (cCons (cC (.int 47)) (cNil)))) (cCons (cVar 3) (cNil)))))))) (cNext)) (cSeq (cSet 7 (cBin oAdd (cBin oAdd (cVar 5) (cCl F_L_octets (cCons (cBin oIx (cVar 1) (cC (.int 0))) (cNil)))) (cCl F_L_joined (cCons (cVar 2) (cCons (cVar 3) (cNil)))))) (cSeq (cIf (cTst (cBin oEq (cSl oSl (cBin oIx (cVar 1) (cC (.int 0))) (cPoN) (cPo (cC (.int 2)))) (cC (.str "a/")))) (cSet 6 (cIfE (cTst (cVar 4)) (cTup (cCons (cC (.str "absolute")) (cCons (cC (.str "a")) (cCons (cC (.int 80)) (cCons (cBin oAdd (cCl F_L_octets (cCons (cSl oSl (cBin oIx (cVar 1) (cC (.int 0))) (cPo (cC (.int 1))) (cPoN)) (cNil))) (cVar 2)) (cCons (cVar 3) (cNil))))))) (cC .non))) (cNext)) (cRet (cTup (cCons (cVar 7) (cCons (cVar 6) (cNil))))))))))))
def F_L_absolute : CFn := runF 1 7 b_L_absolute
abbrev s_L_draw : Stmt := (topS 30)
def y_L_draw_1 : CS := cSet 1 (cBin oMod (cCl oInt (cCons (cBin oAdd (cBin oAdd (cBin oMul (cVar 1) (cC (.int 48271))) (cBin oMod (cCl oAbs (cCons (cCl oInt (cCons (cVar 2) (cNil))) (cNil))) (cC (.int 65521)))) (cC (.int 1))) (cNil))) (cC (.int 2147483647)))
def e_L_draw_2 : CE := cCl oAbs (cCons (cCl oInt (cCons (cVar 2) (cNil))) (cNil))
def b_L_draw : CS := cSeq (cSet 1 (cC (.int 7))) (cSeq (cFor (ciSeq (cVar 0)) (gN 2) (y_L_draw_1)) (cRet (cLst (cCons (cLc (ciSeq (cVar 0)) 2 (cYes) (e_L_draw_2) [2]) (cCons (cUn oNeg (cC (.int 1))) (cCons (cC (.int 0)) (cCons (cVar 1) (cNil))))))))
def F_L_draw : CFn := runF 1 2 b_L_draw
abbrev s_L_origin : Stmt := (topS 36)
def b_L_origin : CS := cSeq (cAsg (cCl F_L_place (cCons (cVar 0) (cNil))) (gTp 3 (gsCons (gN 1) (gsCons (gN 2) (gsCons (gN 3) (gsNil)))))) (cSeq (cSet 1 (cBin oAdd (cTup (cCons (cC (.int 47)) (cNil))) (cVar 1))) (cRet (cTup (cCons (cCl F_L_joined (cCons (cVar 1) (cCons (cVar 2) (cNil)))) (cCons (cIfE (cTst (cVar 3)) (cTup (cCons (cC (.str "origin")) (cCons (cVar 1) (cCons (cVar 2) (cNil))))) (cC .non)) (cNil))))))
def F_L_origin : CFn := runF 1 3 b_L_origin
abbrev s_cut_at : Stmt := (topS 21)
def y_cut_at_1 : CS := cIf (cTst (cBin oEq (cVar 5) (cVar 1))) (cSeq (cExpr (cBm "list" mAppend (cVar 2) (cCons (cCl oTup (cCons (cSl oSl (cVar 0) (cPo (cVar 3)) (cPo (cVar 4))) (cNil))) (cNil)))) (cSet 3 (cBin oAdd (cVar 4) (cC (.int 1))))) (cNext)
def b_cut_at : CS := cSeq (cSet 2 (cLst (cNil))) (cSeq (cSet 3 (cC (.int 0))) (cSeq (cFor (ciEnum (cCons (cVar 0) (cNil))) (gTp 2 (gsCons (gN 4) (gsCons (gN 5) (gsNil)))) (y_cut_at_1)) (cSeq (cExpr (cBm "list" mAppend (cVar 2) (cCons (cCl oTup (cCons (cSl oSl (cVar 0) (cPo (cVar 3)) (cPoN)) (cNil))) (cNil)))) (cRet (cVar 2)))))
def F_cut_at : CFn := runF 2 4 b_cut_at
abbrev s_is_digit : Stmt := (topS 8)
def b_is_digit : CS := cRet (cChain oLe oLe (cC (.int 48)) (cVar 0) (cC (.int 57)))
def F_is_digit : CFn := runF 1 0 b_is_digit
abbrev s_is_letter : Stmt := (topS 9)
def b_is_letter : CS := cRet (cOrV (cChain oLe oLe (cC (.int 65)) (cVar 0) (cC (.int 90))) (cChain oLe oLe (cC (.int 97)) (cVar 0) (cC (.int 122))))
def F_is_letter : CFn := runF 1 0 b_is_letter
abbrev s_lower : Stmt := (topS 11)
def b_lower : CS := cRet (cBm "str" (mStr0 Txt.lower 5592405) (cVar 0) cNil)
def F_lower : CFn := runF 1 0 b_lower
abbrev s_read_port : Stmt := (topS 23)
def y_read_port_1 : CS := cSeq (cIf (cNot (cTst (cCl F_is_digit (cCons (cVar 2) (cNil))))) (cRet (cUn oNeg (cC (.int 1)))) (cNext)) (cSet 1 (cBin oSub (cBin oAdd (cBin oMul (cVar 1) (cC (.int 10))) (cVar 2)) (cC (.int 48))))
def b_read_port : CS := cSeq (cSet 1 (cC (.int 0))) (cSeq (cFor (ciSeq (cVar 0)) (gN 2) (y_read_port_1)) (cSeq (cIf (cOr (cNot (cTst (cChain oLe oLe (cC (.int 1)) (cCl oLen (cCons (cVar 0) (cNil))) (cC (.int 5))))) (cNot (cTst (cChain oLe oLe (cC (.int 1)) (cVar 1) (cC (.int 65535)))))) (cRet (cUn oNeg (cC (.int 1)))) (cNext)) (cRet (cVar 1))))
def F_read_port : CFn := runF 1 2 b_read_port
abbrev s_is_value_sign : Stmt := (topS 4)
def b_is_value_sign : CS := cRet (cOrV (cBin oEq (cVar 0) (cC v_TAB)) (cAndV (cChain oLe oLe (cC (.int 32)) (cVar 0) (cC (.int 126))) (cBin oNe (cVar 0) (cC v_PERCENT_octets))))
def F_is_value_sign : CFn := runF 1 0 b_is_value_sign
abbrev s_sign_of : Stmt := (topS 5)
def b_sign_of : CS := cSeq (cIf (cTst (cBin oEq (cVar 0) (cC v_TAB))) (cRet (cC (.str "	"))) (cNext)) (cSeq (cIf (cTst (cBin oLt (cVar 0) (cC v_PERCENT_octets))) (cRet (cBin oIx (cC v_SIGNS) (cBin oSub (cVar 0) (cC (.int 32))))) (cNext)) (cRet (cBin oIx (cC v_SIGNS) (cBin oSub (cVar 0) (cC (.int 33))))))
def F_sign_of : CFn := runF 1 0 b_sign_of
abbrev s_to_text : Stmt := (topS 7)
def y_to_text_1 : CS := cIf (cNot (cTst (cCl F_is_value_sign (cCons (cVar 1) (cNil))))) (cRet (cC .non)) (cNext)
def e_to_text_2 : CE := cCl F_sign_of (cCons (cVar 1) (cNil))
def b_to_text : CS := cSeq (cFor (ciSeq (cVar 0)) (gN 1) (y_to_text_1)) (cRet (cBm "str" mJoin (cC (.str "")) (cCons (cLc (ciSeq (cVar 0)) 1 (cYes) (e_to_text_2) [1]) (cNil))))
def F_to_text : CFn := runF 1 1 b_to_text
abbrev s_read_authority : Stmt := (topS 24)
def y_read_authority_1 : CS := cIf (cAnd (cNot (cTst (cCl F_is_letter (cCons (cVar 3) (cNil))))) (cAnd (cNot (cTst (cCl F_is_digit (cCons (cVar 3) (cNil))))) (cTst (cBin oNotIn (cVar 3) (cTup (cCons (cC (.int 45)) (cCons (cC (.int 46)) (cNil)))))))) (cRet (cC .non)) (cNext)
def b_read_authority : CS := cSeq (cSet 2 (cCl F_cut_at (cCons (cVar 0) (cCons (cC v_COLON) (cNil))))) (cSeq (cIf (cOr (cTst (cBin oGt (cCl oLen (cCons (cVar 2) (cNil))) (cC (.int 2)))) (cOr (cTst (cBin oEq (cBin oIx (cVar 2) (cC (.int 0))) (cTup (cNil)))) (cAnd (cTst (cVar 1)) (cTst (cBin oEq (cCl oLen (cCons (cVar 2) (cNil))) (cC (.int 1))))))) (cRet (cC .non)) (cNext)) (cSeq (cFor (ciSeq (cBin oIx (cVar 2) (cC (.int 0)))) (gN 3) (y_read_authority_1)) (cSeq (cSet 4 (cC (.int 80))) (cSeq (cIf (cTst (cBin oEq (cCl oLen (cCons (cVar 2) (cNil))) (cC (.int 2)))) (cSet 4 (cCl F_read_port (cCons (cBin oIx (cVar 2) (cC (.int 1))) (cNil)))) (cNext)) (cSeq (cIf (cTst (cBin oLt (cVar 4) (cC (.int 0)))) (cRet (cC .non)) (cNext)) (cRet (cTup (cCons (cCl F_lower (cCons (cCl F_to_text (cCons (cBin oIx (cVar 2) (cC (.int 0))) (cNil))) (cNil))) (cCons (cVar 4) (cNil))))))))))
def F_read_authority : CFn := runF 2 3 b_read_authority
abbrev s_to_octets : Stmt := (topS 6)
def e_to_octets_1 : CE := cCl oOrd (cCons (cVar 1) (cNil))
def b_to_octets : CS := cRet (cCl oTup (cCons (cLc (ciSeq (cVar 0)) 1 (cYes) (e_to_octets_1) [1]) (cNil)))
def F_to_octets : CFn := runF 1 1 b_to_octets
abbrev s_read_host : Stmt := (topS 28)
def b_read_host : CS := cRet (cCl F_read_authority (cCons (cCl F_to_octets (cCons (cVar 0) (cNil))) (cCons (cC (.bl false)) (cNil))))
def F_read_host : CFn := runF 1 0 b_read_host
abbrev s_lower_octet : Stmt := (topS 10)
def b_lower_octet : CS := cSeq (cIf (cTst (cChain oLe oLe (cC (.int 65)) (cVar 0) (cC (.int 90)))) (cRet (cBin oAdd (cVar 0) (cC (.int 32)))) (cNext)) (cRet (cVar 0))
def F_lower_octet : CFn := runF 1 0 b_lower_octet
abbrev s_hex_digit : Stmt := (topS 12)
def b_hex_digit : CS := cSeq (cIf (cTst (cCl F_is_digit (cCons (cVar 0) (cNil)))) (cRet (cBin oSub (cVar 0) (cC (.int 48)))) (cNext)) (cSeq (cSet 1 (cCl F_lower_octet (cCons (cVar 0) (cNil)))) (cSeq (cIf (cTst (cChain oLe oLe (cC (.int 97)) (cVar 1) (cC (.int 102)))) (cRet (cBin oSub (cVar 1) (cC (.int 87)))) (cNext)) (cRet (cUn oNeg (cC (.int 1))))))
def F_hex_digit : CFn := runF 1 1 b_hex_digit
abbrev s_code_at : Stmt := (topS 19)
def b_code_at : CS := cSeq (cIf (cOr (cTst (cBin oGe (cBin oAdd (cVar 1) (cC (.int 2))) (cCl oLen (cCons (cVar 0) (cNil))))) (cOr (cTst (cBin oLt (cCl F_hex_digit (cCons (cBin oIx (cVar 0) (cBin oAdd (cVar 1) (cC (.int 1)))) (cNil))) (cC (.int 0)))) (cTst (cBin oLt (cCl F_hex_digit (cCons (cBin oIx (cVar 0) (cBin oAdd (cVar 1) (cC (.int 2)))) (cNil))) (cC (.int 0)))))) (cRet (cUn oNeg (cC (.int 1)))) (cNext)) (cRet (cBin oAdd (cBin oMul (cCl F_hex_digit (cCons (cBin oIx (cVar 0) (cBin oAdd (cVar 1) (cC (.int 1)))) (cNil))) (cC (.int 16))) (cCl F_hex_digit (cCons (cBin oIx (cVar 0) (cBin oAdd (cVar 1) (cC (.int 2)))) (cNil)))))
def F_code_at : CFn := runF 2 0 b_code_at
abbrev s_decode : Stmt := (topS 20)
def t_decode_1 : CTt := cTst (cBin oLt (cVar 2) (cCl oLen (cCons (cVar 0) (cNil))))
def y_decode_2 : CS := cSeq (cSet 3 (cBin oIx (cVar 0) (cVar 2))) (cSeq (cIf (cTst (cBin oEq (cVar 3) (cC v_PERCENT_targets))) (cSeq (cSet 3 (cCl F_code_at (cCons (cVar 0) (cCons (cVar 2) (cNil))))) (cSeq (cIf (cTst (cBin oLt (cVar 3) (cC (.int 0)))) (cRet (cC .non)) (cNext)) (cAug 2 oAddI (cC (.int 2))))) (cNext)) (cSeq (cExpr (cBm "list" mAppend (cVar 1) (cCons (cVar 3) (cNil)))) (cAug 2 oAddI (cC (.int 1)))))
def b_decode : CS := cSeq (cSet 1 (cLst (cNil))) (cSeq (cSet 2 (cC (.int 0))) (cSeq (cWhile whileMax (t_decode_1) (y_decode_2)) (cRet (cCl oTup (cCons (cVar 1) (cNil))))))
def F_decode : CFn := runF 1 3 b_decode
abbrev s_is_good : Stmt := (topS 22)
def y_is_good_1 : CS := cIf (cOr (cNot (cTst (cChain oLe oLe (cC (.int 33)) (cVar 1) (cC (.int 126))))) (cTst (cBin oEq (cVar 1) (cC (.int 35))))) (cRet (cC (.bl false))) (cNext)
def b_is_good : CS := cSeq (cFor (ciSeq (cVar 0)) (gN 1) (y_is_good_1)) (cRet (cBin oNotN (cCl F_decode (cCons (cVar 0) (cNil))) (cC .non)))
def F_is_good : CFn := runF 1 1 b_is_good
abbrev s_read_place : Stmt := (topS 25)
def b_read_place : CS := cSeq (cSet 1 (cCl oLen (cCons (cVar 0) (cNil)))) (cSeq (cSet 2 (cC .non)) (cSeq (cIf (cTst (cBin oIn (cC v_QUESTION) (cVar 0))) (cSeq (cSet 1 (cBm "tuple" mIndexT (cVar 0) (cCons (cC v_QUESTION) (cNil)))) (cSet 2 (cSl oSl (cVar 0) (cPo (cBin oAdd (cVar 1) (cC (.int 1)))) (cPoN)))) (cNext)) (cSeq (cSet 3 (cSl oSl (cVar 0) (cPoN) (cPo (cVar 1)))) (cSeq (cIf (cOr (cNot (cTst (cCl F_is_good (cCons (cVar 0) (cNil))))) (cAnd (cTst (cBin oNe (cVar 3) (cTup (cNil)))) (cTst (cBin oNe (cBin oIx (cVar 3) (cC (.int 0))) (cC v_SLASH))))) (cRet (cC .non)) (cNext)) (cRet (cTup (cCons (cVar 3) (cCons (cVar 2) (cNil)))))))))
def F_read_place : CFn := runF 1 3 b_read_place
abbrev s_read_absolute : Stmt := (topS 26)
def t_read_absolute_1 : CTt := cAnd (cTst (cBin oLt (cVar 1) (cCl oLen (cCons (cVar 0) (cNil))))) (cAnd (cTst (cBin oNe (cBin oIx (cVar 0) (cVar 1)) (cC v_SLASH))) (cTst (cBin oNe (cBin oIx (cVar 0) (cVar 1)) (cC v_QUESTION))))
def y_read_absolute_2 : CS := cAug 1 oAddI (cC (.int 1))
def b_read_absolute : CS := cSeq (cSet 1 (cCl oLen (cCons (cC v_SCHEME) (cNil)))) (cSeq (cWhile whileMax (t_read_absolute_1) (y_read_absolute_2)) (cSeq (cSet 2 (cCl F_read_authority (cCons (cSl oSl (cVar 0) (cPo (cCl oLen (cCons (cC v_SCHEME) (cNil)))) (cPo (cVar 1))) (cCons (cC (.bl false)) (cNil))))) (cSeq (cSet 3 (cCl F_read_place (cCons (cSl oSl (cVar 0) (cPo (cVar 1)) (cPoN)) (cNil)))) (cSeq (cIf (cOr (cTst (cBin oIsN (cVar 2) (cC .non))) (cTst (cBin oIsN (cVar 3) (cC .non)))) (cRet (cC .non)) (cNext)) (cSeq (cSet 4 (cIfE (cTst (cBin oNe (cBin oIx (cVar 3) (cC (.int 0))) (cTup (cNil)))) (cBin oIx (cVar 3) (cC (.int 0))) (cTup (cCons (cC v_SLASH) (cNil))))) (cRet (cTup (cCons (cC (.str "absolute")) (cCons (cBin oIx (cVar 2) (cC (.int 0))) (cCons (cBin oIx (cVar 2) (cC (.int 1))) (cCons (cVar 4) (cCons (cBin oIx (cVar 3) (cC (.int 1))) (cNil)))))))))))))
def F_read_absolute : CFn := runF 1 4 b_read_absolute
abbrev s_read_target : Stmt := (topS 27)
def e_read_target_1 : CE := cCl F_lower_octet (cCons (cVar 4) (cNil))
def b_read_target : CS := cSeq (cIf (cTst (cBin oEq (cVar 0) (cC (.str "CONNECT")))) (cSeq (cSet 2 (cCl F_read_authority (cCons (cVar 1) (cCons (cC (.bl true)) (cNil))))) (cRet (cIfE (cTst (cBin oIsN (cVar 2) (cC .non))) (cC .non) (cTup (cCons (cC (.str "authority")) (cCons (cBin oIx (cVar 2) (cC (.int 0))) (cCons (cBin oIx (cVar 2) (cC (.int 1))) (cNil)))))))) (cNext)) (cSeq (cIf (cTst (cBin oEq (cVar 1) (cTup (cCons (cC (.int 42)) (cNil))))) (cRet (cIfE (cTst (cBin oEq (cVar 0) (cC (.str "OPTIONS")))) (cTup (cCons (cC (.str "star")) (cNil))) (cC .non))) (cNext)) (cSeq (cIf (cTst (cBin oEq (cCl oTup (cCons (cLc (ciSeq (cSl oSl (cVar 1) (cPoN) (cPo (cCl oLen (cCons (cC v_SCHEME) (cNil)))))) 4 (cYes) (e_read_target_1) [4]) (cNil))) (cC v_SCHEME))) (cRet (cCl F_read_absolute (cCons (cVar 1) (cNil)))) (cNext)) (cSeq (cSet 3 (cCl F_read_place (cCons (cVar 1) (cNil)))) (cSeq (cIf (cOr (cTst (cBin oIsN (cVar 3) (cC .non))) (cTst (cBin oEq (cBin oIx (cVar 3) (cC (.int 0))) (cTup (cNil))))) (cRet (cC .non)) (cNext)) (cRet (cTup (cCons (cC (.str "origin")) (cCons (cBin oIx (cVar 3) (cC (.int 0))) (cCons (cBin oIx (cVar 3) (cC (.int 1))) (cNil))))))))))
def F_read_target : CFn := runF 2 3 b_read_target
abbrev s_law : Stmt := (topS 38)
def y_law_1 : CS := cSeq (cSet 3 (cBin oIx (cLst (cCons (cC (.str "GET")) (cCons (cC (.str "OPTIONS")) (cCons (cC (.str "CONNECT")) (cCons (cC (.str "get")) (cNil)))))) (cCl F_L_take (cCons (cVar 1) (cCons (cC (.int 4)) (cNil)))))) (cSeq (cSet 4 (cCl F_L_take (cCons (cVar 1) (cCons (cC (.int 6)) (cNil))))) (cSeq (cIf (cTst (cBin oEq (cVar 4) (cC (.int 0)))) (cSeq (cSet 5 (cTup (cCons (cC (.int 42)) (cNil)))) (cSet 6 (cIfE (cTst (cBin oEq (cVar 3) (cC (.str "OPTIONS")))) (cTup (cCons (cC (.str "star")) (cNil))) (cC .non)))) (cIf (cTst (cBin oLt (cVar 4) (cC (.int 3)))) (cAsg (cCl F_L_origin (cCons (cVar 1) (cNil))) (gTp 2 (gsCons (gN 5) (gsCons (gN 6) (gsNil))))) (cIf (cTst (cBin oLt (cVar 4) (cC (.int 5)))) (cAsg (cCl F_L_absolute (cCons (cVar 1) (cNil))) (gTp 2 (gsCons (gN 5) (gsCons (gN 6) (gsNil))))) (cSeq (cSet 5 (cCl F_L_octets (cCons (cBin oIx (cLst (cCons (cC (.str "a")) (cCons (cC (.str "*a")) (cCons (cC (.str "http:/h/")) (cCons (cC (.str "https://h/")) (cCons (cC (.str "?a")) (cCons (cC (.str "x/y")) (cNil)))))))) (cCl F_L_take (cCons (cVar 1) (cCons (cC (.int 6)) (cNil))))) (cNil)))) (cSet 6 (cC .non)))))) (cSeq (cIf (cTst (cBin oEq (cVar 3) (cC (.str "CONNECT")))) (cSeq (cSet 7 (cCl F_L_host (cCons (cVar 1) (cNil)))) (cSeq (cSet 5 (cBin oAdd (cCl F_L_octets (cCons (cBin oIx (cVar 7) (cC (.int 0))) (cNil))) (cIfE (cTst (cBin oGt (cCl F_L_take (cCons (cVar 1) (cCons (cC (.int 6)) (cNil)))) (cC (.int 0)))) (cTup (cNil)) (cTup (cCons (cC (.int 47)) (cNil)))))) (cSeq (cSet 6 (cC .non)) (cIf (cAnd (cTst (cBin oNotN (cBin oIx (cVar 7) (cC (.int 1))) (cC .non))) (cAnd (cTst (cBin oIx (cVar 7) (cC (.int 2)))) (cTst (cBin oNe (cSl oSl (cVar 5) (cPo (cUn oNeg (cC (.int 1)))) (cPoN)) (cTup (cCons (cC (.int 47)) (cNil))))))) (cSet 6 (cTup (cCons (cC (.str "authority")) (cCons (cBin oIx (cBin oIx (cVar 7) (cC (.int 1))) (cC (.int 0))) (cCons (cBin oIx (cBin oIx (cVar 7) (cC (.int 1))) (cC (.int 1))) (cNil)))))) (cNext))))) (cNext)) (cSeq (cIf (cTst (cBin oNe (cVar 5) (cTup (cNil)))) (cSeq (cSet 8 (cCl F_read_target (cCons (cVar 3) (cCons (cVar 5) (cNil))))) (cIf (cOr (cAnd (cTst (cBin oIsN (cVar 6) (cC .non))) (cTst (cBin oNotN (cVar 8) (cC .non)))) (cAnd (cTst (cBin oNotN (cVar 6) (cC .non))) (cTst (cBin oNe (cVar 8) (cVar 6))))) (cRet (cC (.bl false))) (cNext))) (cNext)) (cSeq (cSet 7 (cCl F_L_host (cCons (cVar 1) (cNil)))) (cSeq (cSet 8 (cCl F_read_host (cCons (cBin oIx (cVar 7) (cC (.int 0))) (cNil)))) (cIf (cOr (cAnd (cTst (cBin oIsN (cBin oIx (cVar 7) (cC (.int 1))) (cC .non))) (cTst (cBin oNotN (cVar 8) (cC .non)))) (cAnd (cTst (cBin oNotN (cBin oIx (cVar 7) (cC (.int 1))) (cC .non))) (cTst (cBin oNe (cVar 8) (cBin oIx (cVar 7) (cC (.int 1))))))) (cRet (cC (.bl false))) (cNext))))))))
def b_law : CS := cSeq (cSet 1 (cCl F_L_draw (cCons (cVar 0) (cNil)))) (cSeq (cFor (ciR1 (cCons (cC (.int 3)) (cNil))) (gN 2) (y_law_1)) (cRet (cC (.bl true))))
def F_law : CFn := runF 1 8 b_law
end K57
namespace K57
open PySem L2 Cn
abbrev tI (l : List Int) : PV := .tup (l.map PV.int)
def isDig (o : Int) : Bool := decide (48 ≤ o) && decide (o ≤ 57)
def isLet (o : Int) : Bool := (decide (65 ≤ o) && decide (o ≤ 90)) || (decide (97 ≤ o) && decide (o ≤ 122))
theorem f_is_digit (o : Int) (ch : CH) : F_is_digit [.int o] ch = some (.bl (isDig o), ch) := by
  simp [F_is_digit, runF, b_is_digit, isDig]
  by_cases h : 48 ≤ o <;> simp [h]
theorem f_is_letter (o : Int) (ch : CH) : F_is_letter [.int o] ch = some (.bl (isLet o), ch) := by
  simp [F_is_letter, runF, b_is_letter, isLet]
  by_cases h : 65 ≤ o <;> by_cases h2 : o ≤ 90 <;> by_cases h3 : 97 ≤ o <;> simp [h, h2, h3]
theorem f_lower_octet (o : Int) (ch : CH) : F_lower_octet [.int o] ch = some (.int (if 65 ≤ o ∧ o ≤ 90 then o + 32 else o), ch) := by
  simp [F_lower_octet, runF, b_lower_octet]
  by_cases h : 65 ≤ o <;> by_cases h2 : o ≤ 90 <;> simp [h, h2]
def hexV (o : Int) : Int := if 48 ≤ o ∧ o ≤ 57 then o - 48 else if 65 ≤ o ∧ o ≤ 70 then o - 55 else if 97 ≤ o ∧ o ≤ 102 then o - 87 else -1
theorem f_hex_digit (o : Int) (ch : CH) : F_hex_digit [.int o] ch = some (.int (hexV o), ch) := by
  simp [F_hex_digit, runF, b_hex_digit, f_is_digit, isDig, f_lower_octet]
  unfold hexV
  by_cases h : 48 ≤ o ∧ o ≤ 57
  · simp [h]
  · simp only [h, if_false]
    by_cases h2 : 65 ≤ o ∧ o ≤ 90
    · simp only [h2]
      by_cases h3 : o ≤ 70
      · simp [h2, h3, show (97 : Int) ≤ o + 32 by omega, show o + 32 ≤ 102 by omega]
        omega
      · simp [h2, h3, show (97 : Int) ≤ o + 32 by omega, show ¬ o + 32 ≤ 102 by omega, show ¬ 97 ≤ o by omega]
    · simp only [h2]
      have h3 : ¬ (65 ≤ o ∧ o ≤ 70) := by omega
      simp only [h3, if_false]
      by_cases h4 : 97 ≤ o <;> by_cases h5 : o ≤ 102 <;> simp [h4, h5]
def codeAt (l : List Int) (k : Nat) : Int := match l[k + 1]?, l[k + 2]? with
  | some a, some b => if hexV a < 0 ∨ hexV b < 0 then -1 else hexV a * 16 + hexV b
  | _, _ => -1
theorem f_code_at (l : List Int) (k : Nat) (ch : CH) : F_code_at [tI l, .int (k : Int)] ch = some (.int (codeAt l k), ch) := by
  simp [F_code_at, runF, b_code_at]
  by_cases h : k + 2 < l.length
  · have ha : l[k + 1]? = some l[k + 1] := List.getElem?_eq_getElem (by omega)
    have hb : l[k + 2]? = some l[k + 2] := List.getElem?_eq_getElem h
    have e1 : atI (l.map PV.int) ((k : Int) + 1) = some (.int l[k + 1]) := by
      have := atI_of (xs := l.map PV.int) (i := k + 1) (v := .int l[k + 1]) (by simp [ha])
      simpa using this
    have e2 : atI (l.map PV.int) ((k : Int) + 2) = some (.int l[k + 2]) := by
      have := atI_of (xs := l.map PV.int) (i := k + 2) (v := .int l[k + 2]) (by simp [hb])
      simpa using this
    have h' : ¬ ((l.length : Int) ≤ (k : Int) + 2) := by omega
    have m1 : -(2 ^ 64) < hexV l[k + 1] ∧ hexV l[k + 1] < 2 ^ 64 := by
      unfold hexV
      split
      · omega
      · split
        · omega
        · split <;> omega
    simp only [h', e1, e2, Option.map_some, Option.bind_some, f_hex_digit, o_lt, o_mul, o_addI, if_false, codeAt, ha, hb]
    by_cases g1 : hexV l[k + 1] < 0
    · simp [g1]
    · by_cases g2 : hexV l[k + 2] < 0
      · simp [g1, g2]
      · simp [g1, g2, m1, e1, e2, f_hex_digit]
  · have h' : (l.length : Int) ≤ (k : Int) + 2 := by omega
    simp only [h', if_true]
    have hb : l[k + 2]? = none := List.getElem?_eq_none (by omega)
    simp [codeAt, hb]
end K57
namespace K57
open PySem L2 Cn
def optT : Option (List Int) → PV
  | some r => tI r
  | none => .non
def decD : List Int → Option (List Int)
  | [] => some []
  | 37 :: a :: b :: r => if hexV a < 0 ∨ hexV b < 0 then none else (decD r).map fun z => (hexV a * 16 + hexV b) :: z
  | 37 :: _ => none
  | o :: r => (decD r).map fun z => o :: z
theorem hexV_b (a : Int) : -1 ≤ hexV a ∧ hexV a ≤ 15 := by
  unfold hexV
  split
  · omega
  · split
    · omega
    · split <;> omega
theorem decD_ne {o : Int} {r : List Int} (h : o ≠ 37) : decD (o :: r) = (decD r).map fun z => o :: z := by
  rw [decD.eq_def]
  split <;> simp_all
theorem decD_37 {l : List Int} {k : Nat} (hk : k < l.length) (h : l[k] = 37) : decD (l.drop k) = if codeAt l k < 0 then none else (decD (l.drop (k + 3))).map fun z => codeAt l k :: z := by
  rw [List.drop_eq_getElem_cons hk, h]
  by_cases h2 : k + 2 < l.length
  · rw [List.drop_eq_getElem_cons (show k + 1 < l.length by omega), List.drop_eq_getElem_cons h2]
    rw [decD.eq_def]
    unfold codeAt
    rw [List.getElem?_eq_getElem (show k + 1 < l.length by omega), List.getElem?_eq_getElem h2]
    have b1 := hexV_b l[k + 1]
    have b2 := hexV_b l[k + 2]
    simp only
    by_cases g : hexV l[k + 1] < 0 ∨ hexV l[k + 2] < 0
    · simp [g]
    · simp only [g, if_false]
      rw [if_neg (by omega)]
  · have hb : l[k + 2]? = none := List.getElem?_eq_none (by omega)
    have hc : codeAt l k = -1 := by unfold codeAt; rw [hb]; cases l[k + 1]? <;> rfl
    rw [hc, if_pos (by decide)]
    by_cases h1 : k + 1 < l.length
    · rw [List.drop_eq_getElem_cons h1, List.drop_eq_nil_of_le (show l.length ≤ k + 1 + 1 by omega)]
      unfold decD
      rfl
    · rw [List.drop_eq_nil_of_le (show l.length ≤ k + 1 by omega)]
      unfold decD
      rfl
theorem at_k {l : List Int} {k : Nat} (hk : k < l.length) : atI (l.map PV.int) (k : Int) = some (.int l[k]) := atI_of (by simp [hk])
theorem dec_loop (l : List Int) (ch : CH) : ∀ (m k : Nat) (acc : List Int) (x : Option PV) (fuel : Nat), l.length - k ≤ m → k ≤ l.length → m < fuel → acc.length + m < sizeLine →
    match decD (l.drop k) with
    | some r => ∃ x', whileN t_decode_1 y_decode_2 fuel [some (tI l), some (.ref ch.length), some (.int (k : Int)), x] (ch ++ [.lst (acc.map PV.int)]) = some (.nx, [some (tI l), some (.ref ch.length), some (.int (l.length : Int)), x'], ch ++ [.lst ((acc ++ r).map PV.int)])
    | none => ∃ σ' acc', whileN t_decode_1 y_decode_2 fuel [some (tI l), some (.ref ch.length), some (.int (k : Int)), x] (ch ++ [.lst (acc.map PV.int)]) = some (.rt .non, σ', ch ++ [.lst acc'])
  | m, k, acc, x, 0, _, _, h, _ => by omega
  | m, k, acc, x, fuel + 1, hm, hk, hf, hs => by
    by_cases hlt : k < l.length
    · have hlt' : (k : Int) < (l.length : Int) := by omega
      by_cases h37 : l[k] = 37
      · rw [decD_37 hlt h37]
        by_cases hc : codeAt l k < 0
        · rw [if_pos hc]
          refine ⟨[some (tI l), some (.ref ch.length), some (.int (k : Int)), some (.int (codeAt l k))], acc.map PV.int, ?_⟩
          refine while_rt (ch1 := ch ++ [.lst (acc.map PV.int)]) (by simp [t_decode_1, hlt']) ?_
          simp [y_decode_2, at_k hlt, h37, v_PERCENT_targets, f_code_at, hc]
        · rw [if_neg hc]
          have h2 : k + 3 ≤ l.length := by
            apply Classical.byContradiction
            intro z
            apply hc
            have hb : l[k + 2]? = none := List.getElem?_eq_none (by omega)
            unfold codeAt
            rw [hb]
            cases l[k + 1]? <;> simp
          have ih := dec_loop l ch (m - 3) (k + 3) (acc ++ [codeAt l k]) (some (.int (codeAt l k))) fuel (by omega) h2 (by omega) (by simp; omega)
          have ea : (acc.map PV.int).length < sizeLine := by simp; omega
          have e : ∀ R, whileN t_decode_1 y_decode_2 fuel [some (tI l), some (.ref ch.length), some (.int ((k + 3 : Nat) : Int)), some (.int (codeAt l k))] (ch ++ [.lst ((acc ++ [codeAt l k]).map PV.int)]) = R →
              whileN t_decode_1 y_decode_2 (fuel + 1) [some (tI l), some (.ref ch.length), some (.int (k : Int)), x] (ch ++ [.lst (acc.map PV.int)]) = R := by
            intro R hR
            have e3 : (k : Int) + 2 + 1 = ((k + 3 : Nat) : Int) := by omega
            have ea' : acc.length < sizeLine := by omega
            refine (while_nx (ch1 := ch ++ [.lst (acc.map PV.int)]) (by simp [t_decode_1, hlt']) ?_).trans hR
            simp [y_decode_2, at_k hlt, h37, v_PERCENT_targets, f_code_at, hc, ea', e3]
          cases hd : decD (l.drop (k + 3)) with
          | none =>
            rw [hd] at ih
            obtain ⟨σ', acc', ih⟩ := ih
            exact ⟨σ', acc', e _ ih⟩
          | some r =>
            rw [hd] at ih
            obtain ⟨x', ih⟩ := ih
            refine ⟨x', ?_⟩
            rw [e _ ih]
            simp
      · rw [List.drop_eq_getElem_cons hlt, decD_ne h37]
        have ih := dec_loop l ch (m - 1) (k + 1) (acc ++ [l[k]]) (some (.int l[k])) fuel (by omega) (by omega) (by omega) (by simp; omega)
        have e : ∀ R, whileN t_decode_1 y_decode_2 fuel [some (tI l), some (.ref ch.length), some (.int ((k + 1 : Nat) : Int)), some (.int l[k])] (ch ++ [.lst ((acc ++ [l[k]]).map PV.int)]) = R →
            whileN t_decode_1 y_decode_2 (fuel + 1) [some (tI l), some (.ref ch.length), some (.int (k : Int)), x] (ch ++ [.lst (acc.map PV.int)]) = R := by
          intro R hR
          have e3 : (k : Int) + 1 = ((k + 1 : Nat) : Int) := by omega
          have ea' : acc.length < sizeLine := by omega
          refine (while_nx (ch1 := ch ++ [.lst (acc.map PV.int)]) (by simp [t_decode_1, hlt']) ?_).trans hR
          have hb : (l[k] == 37) = false := by simpa using h37
          simp [y_decode_2, at_k hlt, v_PERCENT_targets, hb, ea']
        cases hd : decD (l.drop (k + 1)) with
        | none =>
          rw [hd] at ih
          obtain ⟨σ', acc', ih⟩ := ih
          exact ⟨σ', acc', e _ ih⟩
        | some r =>
          rw [hd] at ih
          obtain ⟨x', ih⟩ := ih
          refine ⟨x', ?_⟩
          rw [e _ ih]
          simp
    · have ek : k = l.length := by omega
      subst ek
      rw [List.drop_length]
      refine ⟨x, ?_⟩
      refine while_end (by simp [t_decode_1])
theorem f_decode (l : List Int) (ch : CH) (hl : l.length ≤ 100000) : ∃ g, F_decode [tI l] ch = some (optT (decD l), ch ++ g) := by
  have h := dec_loop l ch l.length 0 [] none whileMax (by omega) (by omega) (by unfold whileMax; omega) (by simp; exact Nat.lt_of_le_of_lt hl (by decide))
  rw [List.drop_zero] at h
  cases hd : decD l with
  | none =>
    rw [hd] at h
    obtain ⟨σ', acc', h⟩ := h
    refine ⟨[.lst acc'], ?_⟩
    simp [F_decode, runF, b_decode, cWhile] at h ⊢
    rw [h]
    rfl
  | some r =>
    rw [hd] at h
    obtain ⟨x', h⟩ := h
    refine ⟨[.lst (r.map PV.int)], ?_⟩
    simp [F_decode, runF, b_decode, cWhile] at h ⊢
    rw [h]
    simp [optT]
theorem zs {n : Nat} (h : n ≤ 1000000) : n ≤ sizeLine := Nat.le_trans h (by decide)
theorem zs' {n : Nat} (h : n ≤ 1000000) : n < sizeLine := Nat.lt_of_le_of_lt h (by decide)
/-! cut_at -/
def cutM (M : Int) : List Int → List Int → List (List Int)
  | cur, [] => [cur]
  | cur, o :: r => if o = M then cur :: cutM M [] r else cutM M (cur ++ [o]) r
theorem ca_loop (M : Int) (q : List Int) {d : Nat} : ∀ (r : List Int) (i f : Nat) (acc : List (List Int)) (x y : Option PV) (ch : CH), r = q.drop i → f ≤ i → i + r.length = q.length → lstAt ch d = some (acc.map tI) → acc.length + r.length ≤ 900000 →
    ∃ (f' : Nat) (acc' : List (List Int)) (x' y' : Option PV) (ch' : CH), forL okT (gTp 2 (gsCons (gN 4) (gsCons (gN 5) gsNil))) y_cut_at_1 (enumP i (r.map PV.int)) [some (tI q), some (.int M), some (.ref d), some (.int (f : Int)), x, y] ch =
      some (.nx, [some (tI q), some (.int M), some (.ref d), some (.int (f' : Int)), x', y'], ch') ∧ Keep (· = d) ch ch' ∧ lstAt ch' d = some (acc'.map tI) ∧ acc'.length ≤ acc.length + r.length ∧ acc' ++ [q.drop f'] = acc ++ cutM M ((q.drop f).take (i - f)) r
  | [], i, f, acc, x, y, ch, hr, hf, hl, hd, hz => by
    refine ⟨f, acc, x, y, ch, by simp [enumP], .refl, hd, by omega, ?_⟩
    simp at hl
    rw [cutM, List.take_of_length_le (by simp; omega)]
  | o :: r, i, f, acc, x, y, ch, hr, hf, hl, hd, hz => by
    simp at hl hz
    have hi : i < q.length := by omega
    have hr' : r = q.drop (i + 1) := by
      rw [List.drop_eq_getElem_cons hi] at hr
      injection hr
    have ho : q[i] = o := by
      rw [List.drop_eq_getElem_cons hi] at hr
      injection hr with h1 h2
      exact h1.symm
    have e3 : (i : Int) + 1 = ((i + 1 : Nat) : Int) := by omega
    by_cases h : o = M
    · obtain ⟨f', acc', x', y', ch', e, k, g, hzz, hc⟩ := ca_loop M q r (i + 1) (i + 1) (acc ++ [(q.drop f).take (i - f)]) (some (.int (i : Int))) (some (.int o)) (ch.set d (.lst ((acc ++ [(q.drop f).take (i - f)]).map tI))) hr' (by omega) (by omega) (lstAt_set hd) (by simp; omega)
      refine ⟨f', acc', x', y', ch', ?_, Keep.trans (.set rfl) k, g, by simp at hzz ⊢; omega, ?_⟩
      · rw [List.map_cons, enumP, for_nx (σ1 := [some (tI q), some (.int M), some (.ref d), some (.int (f : Int)), some (.int (i : Int)), some (.int o)]) (ch1 := ch) rfl (by rfl) ?_, e]
        have c := cutP_mid (xs := q.map PV.int) hf (by simp; omega)
        simp (disch := omega) [y_cut_at_1, h, hd, c, zs']
        simp [tI]
      · rw [hc, cutM, if_pos h]
        simp
    · obtain ⟨f', acc', x', y', ch', e, k, g, hzz, hc⟩ := ca_loop M q r (i + 1) f acc (some (.int (i : Int))) (some (.int o)) ch hr' (by omega) (by omega) hd (by omega)
      refine ⟨f', acc', x', y', ch', ?_, k, g, by simp; omega, ?_⟩
      · rw [List.map_cons, enumP, for_nx (σ1 := [some (tI q), some (.int M), some (.ref d), some (.int (f : Int)), some (.int (i : Int)), some (.int o)]) (ch1 := ch) rfl (by rfl) ?_, e]
        have hb : (o == M) = false := by simpa using h
        simp [y_cut_at_1, hb]
      · rw [hc, cutM, if_neg h]
        congr 2
        rw [show i + 1 - f = (i - f) + 1 by omega, List.take_add_one]
        congr 1
        rw [List.getElem?_drop, show f + (i - f) = i by omega, List.getElem?_eq_getElem hi, ho]
        rfl
theorem f_cut_at {M : Int} {q : List Int} {ch : CH} (hz : q.length ≤ 100000) : ∃ ch', F_cut_at [tI q, .int M] ch = some (.ref ch.length, ch') ∧ Grow ch ch' ∧ lstAt ch' ch.length = some ((cutM M [] q).map tI) := by
  obtain ⟨f', acc', x', y', ch', e, k, g, hzz, hc⟩ := ca_loop M q (d := ch.length) q 0 0 [] none none (ch ++ [.lst []]) rfl (by omega) (by omega) lstAt_new (by simp; omega)
  simp at hc hzz e
  refine ⟨ch'.set ch.length (.lst ((acc' ++ [q.drop f']).map tI)), ?_, ?_, ?_⟩
  · simp [F_cut_at, runF, b_cut_at, zs (show 0 ≤ _ by omega), iEnumC, e, g, zs' (show acc'.length ≤ _ by omega), cutP_from]
    simp [tI]
  · refine ⟨by have := k.le; simp at this ⊢; omega, fun n hn _ => ?_⟩
    rw [List.getElem?_set_ne (by omega), k.at_ n (by simp; omega) (by omega), List.getElem?_append_left hn]
  · rw [lstAt_set g, hc]
end K57
namespace K57
open PySem L2 Cn
def isOk (o : Int) : Bool := decide (33 ≤ o) && decide (o ≤ 126) && !(o == 35)
def good (l : List Int) : Bool := l.all isOk && (decD l).isSome
theorem ig_loop (x : Option PV) (ch : CH) : ∀ (l : List Int) (y : Option PV), ∃ y', forL okT (gN 1) y_is_good_1 (l.map PV.int) [x, y] ch = if l.all isOk = true then some (.nx, [x, y'], ch) else some (.rt (.bl false), [x, y'], ch)
  | [], y => ⟨y, for_end rfl⟩
  | o :: l, y => by
    obtain ⟨y', e⟩ := ig_loop x ch l (some (.int o))
    by_cases h : isOk o = true
    · refine ⟨y', ?_⟩
      have h' := h
      simp [isOk] at h'
      have hb : (o == 35) = false := by simpa using h'.2
      rw [List.map_cons, for_nx rfl (by rfl) (σ2 := [x, some (.int o)]) (ch2 := ch), e]
      · simp [h]
      · simp [y_is_good_1, h'.1, hb]
    · refine ⟨some (.int o), ?_⟩
      simp only [Bool.not_eq_true] at h
      rw [List.map_cons, for_rt rfl (by rfl) (σ2 := [x, some (.int o)]) (ch2 := ch) (v := .bl false)]
      · simp [h]
      · by_cases h1 : 33 ≤ o
        · by_cases h2 : o ≤ 126
          · have h3 : o = 35 := by
              simp [isOk, h1, h2] at h
              exact h
            simp [y_is_good_1, h3]
          · simp [y_is_good_1, h1, h2]
        · simp [y_is_good_1, h1]
theorem f_is_good {l : List Int} {ch : CH} (hz : l.length ≤ 100000) : ∃ g, F_is_good [tI l] ch = some (.bl (good l), ch ++ g) := by
  obtain ⟨y', e⟩ := ig_loop (some (tI l)) ch l none
  by_cases h : l.all isOk = true
  · rw [if_pos h] at e
    obtain ⟨g, e2⟩ := f_decode l ch hz
    refine ⟨g, ?_⟩
    unfold good
    rw [h]
    cases hd : decD l with
    | none => rw [hd] at e2; simp [F_is_good, runF, b_is_good, e, e2, optT]
    | some r => rw [hd] at e2; simp [F_is_good, runF, b_is_good, e, e2, optT]
  · rw [if_neg h] at e
    refine ⟨[], ?_⟩
    simp only [Bool.not_eq_true] at h
    simp [F_is_good, runF, b_is_good, e, good, h]
/-! ports -/
def portN : Int → List Int → Option Int
  | n, [] => some n
  | n, o :: r => if isDig o = true then portN (n * 10 + o - 48) r else none
def rPort (l : List Int) : Int := match portN 0 l with
  | none => -1
  | some n => if (1 ≤ l.length ∧ l.length ≤ 5) ∧ 1 ≤ n ∧ n ≤ 65535 then n else -1
theorem rp_loop (x : Option PV) (ch : CH) : ∀ (l : List Int) (n : Int) (y : Option PV), ∃ n' y', forL okT (gN 2) y_read_port_1 (l.map PV.int) [x, some (.int n), y] ch = match portN n l with
    | some r => some (.nx, [x, some (.int r), y'], ch)
    | none => some (.rt (.int (-1)), [x, some (.int n'), y'], ch)
  | [], n, y => ⟨n, y, for_end rfl⟩
  | o :: l, n, y => by
    by_cases h : isDig o = true
    · obtain ⟨n', y', e⟩ := rp_loop x ch l (n * 10 + o - 48) (some (.int o))
      refine ⟨n', y', ?_⟩
      rw [List.map_cons, for_nx rfl (by rfl) (σ2 := [x, some (.int (n * 10 + o - 48)), some (.int o)]) (ch2 := ch), e, portN, if_pos h]
      simp [y_read_port_1, f_is_digit, h]
    · refine ⟨n, some (.int o), ?_⟩
      rw [portN, if_neg h]
      exact for_rt rfl (by rfl) (by simp [y_read_port_1, f_is_digit, h])
theorem f_read_port {l : List Int} {ch : CH} : F_read_port [tI l] ch = some (.int (rPort l), ch) := by
  obtain ⟨n', y', e⟩ := rp_loop (some (tI l)) ch l 0 none
  unfold rPort
  cases h : portN 0 l with
  | none => rw [h] at e; simp at e; simp [F_read_port, runF, b_read_port, e]
  | some r =>
    rw [h] at e
    simp at e
    by_cases h1 : 1 ≤ l.length
    · by_cases h2 : l.length ≤ 5
      · by_cases h3 : 1 ≤ r
        · by_cases h4 : r ≤ 65535
          · simp [F_read_port, runF, b_read_port, e, show (1 : Int) ≤ (l.length : Int) by omega, show (l.length : Int) ≤ 5 by omega, h1, h2, h3, h4]
          · simp [F_read_port, runF, b_read_port, e, show (1 : Int) ≤ (l.length : Int) by omega, show (l.length : Int) ≤ 5 by omega, h1, h2, h3, h4]
        · simp [F_read_port, runF, b_read_port, e, show (1 : Int) ≤ (l.length : Int) by omega, show (l.length : Int) ≤ 5 by omega, h1, h2, h3]
      · simp [F_read_port, runF, b_read_port, e, show (1 : Int) ≤ (l.length : Int) by omega, show ¬ (l.length : Int) ≤ 5 by omega, h1, h2]
    · simp [F_read_port, runF, b_read_port, e, show ¬ (1 : Int) ≤ (l.length : Int) by omega, h1]
/-! texts of octets -/
def isHost (o : Int) : Bool := isLet o || isDig o || (o == 45 || o == 46)
def txt (l : List Int) : Str := SX.S (l.map Int.toNat)
theorem isHost_b {o : Int} (h : isHost o = true) : 45 ≤ o ∧ o ≤ 122 := by
  simp [isHost, isLet, isDig] at h
  omega
theorem f_is_value_sign {o : Int} {ch : CH} (h : isHost o = true) : F_is_value_sign [.int o] ch = some (.bl true, ch) := by
  have b := isHost_b h
  have h1 : (o == 9) = false := by simp; omega
  have h2 : (o == 37) = false := by simp; omega
  simp [F_is_value_sign, runF, b_is_value_sign, v_TAB, v_PERCENT_octets, h1, h2, show 32 ≤ o by omega, show o ≤ 126 by omega]
def signsS : Str := " !\"#$&'()*+,-./0123456789:;<=>?@ABCDEFGHIJKLMNOPQRSTUVWXYZ[\\]^_`abcdefghijklmnopqrstuvwxyz{|}~"
theorem signs_at : ∀ d : _root_.Fin 123, 38 ≤ d.val → atI signsS.cps.toList ((d.val : Int) - 33) = some d.val := by decide +kernel
theorem signs_len : signsS.length ≤ sizeLine := by decide +kernel
theorem f_sign_of {o : Int} {ch : CH} (h : isHost o = true) : F_sign_of [.int o] ch = some (.str (SX.S [o.toNat]), ch) := by
  have b := isHost_b h
  obtain ⟨n, rfl⟩ := Int.eq_ofNat_of_zero_le (show 0 ≤ o by omega)
  have h1 : ((n : Int) == 9) = false := by simp; omega
  have h2 : ¬ ((n : Int) < 37) := by omega
  have e := signs_at ⟨n, by omega⟩ (by simp; omega)
  simp only at e
  have e2 : oIx v_SIGNS (.int ((n : Int) - 33)) ch = some (.str ⟨#[n]⟩, ch) := by
    show oIx (.str signsS) _ _ = _
    rw [o_ixS, if_pos signs_len, e]
    rfl
  simp [F_sign_of, runF, b_sign_of, v_TAB, v_PERCENT_octets, h1, h2, e2]
theorem tt_loop (x : Option PV) (ch : CH) : ∀ (l : List Int) (y : Option PV), (∀ o ∈ l, isHost o = true) → ∃ y', forL okT (gN 1) y_to_text_1 (l.map PV.int) [x, y] ch = some (.nx, [x, y'], ch)
  | [], y, _ => ⟨y, for_end rfl⟩
  | o :: l, y, h => by
    obtain ⟨y', e⟩ := tt_loop x ch l (some (.int o)) fun z hz => h z (List.mem_cons_of_mem _ hz)
    refine ⟨y', ?_⟩
    rw [List.map_cons, for_nx rfl (by rfl) (σ2 := [x, some (.int o)]) (ch2 := ch), e]
    simp [y_to_text_1, f_is_value_sign (h o List.mem_cons_self)]
theorem ts_loop (x : Option PV) {d : Nat} : ∀ (l : List Int) (acc : List PV) (ch : CH), (∀ o ∈ l, isHost o = true) → lstAt ch d = some acc → acc.length + l.length ≤ 100000 →
    ∃ ch', compL okT 1 d cYes e_to_text_2 [x, none] (l.map PV.int) ch = some ch' ∧ Keep (· = d) ch ch' ∧ lstAt ch' d = some (acc ++ (l.map fun o => PV.str (SX.S [o.toNat])))
  | [], acc, ch, _, hd, _ => ⟨ch, comp_end rfl, .refl, by simpa using hd⟩
  | o :: l, acc, ch, h, hd, hz => by
    simp at hz
    obtain ⟨ch', e, k, g⟩ := ts_loop x l (acc ++ [.str (SX.S [o.toNat])]) (ch.set d (.lst (acc ++ [.str (SX.S [o.toNat])]))) (fun z hz => h z (List.mem_cons_of_mem _ hz)) (lstAt_set hd) (by simp; omega)
    refine ⟨ch', ?_, Keep.trans (.set rfl) k, by simpa using g⟩
    rw [List.map_cons, comp_nx (v := .str (SX.S [o.toNat])) (ch1 := ch) (ch2 := ch) rfl rfl ?_ hd (zs' (by omega)), e]
    simp [e_to_text_2, f_sign_of (h o List.mem_cons_self)]
theorem strsOf_map {α : Type} (f : α → Str) : ∀ l : List α, strsOf (l.map fun o => PV.str (f o)) = some (l.map f)
  | [] => rfl
  | o :: l => by simp [strsOf, strsOf_map f l]
theorem joinL_one : ∀ l : List Nat, TL.joinL [] (l.map fun c => [c]) = l
  | [] => rfl
  | [c] => rfl
  | c :: d :: l => by
    have e := joinL_one (d :: l)
    simp only [List.map_cons] at e ⊢
    rw [TL.joinL, e]
    rfl
theorem join_txt (l : List Int) : Txt.join "" (l.map fun o => SX.S [o.toNat]) = txt l := by
  have e := SX.join_S [] ((l.map Int.toNat).map fun c => [c])
  rw [joinL_one] at e
  rw [txt, ← e]
  simp [Function.comp_def]
  rfl
theorem sum_ones (l : List Int) : ((l.map fun o => SX.S [o.toNat]).map (·.length)).sum = l.length := by
  induction l with
  | nil => rfl
  | cons o l ih =>
    rw [List.map_cons, List.map_cons, List.sum_cons, ih, SX.S_len]
    simp
    omega
theorem f_to_text {l : List Int} {ch : CH} (h : ∀ o ∈ l, isHost o = true) (hz : l.length ≤ 100000) : ∃ ch', F_to_text [tI l] ch = some (.str (txt l), ch') ∧ Grow ch ch' := by
  obtain ⟨y', e1⟩ := tt_loop (some (tI l)) ch l none h
  obtain ⟨ch', e2, k, g⟩ := ts_loop (some (tI l)) (d := ch.length) l [] (ch ++ [.lst []]) h lstAt_new (by simp; omega)
  refine ⟨ch', ?_, ⟨by have := k.le; simp at this; omega, fun n hn _ => by rw [k.at_ n (by simp; omega) (by omega), List.getElem?_append_left hn]⟩⟩
  rw [List.nil_append] at g
  have ej : mJoin (.str "") [.ref ch.length] ch' = some (.str (txt l), ch') := by
    unfold mJoin
    simp only [seqOf, g, Option.bind_some, strsOf_map, sum_ones, join_txt]
    rw [if_pos]
    simp
    have : ("" : Str).length = 0 := by decide
    rw [this]
    omega
  have tr : tyC "str" (.str "") ch = true := rfl
  simp [F_to_text, runF, b_to_text, e1, wipeC, e2, ej]
end K57
namespace K57
open PySem L2 Cn
def rAuth (l : List Int) (n : Bool) : Option (List Int × Int) := match cutM 58 [] l with
  | [a] => if a = [] ∨ n = true then none else if a.all isHost = true then some (a, 80) else none
  | [a, b] => if a = [] then none else if a.all isHost = true then (if rPort b < 0 then none else some (a, rPort b)) else none
  | _ => none
def authV : Option (List Int × Int) → PV
  | none => .non
  | some (a, p) => .tup [.str (Txt.lower (txt a)), .int p]
theorem ra_loop {x y z w : Option PV} (ch : CH) : ∀ (l : List Int) (v : Option PV), ∃ v', forL okT (gN 3) y_read_authority_1 (l.map PV.int) [x, y, z, v, w] ch = if l.all isHost = true then some (.nx, [x, y, z, v', w], ch) else some (.rt .non, [x, y, z, v', w], ch)
  | [], v => ⟨v, for_end rfl⟩
  | o :: l, v => by
    obtain ⟨v', e⟩ := ra_loop (x := x) (y := y) (z := z) (w := w) ch l (some (.int o))
    have q : inB (.int o) (.tup [.int 45, .int 46]) ch = _ := inB_tup (ns := [45, 46])
    have q' : ([45, 46] : List Int).any (· == o) = (o == 45 || o == 46) := by
      simp only [List.any_cons, List.any_nil, Bool.or_false, Bool.beq_eq_decide_eq, eq_comm]
    rw [q'] at q
    by_cases h1 : isLet o = true
    · refine ⟨v', ?_⟩
      rw [List.map_cons, for_nx rfl (by rfl) (σ2 := [x, y, z, some (.int o), w]) (ch2 := ch), e]
      · simp [isHost, h1]
      · simp [y_read_authority_1, f_is_letter, h1]
    · by_cases h2 : isDig o = true
      · refine ⟨v', ?_⟩
        rw [List.map_cons, for_nx rfl (by rfl) (σ2 := [x, y, z, some (.int o), w]) (ch2 := ch), e]
        · simp [isHost, h2]
        · simp [y_read_authority_1, f_is_letter, f_is_digit, h1, h2]
      · by_cases h3 : (o == 45 || o == 46) = true
        · refine ⟨v', ?_⟩
          rw [List.map_cons, for_nx rfl (by rfl) (σ2 := [x, y, z, some (.int o), w]) (ch2 := ch), e]
          · simp only [List.all_cons, isHost, h3, Bool.or_true, Bool.true_and]
          · simp [y_read_authority_1, f_is_letter, f_is_digit, h1, h2, oNotIn, q, zs (show 2 ≤ _ by omega)]
            intro z
            simp at h3
            omega
        · refine ⟨some (.int o), ?_⟩
          simp only [Bool.not_eq_true] at h1 h2 h3
          rw [List.map_cons, for_rt rfl (by rfl) (σ2 := [x, y, z, some (.int o), w]) (ch2 := ch) (v := .non)]
          · simp only [List.all_cons, isHost, h1, h2, h3, Bool.or_false, Bool.false_and]
            rfl
          · simp [y_read_authority_1, f_is_letter, f_is_digit, h1, h2, oNotIn, q, zs (show 2 ≤ _ by omega)]
            simpa using h3
theorem cutM_ne (M : Int) : ∀ (l cur : List Int), cutM M cur l ≠ []
  | [], cur => by simp [cutM]
  | o :: l, cur => by
    rw [cutM]
    split
    · simp
    · exact cutM_ne M l _
theorem cutM_len (M : Int) : ∀ (q cur : List Int), ∀ p ∈ cutM M cur q, p.length ≤ cur.length + q.length
  | [], cur, p, hp => by simp [cutM] at hp; rw [hp]; simp
  | o :: q, cur, p, hp => by
    rw [cutM] at hp
    split at hp
    · rcases List.mem_cons.mp hp with rfl | hp
      · omega
      · have := cutM_len M q [] p hp
        simp at this ⊢
        omega
    · have := cutM_len M q _ p hp
      simp at this ⊢
      omega
theorem f_lower {a : List Int} {ch : CH} (hz : a.length ≤ 100000) : F_lower [.str (txt a)] ch = some (.str (Txt.lower (txt a)), ch) := by
  have e : mStr0 Txt.lower 5592405 (.str (txt a)) [] ch = some (.str (Txt.lower (txt a)), ch) := by
    unfold mStr0
    simp only
    rw [if_pos]
    rw [txt, SX.S_len, List.length_map]
    omega
  simp [F_lower, runF, b_lower, e]
theorem tI_nil {p : List Int} {ch : CH} : eqB (tI p) (.tup []) ch = some (decide (p = [])) := by
  have : eqB (tI p) (tI []) ch = _ := eqB_tup
  rw [show tI [] = PV.tup [] from rfl] at this
  rw [this]
  congr 1
  by_cases h : p = [] <;> simp [h]
theorem f_read_authority {l : List Int} {n : Bool} {ch : CH} (hz : l.length ≤ 100000) : ∃ ch', F_read_authority [tI l, .bl n] ch = some (authV (rAuth l n), ch') ∧ Grow ch ch' := by
  obtain ⟨c1, e1, k1, g1⟩ := f_cut_at (M := 58) (q := l) (ch := ch) hz
  have hl := cutM_len 58 l []
  unfold rAuth
  generalize hc : cutM 58 [] l = P at g1 hl
  match P, g1, hl with
  | [], g1, hl => exact absurd hc (cutM_ne 58 l [])
  | [a], g1, hl =>
    have la := hl a (by simp)
    simp at la
    obtain ⟨v', e2⟩ := ra_loop (x := some (tI l)) (y := some (.bl n)) (z := some (.ref ch.length)) (w := none) c1 a none
    by_cases ha : a = []
    · refine ⟨c1, ?_, k1⟩
      simp [F_read_authority, runF, b_read_authority, v_COLON, e1, g1, oEq, tI_nil, ha, zs (show 0 ≤ _ by omega), authV]
    · by_cases hn : n = true
      · refine ⟨c1, ?_, k1⟩
        subst hn
        simp [F_read_authority, runF, b_read_authority, v_COLON, e1, g1, oEq, tI_nil, ha, zs (show 0 ≤ _ by omega), authV, eqB_ii]
      · simp only [Bool.not_eq_true] at hn
        subst hn
        by_cases hh : a.all isHost = true
        · rw [if_pos hh] at e2
          obtain ⟨c2, e3, k2⟩ := f_to_text (l := a) (ch := c1) (fun o ho => List.all_eq_true.mp hh o ho) (by omega)
          refine ⟨c2, ?_, k1.trans k2⟩
          simp [F_read_authority, runF, b_read_authority, v_COLON, e1, g1, oEq, tI_nil, ha, zs (show 0 ≤ _ by omega), zs (show 2 ≤ _ by omega), authV, eqB_ii, hh, -List.all_eq_true, e2, e3, f_lower (show a.length ≤ 100000 by omega)]
        · rw [if_neg hh] at e2
          refine ⟨c1, ?_, k1⟩
          simp [F_read_authority, runF, b_read_authority, v_COLON, e1, g1, oEq, tI_nil, ha, zs (show 0 ≤ _ by omega), authV, eqB_ii, hh, -List.all_eq_true, e2]
  | [a, b], g1, hl =>
    have la := hl a (by simp)
    have lb := hl b (by simp)
    simp at la lb
    obtain ⟨v', e2⟩ := ra_loop (x := some (tI l)) (y := some (.bl n)) (z := some (.ref ch.length)) (w := none) c1 a none
    by_cases ha : a = []
    · refine ⟨c1, ?_, k1⟩
      simp [F_read_authority, runF, b_read_authority, v_COLON, e1, g1, oEq, tI_nil, ha, zs (show 0 ≤ _ by omega), authV]
    · by_cases hh : a.all isHost = true
      · rw [if_pos hh] at e2
        by_cases hb : rPort b < 0
        · refine ⟨c1, ?_, k1⟩
          simp [F_read_authority, runF, b_read_authority, v_COLON, e1, g1, oEq, tI_nil, ha, zs (show 0 ≤ _ by omega), zs (show 2 ≤ _ by omega), authV, eqB_ii, hh, -List.all_eq_true, e2, f_read_port, hb]
        · obtain ⟨c2, e3, k2⟩ := f_to_text (l := a) (ch := c1) (fun o ho => List.all_eq_true.mp hh o ho) (by omega)
          refine ⟨c2, ?_, k1.trans k2⟩
          simp [F_read_authority, runF, b_read_authority, v_COLON, e1, g1, oEq, tI_nil, ha, zs (show 0 ≤ _ by omega), zs (show 2 ≤ _ by omega), authV, eqB_ii, hh, -List.all_eq_true, e2, f_read_port, hb, e3, f_lower (show a.length ≤ 100000 by omega)]
      · rw [if_neg hh] at e2
        refine ⟨c1, ?_, k1⟩
        simp [F_read_authority, runF, b_read_authority, v_COLON, e1, g1, oEq, tI_nil, ha, zs (show 0 ≤ _ by omega), authV, eqB_ii, hh, -List.all_eq_true, e2]
  | a :: b :: c :: r, g1, hl =>
    refine ⟨c1, ?_, k1⟩
    have : (2 : Int) < (r.length : Int) + 1 + 1 + 1 := by omega
    simp [F_read_authority, runF, b_read_authority, v_COLON, e1, g1, this]
    rfl
/-! places -/
def qAt (l : List Int) : Nat := (l.findIdx? (· == 63)).getD l.length
def pathOf (l : List Int) : List Int := l.take (qAt l)
def queryOf (l : List Int) : Option (List Int) := if l.any (· == 63) = true then some (l.drop (qAt l + 1)) else none
def rPlace (l : List Int) : Option (List Int × Option (List Int)) := if good l = true ∧ (pathOf l = [] ∨ (pathOf l).head? = some 47) then some (pathOf l, queryOf l) else none
def qV : Option (List Int) → PV
  | none => .non
  | some q => tI q
def placeV : Option (List Int × Option (List Int)) → PV
  | none => .non
  | some (p, q) => .tup [tI p, qV q]
theorem qAt_le (p : List Int) : qAt p ≤ p.length := by
  unfold qAt
  cases h : p.findIdx? (· == 63) with
  | none => simp
  | some j => have := findIdx_some h; simp; omega
theorem f_read_place {l : List Int} {ch : CH} (hz : l.length ≤ 100000) : ∃ ch', F_read_place [tI l] ch = some (placeV (rPlace l), ch') ∧ Grow ch ch' := by
  obtain ⟨g, e1⟩ := f_is_good (l := l) (ch := ch) hz
  have q1 : inB (.int 63) (tI l) ch = _ := inB_tup
  have q2 : mIndexT (tI l) [.int 63] ch = _ := indexT_int
  have c1 := cutP_to (xs := l.map PV.int) (j := qAt l) (by simpa using qAt_le l)
  have c2 := cutP_from (xs := l.map PV.int) (j := qAt l + 1)
  have c3 := cutP_to (xs := l.map PV.int) (j := l.length) (by simp)
  rw [← List.map_take] at c1 c3
  rw [← List.map_drop] at c2
  have c2' : cutP (l.map PV.int) (some ((qAt l : Int) + 1)) none = (l.drop (qAt l + 1)).map PV.int := by rw [← c2]; rfl
  have hS : ∃ σ1 : CSt, (cSeq (cSet 1 (cCl oLen (cCons (cVar 0) (cNil)))) (cSeq (cSet 2 (cC .non)) (cSeq (cIf (cTst (cBin oIn (cC v_QUESTION) (cVar 0))) (cSeq (cSet 1 (cBm "tuple" mIndexT (cVar 0) (cCons (cC v_QUESTION) (cNil)))) (cSet 2 (cSl oSl (cVar 0) (cPo (cBin oAdd (cVar 1) (cC (.int 1)))) (cPoN)))) (cNext))
      (cSet 3 (cSl oSl (cVar 0) (cPoN) (cPo (cVar 1))))))) [some (tI l), none, none, none] ch = some (.nx, [some (tI l), some (.int (qAt l : Nat)), some (qV (queryOf l)), some (tI (pathOf l))], ch) := by
    refine ⟨[], ?_⟩
    cases h : l.findIdx? (· == 63) with
    | none =>
      have h' : l.any (· == 63) = false := by
        rw [List.findIdx?_eq_none_iff] at h
        rw [List.any_eq_false]
        intro x hx
        simp [h x hx]
      have hq : qAt l = l.length := by simp [qAt, h]
      rw [h'] at q1
      simp [oIn, v_QUESTION, q1, hq, c3, queryOf, h', qV, pathOf, -List.map_take, -List.any_eq_true]
    | some j =>
      have h' : l.any (· == 63) = true := by
        rw [List.findIdx?_eq_some_iff_findIdx_eq] at h
        rw [List.any_eq_true]
        have h2 := List.findIdx_getElem (xs := l) (p := (· == 63)) (w := by rw [h.2]; exact h.1)
        exact ⟨_, List.getElem_mem _, h2⟩
      have hq : qAt l = j := by simp [qAt, h]
      rw [h'] at q1
      rw [h] at q2
      rw [hq] at c1 c2'
      simp [oIn, v_QUESTION, q1, q2, hq, c1, c2', queryOf, h', qV, pathOf, -List.map_take, -List.map_drop, -List.any_eq_true]
  obtain ⟨_, hS⟩ := hS
  have e0 : ∀ R, (cIf (cOr (cNot (cTst (cCl F_is_good (cCons (cVar 0) (cNil))))) (cAnd (cTst (cBin oNe (cVar 3) (cTup (cNil)))) (cTst (cBin oNe (cBin oIx (cVar 3) (cC (.int 0))) (cC v_SLASH))))) (cRet (cC .non)) (cNext)) [some (tI l), some (.int (qAt l : Nat)), some (qV (queryOf l)), some (tI (pathOf l))] ch = R → 
      F_read_place [tI l] ch = (R.bind (kSeq (cRet (cTup (cCons (cVar 3) (cCons (cVar 2) (cNil))))))).bind ret1 := by
    intro R hR
    rw [← hR]
    have a1 : F_read_place [tI l] ch = (b_read_place [some (tI l), none, none, none] ch).bind ret1 := rfl
    rw [a1]
    congr 1
    have a2 : b_read_place [some (tI l), none, none, none] ch = (cSeq (cSeq (cSet 1 (cCl oLen (cCons (cVar 0) (cNil)))) (cSeq (cSet 2 (cC .non)) (cSeq (cIf (cTst (cBin oIn (cC v_QUESTION) (cVar 0))) (cSeq (cSet 1 (cBm "tuple" mIndexT (cVar 0) (cCons (cC v_QUESTION) (cNil)))) (cSet 2 (cSl oSl (cVar 0) (cPo (cBin oAdd (cVar 1) (cC (.int 1)))) (cPoN)))) (cNext))
      (cSet 3 (cSl oSl (cVar 0) (cPoN) (cPo (cVar 1))))))) (cSeq (cIf (cOr (cNot (cTst (cCl F_is_good (cCons (cVar 0) (cNil))))) (cAnd (cTst (cBin oNe (cVar 3) (cTup (cNil)))) (cTst (cBin oNe (cBin oIx (cVar 3) (cC (.int 0))) (cC v_SLASH))))) (cRet (cC .non)) (cNext)) (cRet (cTup (cCons (cVar 3) (cCons (cVar 2) (cNil))))))) [some (tI l), none, none, none] ch := by
      unfold b_read_place
      rw [cSeq_assoc, cSeq_assoc, cSeq_assoc]
    rw [a2, seq_nx hS]
    rfl
  refine ⟨ch ++ g, ?_, .app⟩
  unfold rPlace
  by_cases hg : good l = true
  · cases hp : pathOf l with
    | nil =>
      have q := tI_nil (p := []) (ch := ch ++ g)
      simp at q
      rw [hp] at e0
      rw [e0 _ rfl]
      simp [e1, hg, oNe, q, eqB_ii, zs (show 0 ≤ _ by omega), zs (show 2 ≤ _ by omega), placeV]
    | cons a r =>
      have q := tI_nil (p := a :: r) (ch := ch ++ g)
      simp at q
      rw [hp] at e0
      rw [e0 _ rfl]
      by_cases h47 : a = 47
      · subst h47
        simp [e1, hg, oNe, q, eqB_ii, zs (show 0 ≤ _ by omega), zs (show 2 ≤ _ by omega), placeV, v_SLASH]
      · have hb : (a == 47) = false := by simpa using h47
        simp [e1, hg, oNe, q, eqB_ii, zs (show 0 ≤ _ by omega), zs (show 2 ≤ _ by omega), placeV, v_SLASH, hb, h47]
  · rw [e0 _ rfl]
    simp [e1, hg, placeV]
end K57
namespace K57
open PySem L2 Cn
def ords (z : Str) : List Int := z.cps.toList.map fun (c : Nat) => (c : Int)
def ordP : PV → PV
  | .str z => .int (z.cps.getD 0 0 : Nat)
  | x => x
theorem map_ordP (cs : List Nat) : (cs.map fun c => PV.str ⟨#[c]⟩).map ordP = (cs.map fun (c : Nat) => (c : Int)).map PV.int := by
  rw [List.map_map, List.map_map]
  rfl
theorem f_to_octets {z : Str} {ch : CH} (hz : z.length ≤ 1000) : ∃ ch', F_to_octets [.str z] ch = some (tI (ords z), ch') ∧ Grow ch ch' := by
  have hz' : z.cps.size ≤ 1000 := hz
  obtain ⟨ch', e, k, g⟩ := comp_map (i := 1) (d := ch.length) (σ := [some (.str z), none]) (e := e_to_octets_1) (f := ordP) (z.cps.toList.map fun c => PV.str ⟨#[c]⟩) [] (ch ++ [.lst []]) (fun x hx ch => by
    obtain ⟨c, _, rfl⟩ := List.mem_map.mp hx
    simp [e_to_octets_1, ord_one, -o_ord, ordP]) lstAt_new (by simp; omega)
  refine ⟨ch', ?_, Grow.mk' k (by omega)⟩
  rw [List.nil_append, map_ordP] at g
  simp [F_to_octets, runF, b_to_octets, wipeC, e, g, -List.map_map]
  rfl
theorem f_L_octets {z : Str} {ch : CH} (hz : z.length ≤ 1000) : ∃ ch', F_L_octets [.str z] ch = some (tI (ords z), ch') ∧ Grow ch ch' := f_to_octets hz
theorem f_read_host {z : Str} {ch : CH} (hz : z.length ≤ 1000) : ∃ ch', F_read_host [.str z] ch = some (authV (rAuth (ords z) false), ch') ∧ Grow ch ch' := by
  have hz' : (ords z).length ≤ 1000 := by simp [ords]; exact hz
  obtain ⟨c1, e1, k1⟩ := f_to_octets (ch := ch) hz
  obtain ⟨c2, e2, k2⟩ := f_read_authority (l := ords z) (n := false) (ch := c1) (by omega)
  refine ⟨c2, ?_, k1.trans k2⟩
  simp [F_read_host, runF, b_read_host, e1, e2]
def inHost (o : Int) : Bool := !(o == 47) && !(o == 63)
def rAbs (l : List Int) : PV := match rAuth ((l.drop 7).takeWhile inHost) false, rPlace ((l.drop 7).dropWhile inHost) with
  | some (a, p), some (path, q) => .tup [.str "absolute", .str (Txt.lower (txt a)), .int p, tI (if path = [] then [47] else path), qV q]
  | _, _ => .non
theorem ab_loop (l : List Int) (ch : CH) {x y z : Option PV} : ∀ (m k fuel : Nat), l.length - k ≤ m → k ≤ l.length → m < fuel →
    whileN t_read_absolute_1 y_read_absolute_2 fuel [some (tI l), some (.int (k : Int)), x, y, z] ch = some (.nx, [some (tI l), some (.int ((k + ((l.drop k).takeWhile inHost).length : Nat) : Int)), x, y, z], ch)
  | m, k, 0, _, _, h => by omega
  | m, k, fuel + 1, hm, hk, hf => by
    by_cases hlt : k < l.length
    · have hlt' : (k : Int) < (l.length : Int) := by omega
      rw [List.drop_eq_getElem_cons hlt]
      by_cases h : inHost l[k] = true
      · have h' := h
        simp [inHost] at h'
        have h1 : (l[k] == 47) = false := by simpa using h'.1
        have h2 : (l[k] == 63) = false := by simpa using h'.2
        have ih := ab_loop l ch (x := x) (y := y) (z := z) (m - 1) (k + 1) fuel (by omega) (by omega) (by omega)
        rw [List.takeWhile_cons, if_pos h, List.length_cons]
        rw [while_nx (σ2 := [some (tI l), some (.int ((k + 1 : Nat) : Int)), x, y, z]) (ch1 := ch) (ch2 := ch), ih]
        · rw [show k + 1 + ((l.drop (k + 1)).takeWhile inHost).length = k + (((l.drop (k + 1)).takeWhile inHost).length + 1) by omega]
        · simp [t_read_absolute_1, hlt', at_k hlt, v_SLASH, v_QUESTION, eqB_ii, h1, h2, oNe]
        · simp [y_read_absolute_2]
      · rw [List.takeWhile_cons, if_neg h]
        refine (while_end (ch1 := ch) ?_).trans (by simp)
        simp only [Bool.not_eq_true] at h
        by_cases h1 : l[k] = 47
        · simp [t_read_absolute_1, hlt', at_k hlt, v_SLASH, v_QUESTION, eqB_ii, h1, oNe]
        · have h2 : l[k] = 63 := by
            simp [inHost] at h
            exact h h1
          simp [t_read_absolute_1, hlt', at_k hlt, v_SLASH, v_QUESTION, eqB_ii, h2, oNe]
    · have ek : k = l.length := by omega
      subst ek
      rw [List.drop_length]
      exact while_end (by simp [t_read_absolute_1])
theorem f_read_absolute {l : List Int} {ch : CH} (h7 : 7 ≤ l.length) (hz : l.length ≤ 1000) : ∃ ch', F_read_absolute [tI l] ch = some (rAbs l, ch') ∧ Grow ch ch' := by
  have e0 := ab_loop l ch (x := none) (y := none) (z := none) (l.length - 7) 7 whileMax (by omega) h7 (by unfold whileMax; omega)
  have ht : ((l.drop 7).takeWhile inHost).length ≤ l.length - 7 := by
    have := (List.takeWhile_sublist inHost (l := l.drop 7)).length_le
    simpa using this
  generalize hn : ((l.drop 7).takeWhile inHost).length = n at e0 ht
  have ee := List.takeWhile_append_dropWhile (p := inHost) (l := l.drop 7)
  have h1 : ((l.drop 7).take n) = (l.drop 7).takeWhile inHost := by
    have := List.take_left (l₁ := (l.drop 7).takeWhile inHost) (l₂ := (l.drop 7).dropWhile inHost)
    rw [ee, hn] at this
    exact this
  have h2 : l.drop (7 + n) = (l.drop 7).dropWhile inHost := by
    have := List.drop_left (l₁ := (l.drop 7).takeWhile inHost) (l₂ := (l.drop 7).dropWhile inHost)
    rw [ee, hn, List.drop_drop] at this
    exact this
  have c1 : cutP (l.map PV.int) (some 7) (some ((7 + n : Nat) : Int)) = ((l.drop 7).takeWhile inHost).map PV.int := by
    have := cutP_mid (xs := l.map PV.int) (i := 7) (j := 7 + n) (by omega) (by simp; omega)
    rw [← h1, List.map_take, List.map_drop, show n = 7 + n - 7 by omega]
    simpa using this
  have c2 : cutP (l.map PV.int) (some ((7 + n : Nat) : Int)) none = ((l.drop 7).dropWhile inHost).map PV.int := by
    rw [cutP_from, ← h2, List.map_drop]
  have l1 : ((l.drop 7).takeWhile inHost).length ≤ 1000 := by omega
  have l2 : ((l.drop 7).dropWhile inHost).length ≤ 1000 := by rw [← h2]; simp; omega
  unfold rAbs
  generalize (l.drop 7).takeWhile inHost = A at *
  generalize (l.drop 7).dropWhile inHost = B at *
  obtain ⟨ca, e1, k1⟩ := f_read_authority (l := A) (n := false) (ch := ch) (by omega)
  obtain ⟨cb, e2, k2⟩ := f_read_place (l := B) (ch := ca) (by omega)
  have hsl : oLen [v_SCHEME] ch = some (.int 7, ch) := rfl
  have s1 : (cSet 1 (cCl oLen (cCons (cC v_SCHEME) (cNil)))) [some (tI l), none, none, none, none] ch = some (.nx, [some (tI l), some (.int ((7 : Nat) : Int)), none, none, none], ch) := by simp [hsl]
  have s2 : (cWhile whileMax (t_read_absolute_1) (y_read_absolute_2)) [some (tI l), some (.int ((7 : Nat) : Int)), none, none, none] ch = some (.nx, [some (tI l), some (.int ((7 + n : Nat) : Int)), none, none, none], ch) := e0
  have s3 : (cSet 2 (cCl F_read_authority (cCons (cSl oSl (cVar 0) (cPo (cCl oLen (cCons (cC v_SCHEME) (cNil)))) (cPo (cVar 1))) (cCons (cC (.bl false)) (cNil))))) [some (tI l), some (.int ((7 + n : Nat) : Int)), none, none, none] ch = some (.nx, [some (tI l), some (.int ((7 + n : Nat) : Int)), some (authV (rAuth A false)), none, none], ca) := by
    simp only [e_set, e_cl, e_cons, e_sl, e_var0, e_varS, e_po, e_c, e_nil, Option.bind_some, hsl, e_pInt, o_slT, c1, e1, List.set_cons_zero, List.set_cons_succ]
  have s4 : (cSet 3 (cCl F_read_place (cCons (cSl oSl (cVar 0) (cPo (cVar 1)) (cPoN)) (cNil)))) [some (tI l), some (.int ((7 + n : Nat) : Int)), some (authV (rAuth A false)), none, none] ca = some (.nx, [some (tI l), some (.int ((7 + n : Nat) : Int)), some (authV (rAuth A false)), some (placeV (rPlace B)), none], cb) := by
    simp only [e_set, e_cl, e_cons, e_sl, e_var0, e_varS, e_po, e_poN, e_nil, Option.bind_some, e_pInt, o_slT, c2, e2, List.set_cons_zero, List.set_cons_succ]
  refine ⟨cb, ?_, k1.trans k2⟩
  show (b_read_absolute [some (tI l), none, none, none, none] ch).bind ret1 = _
  unfold b_read_absolute
  rw [seq_nx s1, seq_nx s2, seq_nx s3, seq_nx s4]
  cases rAuth A false with
  | none => simp [authV]
  | some ap =>
    obtain ⟨a, p⟩ := ap
    cases rPlace B with
    | none => simp [authV, placeV]
    | some pq =>
      obtain ⟨path, q⟩ := pq
      have q0 := tI_nil (p := path) (ch := cb)
      by_cases hp : path = []
      · subst hp
        simp at q0
        simp [authV, placeV, oNe, zs (show 0 ≤ _ by omega), zs (show 1 ≤ _ by omega), zs (show 5 ≤ _ by omega), q0, v_SLASH]
      · simp [authV, placeV, oNe, zs (show 0 ≤ _ by omega), zs (show 5 ≤ _ by omega), q0, hp]
def lowO (o : Int) : Int := if 65 ≤ o ∧ o ≤ 90 then o + 32 else o
def scheme : List Int := [104, 116, 116, 112, 58, 47, 47]
def rTarget (m : Str) (l : List Int) : PV :=
  if m = "CONNECT" then (match rAuth l true with
    | none => .non
    | some (a, p) => .tup [.str "authority", .str (Txt.lower (txt a)), .int p])
  else if l = [42] then (if m = "OPTIONS" then .tup [.str "star"] else .non)
  else if (l.take 7).map lowO = scheme then rAbs l
  else match rPlace l with
    | none => .non
    | some (p, q) => if p = [] then .non else .tup [.str "origin", tI p, qV q]
def lowP : PV → PV
  | .int o => .int (lowO o)
  | x => x
theorem map_lowP (l : List Int) : (l.map PV.int).map lowP = (l.map lowO).map PV.int := by
  rw [List.map_map, List.map_map]
  rfl
theorem f_read_target {m : Str} {l : List Int} {ch : CH} (hz : l.length ≤ 1000) : ∃ ch', F_read_target [.str m, tI l] ch = some (rTarget m l, ch') ∧ Grow ch ch' := by
  unfold rTarget
  by_cases hm : m = "CONNECT"
  · obtain ⟨c1, e1, k1⟩ := f_read_authority (l := l) (n := true) (ch := ch) (by omega)
    refine ⟨c1, ?_, k1⟩
    rw [if_pos hm]
    subst hm
    cases hr : rAuth l true with
    | none => rw [hr] at e1; simp [F_read_target, runF, b_read_target, e1, authV]
    | some ap =>
      obtain ⟨a, p⟩ := ap
      rw [hr] at e1
      simp [F_read_target, runF, b_read_target, e1, authV, zs (show 3 ≤ _ by omega)]
  · have hmb : (m == "CONNECT") = false := by simpa using hm
    rw [if_neg hm]
    have q1 : eqB (tI l) (.tup [.int 42]) ch = some (decide (l = [42])) := by
      have : eqB (tI l) (tI [42]) ch = _ := eqB_tup
      rw [show tI [42] = PV.tup [.int 42] from rfl] at this
      rw [this]
      congr 1
      by_cases h : l = [42] <;> simp [h]
    by_cases h42 : l = [42]
    · refine ⟨ch, ?_, .refl⟩
      rw [if_pos h42]
      subst h42
      simp at q1
      by_cases ho : m = "OPTIONS"
      · subst ho
        simp [F_read_target, runF, b_read_target, hmb, oEq, eqB_ss, q1, zs (show 1 ≤ _ by omega)]
      · have hob : (m == "OPTIONS") = false := by simpa using ho
        simp [F_read_target, runF, b_read_target, hmb, oEq, eqB_ss, q1, zs (show 1 ≤ _ by omega), ho, hob]
    · rw [if_neg h42]
      obtain ⟨c1, e1, k1, g1⟩ := comp_map (i := 4) (d := ch.length) (σ := [some (.str m), some (tI l), none, none, none]) (e := e_read_target_1) (f := lowP) ((l.take 7).map PV.int) [] (ch ++ [.lst []]) (fun x hx ch => by
        obtain ⟨c, _, rfl⟩ := List.mem_map.mp hx
        simp [e_read_target_1, f_lower_octet, lowP, lowO]) lstAt_new (by simp; omega)
      have kc1 : Grow ch c1 := Grow.mk' k1 (by omega)
      rw [List.nil_append, map_lowP] at g1
      have q2 : eqB (tI ((l.take 7).map lowO)) v_SCHEME c1 = some (decide ((l.take 7).map lowO = scheme)) := by
        have : eqB (tI ((l.take 7).map lowO)) (tI scheme) c1 = _ := eqB_tup
        rw [show tI scheme = v_SCHEME from rfl] at this
        rw [this]
        congr 1
        by_cases h : (l.take 7).map lowO = scheme
        · rw [h]; decide
        · simp only [h, decide_false]
          simpa using h
      have c0 : cutP (l.map PV.int) none (some 7) = (l.take 7).map PV.int := by
        have := cutP_to' (xs := l.map PV.int) (j := 7)
        rw [List.map_take]
        exact this
      have hsl : ∀ ch, oLen [v_SCHEME] ch = some (.int 7, ch) := fun _ => rfl
      have s1 : (cTst (cBin oEq (cCl oTup (cCons (cLc (ciSeq (cSl oSl (cVar 1) (cPoN) (cPo (cCl oLen (cCons (cC v_SCHEME) (cNil)))))) 4 (cYes) (e_read_target_1) [4]) (cNil))) (cC v_SCHEME))) [some (.str m), some (tI l), none, none, none] ch = some (decide ((l.take 7).map lowO = scheme), c1) := by
        simp only [e_tst, e_bin, e_cl, e_cons, e_cLc, e_ciSeq, e_sl, e_varS, e_var0, e_poN, e_po, e_c, e_nil, Option.bind_some, hsl, e_pInt, o_slT, c0, i_tup, wipeC, List.set_cons_zero, List.set_cons_succ, e1, oTup_ref, g1, Option.map_some, oEq, q2, e_tru]
      have h0 : F_read_target [.str m, tI l] ch = ((cIf (cTst (cBin oEq (cCl oTup (cCons (cLc (ciSeq (cSl oSl (cVar 1) (cPoN) (cPo (cCl oLen (cCons (cC v_SCHEME) (cNil)))))) 4 (cYes) (e_read_target_1) [4]) (cNil))) (cC v_SCHEME))) (cRet (cCl F_read_absolute (cCons (cVar 1) (cNil)))) (cNext) [some (.str m), some (tI l), none, none, none] ch).bind (kSeq (cSeq (cSet 3 (cCl F_read_place (cCons (cVar 1) (cNil)))) (cSeq (cIf (cOr (cTst (cBin oIsN (cVar 3) (cC .non))) (cTst (cBin oEq (cBin oIx (cVar 3) (cC (.int 0))) (cTup (cNil))))) (cRet (cC .non)) (cNext)) (cRet (cTup (cCons (cC (.str "origin")) (cCons (cBin oIx (cVar 3) (cC (.int 0))) (cCons (cBin oIx (cVar 3) (cC (.int 1))) (cNil)))))))))).bind ret1 := by
        show (b_read_target [some (.str m), some (tI l), none, none, none] ch).bind ret1 = _
        unfold b_read_target
        rw [seq_nx (σ' := [some (.str m), some (tI l), none, none, none]) (ch' := ch) (by simp [oEq, eqB_ss, hmb]), seq_nx (σ' := [some (.str m), some (tI l), none, none, none]) (ch' := ch) (by simp [oEq, q1, h42, zs (show 1 ≤ _ by omega)]), e_seq]
      rw [h0, e_if, s1]
      by_cases hs : (l.take 7).map lowO = scheme
      · rw [if_pos hs, decide_eq_true hs]
        have h7 : 7 ≤ l.length := by
          have := congrArg List.length hs
          simp [scheme] at this
          omega
        obtain ⟨c2, e2, k2⟩ := f_read_absolute (l := l) (ch := c1) h7 hz
        refine ⟨c2, ?_, kc1.trans k2⟩
        simp [e2]
      · rw [if_neg hs, decide_eq_false hs]
        obtain ⟨c2, e2, k2⟩ := f_read_place (l := l) (ch := c1) (by omega)
        refine ⟨c2, ?_, kc1.trans k2⟩
        cases hr : rPlace l with
        | none =>
          rw [hr] at e2
          simp only [placeV] at e2
          simp [e2, placeV]
        | some pq =>
          obtain ⟨p, q⟩ := pq
          rw [hr] at e2
          have q0 := tI_nil (p := p) (ch := c2)
          by_cases hp : p = []
          · subst hp
            simp at q0
            simp [e2, placeV, oEq, q0, zs (show 0 ≤ _ by omega)]
          · simp [e2, placeV, oEq, q0, zs (show 0 ≤ _ by omega), hp, zs (show 3 ≤ _ by omega)]
end K57
namespace K57
open PySem L2 Cn
theorem take' {c d : Nat} {ch : CH} {many : Int} (D : Drw c d ch) (h0 : 0 < many) (hm : many < 1073741824) :
    ∃ (r : Int) (ch' : CH), F_L_take [.ref d, .int many] ch = some (.int r, ch') ∧ 0 ≤ r ∧ r < many ∧ Drw c d ch' ∧ Keep (· = d) ch ch' ∧ ch'.length = ch.length := take_ok D h0 hm
theorem takeN {c d : Nat} {ch : CH} {many : Nat} (D : Drw c d ch) (h0 : 0 < many) (hm : many < 1000) :
    ∃ (r : Nat) (ch' : CH), F_L_take [.ref d, .int (many : Int)] ch = some (.int (r : Int), ch') ∧ r < many ∧ Drw c d ch' ∧ Keep (· = d) ch ch' ∧ ch'.length = ch.length := by
  obtain ⟨r, ch', e, r0, r1, D', k, l⟩ := take' (many := (many : Int)) D (by omega) (by omega)
  obtain ⟨n, rfl⟩ := Int.eq_ofNat_of_zero_le r0
  exact ⟨n, ch', e, by omega, D', k, l⟩
def hostL : List Str := ["h", "A.b-C", "9.9", strRep "x" 30, "", "a_b", "a/", "-"]
def portL : List Str := ["", "", ":1", ":80", ":65535", ":0", ":65536", ":000080", ":", ":8a", ":080", ":1:2"]
def hostN (i : Nat) : Str := hostL.getD i ""
def portN' (j : Nat) : Str := portL.getD j ""
def portVal (j : Nat) : Option Int := [some 80, some 80, some 1, some 80, some 65535, none, none, none, none, none, some 80, none].getD j none
def hostDue (i j : Nat) : PV := match portVal j with
  | some p => if i = 4 ∨ i = 5 ∨ i = 6 then .non else .tup [.str (Txt.lower (hostN i)), .int p]
  | none => .non
def hostV (i j : Nat) : PV := .tup [.str (hostN i ++ portN' j), hostDue i j, .bl (!(portN' j == ""))]
theorem host_in : ∀ i : _root_.Fin 8, decide (PV.str (hostN i.val) ∈ [PV.str "", PV.str "a_b", PV.str "a/"]) = decide (i.val = 4 ∨ i.val = 5 ∨ i.val = 6) := by decide +kernel
def goodK : List (Key × PV) := mergeC [] [(.inr "", .int 80), (.inr ":1", .int 1), (.inr ":80", .int 80), (.inr ":65535", .int 65535), (.inr ":080", .int 80)]
theorem good_at : ∀ j : _root_.Fin 12, vC goodK (.inr (portN' j.val)) = (portVal j.val).map PV.int := by decide +kernel
theorem host_len : ∀ i : _root_.Fin 8, (hostN i.val).length ≤ 30 := by decide +kernel
theorem port_len : ∀ j : _root_.Fin 12, (portN' j.val).length ≤ 10 := by decide +kernel
theorem x30 {ch : CH} : oMul (.str "x") (.int 30) ch = some (.str (strRep "x" 30), ch) := by
  have h : ((2 : Int) ≤ 30 ∧ (30 : Int) ≤ 1000000) ∧ (1 ≤ ("x" : Str).length ∧ ("x" : Str).length * (30 : Int).toNat ≤ sizeLine) ∧ (strRep "x" (30 : Int).toNat).length ≤ sizeLine := by decide +kernel
  exact if_pos (e := none) h
theorem atL {l : List Str} {i : Nat} (h : i < l.length) : atI (l.map PV.str) (i : Int) = some (.str (l.getD i "")) := atI_of (by simp [h])
theorem f_L_host {c d : Nat} {ch : CH} (D : Drw c d ch) : ∃ i j ch', i < 8 ∧ j < 12 ∧ F_L_host [.ref d] ch = some (hostV i j, ch') ∧ Drw c d ch' ∧ Keep (· = d) ch ch' := by
  have hd := lstAt_lt D.ex.choose_spec.choose_spec.choose_spec.choose_spec.1
  have D1 : Drw c d (ch ++ [.lst (hostL.map PV.str)]) := D.keep (p := fun _ => False) .app id id
  obtain ⟨i, c1, e1, hi, D2, k1, l1⟩ := takeN (many := 8) D1 (by decide) (by decide)
  have g1 : lstAt c1 ch.length = some (hostL.map PV.str) := k1.lst (by omega) lstAt_new
  have hd1 := lstAt_lt D2.ex.choose_spec.choose_spec.choose_spec.choose_spec.1
  have D3 : Drw c d (c1 ++ [.lst (portL.map PV.str)]) := D2.keep (p := fun _ => False) .app id id
  obtain ⟨j, c2, e2, hj, D4, k2, l2⟩ := takeN (many := 12) D3 (by decide) (by decide)
  have g2 : lstAt c2 c1.length = some (portL.map PV.str) := k2.lst (by omega) lstAt_new
  have a1 : atI (hostL.map PV.str) (i : Int) = some (.str (hostN i)) := atL hi
  have a2 : atI (portL.map PV.str) (j : Int) = some (.str (portN' j)) := atL hj
  have s1 : (cSet 1 (cBin oIx (cLst (cCons (cC (.str "h")) (cCons (cC (.str "A.b-C")) (cCons (cC (.str "9.9")) (cCons (cBin oMul (cC (.str "x")) (cC (.int 30))) (cCons (cC (.str "")) (cCons (cC (.str "a_b")) (cCons (cC (.str "a/")) (cCons (cC (.str "-")) (cNil)))))))))) (cCl F_L_take (cCons (cVar 0) (cCons (cC (.int 8)) (cNil)))))) [some (.ref d), none, none, none] ch = some (.nx, [some (.ref d), some (.str (hostN i)), none, none], c1) := by
    have e1' : F_L_take [.ref d, .int 8] (ch ++ [.lst [.str "h", .str "A.b-C", .str "9.9", .str (strRep "x" 30), .str "", .str "a_b", .str "a/", .str "-"]]) = some (.int (i : Int), c1) := e1
    simp only [e_set, e_bin, e_lst, e_cons, e_c, e_nil, e_cl, e_var0, Option.bind_some, x30, List.length_cons, List.length_nil, Nat.reduceAdd, zs (show 8 ≤ 1000000 by decide), if_true, e1', oIx_refI, g1, a1, Option.map_some, List.set_cons_zero, List.set_cons_succ]
  have s2 : (cSet 2 (cBin oIx (cLst (cCons (cC (.str "")) (cCons (cC (.str "")) (cCons (cC (.str ":1")) (cCons (cC (.str ":80")) (cCons (cC (.str ":65535")) (cCons (cC (.str ":0")) (cCons (cC (.str ":65536")) (cCons (cC (.str ":000080")) (cCons (cC (.str ":")) (cCons (cC (.str ":8a")) (cCons (cC (.str ":080")) (cCons (cC (.str ":1:2")) (cNil)))))))))))))) (cCl F_L_take (cCons (cVar 0) (cCons (cC (.int 12)) (cNil)))))) [some (.ref d), some (.str (hostN i)), none, none] c1 = some (.nx, [some (.ref d), some (.str (hostN i)), some (.str (portN' j)), none], c2) := by
    have e2' : F_L_take [.ref d, .int 12] (c1 ++ [.lst [.str "", .str "", .str ":1", .str ":80", .str ":65535", .str ":0", .str ":65536", .str ":000080", .str ":", .str ":8a", .str ":080", .str ":1:2"]]) = some (.int (j : Int), c2) := e2
    simp only [e_set, e_bin, e_lst, e_cons, e_c, e_nil, e_cl, e_var0, Option.bind_some, List.length_cons, List.length_nil, Nat.reduceAdd, zs (show 12 ≤ 1000000 by decide), if_true, e2', oIx_refI, g2, a2, Option.map_some, List.set_cons_zero, List.set_cons_succ]
  have s3 : (cSet 3 (cDisp (cPsC (cC (.str "")) (cC (.int 80)) (cPsC (cC (.str ":1")) (cC (.int 1)) (cPsC (cC (.str ":80")) (cC (.int 80)) (cPsC (cC (.str ":65535")) (cC (.int 65535)) (cPsC (cC (.str ":080")) (cC (.int 80)) (cPsN)))))))) [some (.ref d), some (.str (hostN i)), some (.str (portN' j)), none] c2 =
      some (.nx, [some (.ref d), some (.str (hostN i)), some (.str (portN' j)), some (.ref c2.length)], c2 ++ [.dct goodK]) := by
    have hdc : dctAt (c2 ++ [.dct []]) c2.length = some [] := by rw [dctAt_end0]; rfl
    simp [cDisp, cPsC, cPsN, Cn.keyOf, hdc]
    rfl
  have hg : dctAt (c2 ++ [.dct goodK]) c2.length = some goodK := by rw [dctAt_end0]; rfl
  have hg2 : ∀ g : CH, dctAt (c2 ++ .dct goodK :: g) c2.length = some goodK := fun g => by rw [dctAt_end0]; rfl
  have q1 : inB (.str (hostN i)) (.ref (c2.length + 1)) (c2 ++ [.dct goodK, .lst [.str "", .str "a_b", .str "a/"]]) = some (decide (i = 4 ∨ i = 5 ∨ i = 6)) := by
    rw [inB_flatL (xs := [.str "", .str "a_b", .str "a/"]) (by rw [lstAt_end]; rfl) rfl rfl (Or.inl (by decide))]
    congr 1
    exact host_in ⟨i, hi⟩
  have q2 : ∀ g : CH, inB (.str (portN' j)) (.ref c2.length) (c2 ++ .dct goodK :: g) = some ((portVal j).map PV.int).isSome := by
    intro g
    simp only [inB, dctAt_eq (hg2 g), Cn.keyOf, Option.map_some]
    rw [good_at ⟨j, hj⟩]
  have vp : vC goodK (.inr (portN' j)) = (portVal j).map PV.int := good_at ⟨j, hj⟩
  have lh := host_len ⟨i, hi⟩
  have lp := port_len ⟨j, hj⟩
  simp only at lh lp
  have lo : ∀ ch : CH, mStr0 Txt.lower 5592405 (.str (hostN i)) [] ch = some (.str (Txt.lower (hostN i)), ch) := fun ch => by
    unfold mStr0
    simp only
    rw [if_pos (by omega)]
  refine ⟨i, j, c2 ++ [.dct goodK, .lst [.str "", .str "a_b", .str "a/"]], hi, hj, ?_, D4.keep (p := fun _ => False) .app id id, (Keep.trans .app k1).trans (Keep.trans .app (k2.trans .app))⟩
  show (b_L_host [some (.ref d), none, none, none] ch).bind ret1 = _
  unfold b_L_host
  rw [seq_nx s1, seq_nx s2, seq_nx s3]
  by_cases hc : i = 4 ∨ i = 5 ∨ i = 6
  · rw [decide_eq_true hc] at q1
    have hv : hostDue i j = .non := by
      unfold hostDue
      cases portVal j <;> simp [hc]
    simp (disch := omega) [oIn, q1, zs, hostV, hv]
  · rw [decide_eq_false hc] at q1
    cases hp : portVal j with
    | none =>
      have hv : hostDue i j = .non := by unfold hostDue; rw [hp]
      rw [hp] at q2
      simp (disch := omega) [oIn, oNotIn, q1, q2, zs, hostV, hv]
    | some p =>
      have hv : hostDue i j = .tup [.str (Txt.lower (hostN i)), .int p] := by unfold hostDue; rw [hp]; simp [hc]
      rw [hp] at q2 vp
      have ix : oIx (.ref c2.length) (.str (portN' j)) (c2 ++ [.dct goodK, .lst [.str "", .str "a_b", .str "a/"]]) = some (.int p, c2 ++ [.dct goodK, .lst [.str "", .str "a_b", .str "a/"]]) := by
        rw [o_ixD (hg2 _)]
        simp [Cn.keyOf, vp]
      simp (disch := omega) [oIn, oNotIn, q1, q2, zs, hostV, hv, lo, ix]
end K57
namespace K57
open PySem L2 Cn
abbrev eDr (z : Str) (n : Int) : CE := cCl oOrd (cCons (cBin oIx (cC (.str z)) (cCl F_L_take (cCons (cVar 0) (cCons (cC (.int n)) (cNil))))) (cNil))
theorem dr_item {c d n : Nat} {z : Str} {σ : CSt} {ch : CH} (hn : z.cps.toList.length = n) (h0 : 0 < n) (h1 : n < 1000) (D : Drw c d ch) :
    ∃ o ch', eDr z (n : Int) (some (.ref d) :: σ) ch = some (.int o, ch') ∧ o ∈ ords z ∧ Drw c d ch' ∧ Keep (· = d) ch ch' := by
  obtain ⟨r, c1, e1, hr, D1, k1, l1⟩ := takeN (many := n) D h0 h1
  have hr' : r < z.cps.toList.length := by omega
  have hs : z.length ≤ sizeLine := zs (by
    have : z.length = z.cps.toList.length := by simp [Str.length]
    omega)
  have ha : atI z.cps.toList (r : Int) = some z.cps.toList[r] := atI_of (List.getElem?_eq_getElem hr')
  refine ⟨(z.cps.toList[r] : Nat), c1, ?_, List.mem_map.mpr ⟨_, List.getElem_mem hr', rfl⟩, D1, k1⟩
  simp only [eDr, e_cl, e_cons, e_bin, e_c, e_var0, e_nil, Option.bind_some, e1, o_ixS, if_pos hs, ha, Option.map_some, ord_one]
theorem dr_loop {c d n B : Nat} {z : Str} (hn : z.cps.toList.length = n) (h0 : 0 < n) (h1 : n < 1000) {a1 a2 a3 a4 : Option PV} : ∀ (ks : List PV) (acc : List Int) (ch : CH), Drw c d ch → B ≠ c → B ≠ d → lstAt ch B = some (acc.map PV.int) → acc.length + ks.length ≤ 1000 →
    ∃ l ch', compL okT 5 B cYes (eDr z (n : Int)) [some (.ref d), a1, a2, a3, a4, none] ks ch = some ch' ∧ Drw c d ch' ∧ Keep (fun m => m = d ∨ m = B) ch ch' ∧ lstAt ch' B = some ((acc ++ l).map PV.int) ∧ (∀ x ∈ l, x ∈ ords z) ∧ l.length = ks.length
  | [], acc, ch, D, _, _, hB, _ => ⟨[], ch, comp_end rfl, D, .refl, by simpa using hB, by simp, rfl⟩
  | k :: ks, acc, ch, D, n1, n2, hB, hz => by
    simp at hz
    obtain ⟨o, c1, e1, ho, D1, k1⟩ := dr_item (σ := [a1, a2, a3, a4, some k]) hn h0 h1 D
    have g1 := k1.lst n2 hB
    have D2 : Drw c d (c1.set B (.lst ((acc ++ [o]).map PV.int))) := D1.keep (p := (· = B)) (.set rfl) (Ne.symm n1) (Ne.symm n2)
    obtain ⟨l, c2, e2, D3, k2, g2, hl, hn'⟩ := dr_loop hn h0 h1 ks (acc ++ [o]) _ D2 n1 n2 (lstAt_set g1) (by simp; omega)
    refine ⟨o :: l, c2, ?_, D3, ((k1.mono fun m h => Or.inl h).trans (Keep.set (p := fun m => m = d ∨ m = B) (Or.inr rfl))).trans k2, by simpa using g2, fun x hx => ?_, by simp [hn']⟩
    · rw [comp_nx (ch1 := ch) (ch2 := c1) (v := .int o) rfl rfl e1 g1 (zs' (by simp; omega))]
      simpa using e2
    · rcases List.mem_cons.mp hx with rfl | hx
      · exact ho
      · exact hl x hx
def S1 : Str := "/a.~!:@"
def S2 : Str := "a=&/?+"
def bads : List Int := [35, 32, 127, 200, 37, 0]
def PO (row : List Int) (query : Option (List Int)) (g : Bool) : Prop := ∃ s t, (∀ x ∈ s, x ∈ ords S1) ∧ s.length ≤ 5 ∧ (t = [] ∨ t = [37, 52, 49]) ∧ ∃ q0 : Option (List Int), (∀ q, q0 = some q → (∀ x ∈ q, x ∈ ords S2) ∧ q.length ≤ 4) ∧
  ((g = true ∧ row = s ++ t ∧ query = q0) ∨ (g = false ∧ ∃ b ∈ bads, (row = s ++ t ++ [b] ∧ query = q0) ∨ (row = s ++ t ∧ ∃ q, q0 = some q ∧ query = some (q ++ [b]))))
def QS (v : PV) (q : Option (List Int)) (ch : CH) : Prop := match q with
  | none => v = .non
  | some l => ∃ n, v = .ref n ∧ lstAt ch n = some (l.map PV.int)
theorem QS.keep {v : PV} {q : Option (List Int)} {ch ch' : CH} {d : Nat} (h : QS v q ch) (k : Keep (· = d) ch ch') (hd : ∀ n, v = .ref n → n ≠ d) : QS v q ch' := by
  cases q with
  | none => exact h
  | some l =>
    obtain ⟨n, e, g⟩ := h
    exact ⟨n, e, k.lst (hd n e) g⟩
theorem f_L_place {c d : Nat} {ch : CH} (D : Drw c d ch) : ∃ row query g ch', F_L_place [.ref d] ch = some (.tup [tI row, qV query, .bl g], ch') ∧ PO row query g ∧ Drw c d ch' ∧ Keep (· = d) ch ch' := by
  obtain ⟨hd, hc⟩ := D.lt
  -- the row
  obtain ⟨r, c1, e1, hr, D1, k1, l1⟩ := takeN (many := 6) D (by decide) (by decide)
  obtain ⟨s, c2, e2, D2, k2, g2, hs, ls⟩ := dr_loop (c := c) (d := d) (B := c1.length) (z := S1) (n := 7) (by decide +kernel) (by decide) (by decide) (a1 := some (.bl true)) (a2 := none) (a3 := none) (a4 := none) (rng 0 r) [] (c1 ++ [.lst []]) (D1.keep (p := fun _ => False) .app id id) (by have := D1.lt; omega) (by have := D1.lt; omega) lstAt_new (by simp; omega)
  rw [List.nil_append] at g2
  have K2 : Keep (· = d) ch c2 := k1.trans (Keep.mk' k2 (by omega))
  have s1 : (cSet 1 (cC (.bl true))) [some (.ref d), none, none, none, none, none] ch = some (.nx, [some (.ref d), some (.bl true), none, none, none, none], ch) := rfl
  have s2 : (cSet 2 (cLc (ciR1 (cCons (cCl F_L_take (cCons (cVar 0) (cCons (cC (.int 6)) (cNil)))) (cNil))) 5 (cYes) (e_L_place_1) [5])) [some (.ref d), some (.bl true), none, none, none, none] ch = some (.nx, [some (.ref d), some (.bl true), some (.ref c1.length), none, none, none], c2) := by
    have e1' : F_L_take [.ref d, .int 6] ch = some (.int (r : Int), c1) := e1
    have hi : (cCons (cCl F_L_take (cCons (cVar 0) (cCons (cC (.int 6)) (cNil)))) (cNil)) [some (.ref d), some (.bl true), none, none, none, none] ch = some ([.int (r : Int)], c1) := by
      simp only [e_cons, e_cl, e_var0, e_c, e_nil, Option.bind_some, e1']
    have e2' : compL okT 5 c1.length cYes e_L_place_1 [some (.ref d), some (.bl true), none, none, none, none] (rng 0 r) (c1 ++ [.lst []]) = some c2 := e2
    rw [e_set, lc_range hi (by omega)]
    simp only [wipeC, List.set_cons_zero, List.set_cons_succ, e2', Option.bind_some]
  -- a code behind it
  have s3 : ∃ t R c3, (t = [] ∨ t = [37, 52, 49]) ∧ (cIf (cTst (cBin oEq (cCl F_L_take (cCons (cVar 0) (cCons (cC (.int 4)) (cNil)))) (cC (.int 0)))) (cSet 2 (cBin oAdd (cVar 2) (cLst (cCons (cC (.int 37)) (cCons (cC (.int 52)) (cCons (cC (.int 49)) (cNil))))))) (cNext)) [some (.ref d), some (.bl true), some (.ref c1.length), none, none, none] c2 =
      some (.nx, [some (.ref d), some (.bl true), some (.ref R), none, none, none], c3) ∧ Drw c d c3 ∧ Keep (· = d) c2 c3 ∧ lstAt c3 R = some ((s ++ t).map PV.int) ∧ R ≠ d := by
    obtain ⟨r3, c3, e3, hr3, D3, k3, l3⟩ := takeN (many := 4) D2 (by decide) (by decide)
    have e3' : F_L_take [.ref d, .int 4] c2 = some (.int (r3 : Int), c3) := e3
    have g3 : lstAt c3 c1.length = some (s.map PV.int) := k3.lst (by have := D1.lt; omega) g2
    by_cases h : r3 = 0
    · refine ⟨[37, 52, 49], c3.length + 1, c3 ++ [.lst [.int 37, .int 52, .int 49], .lst ((s ++ [37, 52, 49]).map PV.int)], Or.inr rfl, ?_, D3.keep (p := fun _ => False) .app id id, k3.trans .app, by rw [lstAt_end]; rfl, by have := D3.lt; omega⟩
      have g3' := lstAt_app (g := [.lst [.int 37, .int 52, .int 49]]) g3
      have hsl : s.length ≤ 5 := by rw [ls]; simp; omega
      simp (disch := omega) [e3', h, zs, g3']
    · have hb : ((r3 : Int) == 0) = false := by
        simp only [beq_eq_false_iff_ne, ne_eq]
        omega
      refine ⟨[], c1.length, c3, Or.inl rfl, ?_, D3, k3, by simpa using g3, by have := D1.lt; omega⟩
      simp [e3', hb]
  obtain ⟨t, R, c3, ht, s3, D3, k3, g3, nR⟩ := s3
  have s4 : (cSet 3 (cC .non)) [some (.ref d), some (.bl true), some (.ref R), none, none, none] c3 = some (.nx, [some (.ref d), some (.bl true), some (.ref R), some .non, none, none], c3) := rfl
  have s5 : ∃ q v c4, (∀ l, q = some l → (∀ x ∈ l, x ∈ ords S2) ∧ l.length ≤ 4) ∧ (cIf (cTst (cBin oEq (cCl F_L_take (cCons (cVar 0) (cCons (cC (.int 2)) (cNil)))) (cC (.int 0)))) (cSet 3 (cLc (ciR1 (cCons (cCl F_L_take (cCons (cVar 0) (cCons (cC (.int 5)) (cNil)))) (cNil))) 5 (cYes) (e_L_place_2) [5])) (cNext)) [some (.ref d), some (.bl true), some (.ref R), some .non, none, none] c3 =
      some (.nx, [some (.ref d), some (.bl true), some (.ref R), some v, none, none], c4) ∧ Drw c d c4 ∧ Keep (· = d) c3 c4 ∧ QS v q c4 ∧ ∀ n, v = .ref n → n ≠ d := by
    obtain ⟨r4, c4, e4, hr4, D4, k4, l4⟩ := takeN (many := 2) D3 (by decide) (by decide)
    have e4' : F_L_take [.ref d, .int 2] c3 = some (.int (r4 : Int), c4) := e4
    by_cases h : r4 = 0
    · obtain ⟨r5, c5, e5, hr5, D5, k5, l5⟩ := takeN (many := 5) D4 (by decide) (by decide)
      have e5' : F_L_take [.ref d, .int 5] c4 = some (.int (r5 : Int), c5) := e5
      obtain ⟨q, c6, e6, D6, k6, g6, hq, lq⟩ := dr_loop (c := c) (d := d) (B := c5.length) (z := S2) (n := 6) (by decide +kernel) (by decide) (by decide) (a1 := some (.bl true)) (a2 := some (.ref R)) (a3 := some .non) (a4 := none) (rng 0 r5) [] (c5 ++ [.lst []]) (D5.keep (p := fun _ => False) .app id id) (by have := D5.lt; omega) (by have := D5.lt; omega) lstAt_new (by simp; omega)
      rw [List.nil_append] at g6
      have e6' : compL okT 5 c5.length cYes e_L_place_2 [some (.ref d), some (.bl true), some (.ref R), some .non, none, none] (rng 0 r5) (c5 ++ [.lst []]) = some c6 := e6
      have hi : (cCons (cCl F_L_take (cCons (cVar 0) (cCons (cC (.int 5)) (cNil)))) (cNil)) [some (.ref d), some (.bl true), some (.ref R), some .non, none, none] c4 = some ([.int (r5 : Int)], c5) := by
        simp only [e_cons, e_cl, e_var0, e_c, e_nil, Option.bind_some, e5']
      have hl : (cSet 3 (cLc (ciR1 (cCons (cCl F_L_take (cCons (cVar 0) (cCons (cC (.int 5)) (cNil)))) (cNil))) 5 (cYes) (e_L_place_2) [5])) [some (.ref d), some (.bl true), some (.ref R), some .non, none, none] c4 = some (.nx, [some (.ref d), some (.bl true), some (.ref R), some (.ref c5.length), none, none], c6) := by
        rw [e_set, lc_range hi (by omega)]
        simp only [wipeC, List.set_cons_zero, List.set_cons_succ, e6', Option.bind_some]
      refine ⟨some q, .ref c5.length, c6, fun l hl => ?_, ?_, D6, (k4.trans k5).trans (Keep.mk' k6 (by omega)), ⟨_, rfl, g6⟩, fun n hn => ?_⟩
      · cases hl
        exact ⟨hq, by rw [lq]; simp; omega⟩
      · subst h
        simp only [e_if, e_tst, e_bin, e_cl, e_cons, e_var0, e_c, e_nil, Option.bind_some, e4', o_eqI, e_tru, hl]
        rfl
      · cases hn
        have := D5.lt
        omega
    · have hb : ((r4 : Int) == 0) = false := by
        simp only [beq_eq_false_iff_ne, ne_eq]
        omega
      exact ⟨none, .non, c4, (fun l hl => by cases hl), (by simp [e4', hb]), D4, k4, rfl, (fun n hn => by cases hn)⟩
  obtain ⟨q, v, c4, hq, s5, D4, k4, hqs, nv⟩ := s5
  have g4 : lstAt c4 R = some ((s ++ t).map PV.int) := k4.lst nR g3
  have hsl : s.length ≤ 5 := by rw [ls]; simp; omega
  have htl : t.length ≤ 3 := by rcases ht with rfl | rfl <;> simp
  -- a bad octet
  have s6 : ∃ row query g R' v' w c5, PO row query g ∧ (cIf (cTst (cBin oEq (cCl F_L_take (cCons (cVar 0) (cCons (cC (.int 5)) (cNil)))) (cC (.int 0)))) (cSeq (cSet 1 (cC (.bl false))) (cSeq (cSet 4 (cBin oIx (cLst (cCons (cC (.int 35)) (cCons (cC (.int 32)) (cCons (cC (.int 127)) (cCons (cC (.int 200)) (cCons (cC (.int 37)) (cCons (cC (.int 0)) (cNil)))))))) (cCl F_L_take (cCons (cVar 0) (cCons (cC (.int 6)) (cNil)))))) (cIf (cAnd (cTst (cBin oNotN (cVar 3) (cC .non))) (cTst (cBin oEq (cCl F_L_take (cCons (cVar 0) (cCons (cC (.int 2)) (cNil)))) (cC (.int 0))))) (cSet 3 (cBin oAdd (cVar 3) (cLst (cCons (cVar 4) (cNil))))) (cSet 2 (cBin oAdd (cVar 2) (cLst (cCons (cVar 4) (cNil)))))))) (cNext)) [some (.ref d), some (.bl true), some (.ref R), some v, none, none] c4 =
      some (.nx, [some (.ref d), some (.bl g), some (.ref R'), some v', w, none], c5) ∧ Drw c d c5 ∧ Keep (· = d) c4 c5 ∧ lstAt c5 R' = some (row.map PV.int) ∧ QS v' query c5 := by
    obtain ⟨r5, c5, e5, hr5, D5, k5, l5⟩ := takeN (many := 5) D4 (by decide) (by decide)
    have e5' : F_L_take [.ref d, .int 5] c4 = some (.int (r5 : Int), c5) := e5
    by_cases h : r5 = 0
    · subst h
      obtain ⟨r6, c6, e6, hr6, D6, k6, l6⟩ := takeN (c := c) (d := d) (ch := c5 ++ [.lst (bads.map PV.int)]) (many := 6) (D5.keep (p := fun _ => False) .app id id) (by decide) (by decide)
      have e6' : F_L_take [.ref d, .int 6] (c5 ++ [.lst [.int 35, .int 32, .int 127, .int 200, .int 37, .int 0]]) = some (.int (r6 : Int), c6) := e6
      have g6 : lstAt c6 c5.length = some (bads.map PV.int) := k6.lst (by have := D5.lt; omega) lstAt_new
      have hr6' : r6 < bads.length := hr6
      have a6 : atI (bads.map PV.int) (r6 : Int) = some (.int bads[r6]) := atI_of (by simp [hr6'])
      have hbad : bads[r6] ∈ bads := List.getElem_mem hr6'
      generalize bads[r6] = b at a6 hbad
      have KK : Keep (· = d) c4 c6 := k5.trans (Keep.trans .app k6)
      have gR : lstAt c6 R = some ((s ++ t).map PV.int) := KK.lst nR g4
      have hqs6 := hqs.keep KK nv
      cases q with
      | none =>
        have hv : v = .non := hqs6
        subst hv
        refine ⟨s ++ t ++ [b], none, false, c6.length + 1, .non, some (.int b), c6 ++ [.lst [.int b], .lst ((s ++ t ++ [b]).map PV.int)], ⟨s, t, hs, hsl, ht, none, hq, Or.inr ⟨rfl, b, hbad, Or.inl ⟨rfl, rfl⟩⟩⟩, ?_, D6.keep (p := fun _ => False) .app id id, KK.trans .app, by rw [lstAt_end]; rfl, rfl⟩
        simp only [List.map_append] at gR
        have gR' := lstAt_app (g := [.lst [.int b]]) gR
        simp (disch := omega) [e5', e6', g6, a6, gR', zs]
      | some ql =>
        obtain ⟨n, hv, gq⟩ := hqs6
        subst hv
        have hql := hq ql rfl
        obtain ⟨r7, c7, e7, hr7, D7, k7, l7⟩ := takeN (many := 2) D6 (by decide) (by decide)
        have e7' : F_L_take [.ref d, .int 2] c6 = some (.int (r7 : Int), c7) := e7
        have gq7 := k7.lst (nv n rfl) gq
        have gR7 := k7.lst nR gR
        simp only [List.map_append] at gR7
        have gR' := lstAt_app (g := [.lst [.int b]]) gR7
        have gq' := lstAt_app (g := [.lst [.int b]]) gq7
        by_cases h7 : r7 = 0
        · subst h7
          refine ⟨s ++ t, some (ql ++ [b]), false, R, .ref (c7.length + 1), some (.int b), c7 ++ [.lst [.int b], .lst ((ql ++ [b]).map PV.int)], ⟨s, t, hs, hsl, ht, some ql, hq, Or.inr ⟨rfl, b, hbad, Or.inr ⟨rfl, ql, rfl, rfl⟩⟩⟩, ?_, D7.keep (p := fun _ => False) .app id id, (KK.trans k7).trans .app, by rw [lstAt_app gR7, List.map_append], ⟨_, rfl, by rw [lstAt_end]; rfl⟩⟩
          simp (disch := omega) [e5', e6', e7', g6, a6, gq', zs]
        · have hb7 : ((r7 : Int) == 0) = false := by
            simp only [beq_eq_false_iff_ne, ne_eq]
            omega
          refine ⟨s ++ t ++ [b], some ql, false, c7.length + 1, .ref n, some (.int b), c7 ++ [.lst [.int b], .lst ((s ++ t ++ [b]).map PV.int)], ⟨s, t, hs, hsl, ht, some ql, hq, Or.inr ⟨rfl, b, hbad, Or.inl ⟨rfl, rfl⟩⟩⟩, ?_, D7.keep (p := fun _ => False) .app id id, (KK.trans k7).trans .app, by rw [lstAt_end]; rfl, ⟨_, rfl, lstAt_app gq7⟩⟩
          simp (disch := omega) [e5', e6', e7', g6, a6, gR', zs, hb7]
    · have hb : ((r5 : Int) == 0) = false := by
        simp only [beq_eq_false_iff_ne, ne_eq]
        omega
      exact ⟨s ++ t, q, true, R, v, none, c5, ⟨s, t, hs, hsl, ht, q, hq, Or.inl ⟨rfl, rfl, rfl⟩⟩, by simp [e5', hb], D5, k5, k5.lst nR g4, hqs.keep k5 nv⟩
  obtain ⟨row, query, g, R', v', w, c5, po, s6, D5, k5, g5, hqs5⟩ := s6
  refine ⟨row, query, g, c5, ?_, po, D5, ((K2.trans k3).trans k4).trans k5⟩
  show (b_L_place [some (.ref d), none, none, none, none, none] ch).bind ret1 = _
  unfold b_L_place
  rw [seq_nx s1, seq_nx s2, seq_nx s3, seq_nx s4, seq_nx s5, seq_nx s6]
  cases query with
  | none =>
    have hv : v' = .non := hqs5
    subst hv
    simp (disch := omega) [g5, zs, qV]
  | some ql =>
    obtain ⟨n, hv, gq⟩ := hqs5
    subst hv
    simp (disch := omega) [g5, gq, zs, qV]
end K57
namespace K57
open PySem L2 Cn
def joinQ (p : List Int) : Option (List Int) → List Int
  | none => p
  | some q => p ++ 63 :: q
theorem decD_app : ∀ (a r : List Int), (∀ x ∈ a, x ≠ 37) → (decD (a ++ r)).isSome = (decD r).isSome
  | [], r, _ => rfl
  | o :: a, r, h => by
    rw [List.cons_append, decD_ne (h o List.mem_cons_self), Option.isSome_map, decD_app a r fun x hx => h x (List.mem_cons_of_mem _ hx)]
theorem decD_code (r : List Int) : (decD (37 :: 52 :: 49 :: r)).isSome = (decD r).isSome := by
  rw [decD, if_neg (by decide), Option.isSome_map]
theorem decD_bad1 : (decD [37]).isSome = false := by decide
theorem decD_bad2 (q : List Int) : (decD (37 :: 63 :: q)).isSome = false := by
  cases q with
  | nil => decide
  | cons a q => rw [decD, if_pos (by left; decide)]; rfl
theorem S1_ok : ∀ x ∈ ords S1, isOk x = true ∧ x ≠ 37 ∧ x ≠ 63 := by decide +kernel
theorem S2_ok : ∀ x ∈ ords S2, isOk x = true ∧ x ≠ 37 := by decide +kernel
theorem bads_ok : ∀ x ∈ bads, x ≠ 63 ∧ (x ≠ 37 → isOk x = false) := by decide
theorem good_true {l : List Int} (h1 : ∀ x ∈ l, isOk x = true) (h2 : (decD l).isSome = true) : good l = true := by
  unfold good
  rw [h2, Bool.and_true, List.all_eq_true]
  exact h1
theorem good_bad {l : List Int} {x : Int} (h : x ∈ l) (h2 : isOk x = false) : good l = false := by
  unfold good
  have : l.all isOk = false := by
    rw [List.all_eq_false]
    exact ⟨x, h, by simp [h2]⟩
  rw [this]
  rfl
theorem good_dec {l : List Int} (h2 : (decD l).isSome = false) : good l = false := by
  unfold good
  rw [h2, Bool.and_false]
/-- the place that was drawn is good or not, as the draw said -/
theorem good_po {row : List Int} {q : Option (List Int)} {g : Bool} (P : PO row q g) {pre : List Int} (hp : ∀ x ∈ pre, isOk x = true ∧ x ≠ 37) : good (pre ++ joinQ row q) = g := by
  obtain ⟨s, t, hs, _, ht, q0, hq, h⟩ := P
  have t_ok : ∀ x ∈ t, isOk x = true := by
    rcases ht with rfl | rfl
    · simp
    · decide
  have t_dec : ∀ r, (decD (t ++ r)).isSome = (decD r).isSome := by
    intro r
    rcases ht with rfl | rfl
    · rfl
    · exact decD_code r
  have ps : ∀ x ∈ pre ++ s, x ≠ 37 := fun x hx => by
    rcases List.mem_append.mp hx with z | z
    · exact (hp x z).2
    · exact (S1_ok x (hs x z)).2.1
  rcases h with ⟨rfl, rfl, rfl⟩ | ⟨rfl, b, hb, ⟨rfl, rfl⟩ | ⟨rfl, ql, rfl, rfl⟩⟩
  · cases q with
    | none =>
      refine good_true (fun x hx => ?_) ?_
      · simp only [joinQ, List.mem_append] at hx
        rcases hx with z | z | z
        · exact (hp x z).1
        · exact (S1_ok x (hs x z)).1
        · exact t_ok x z
      · simp only [joinQ]
        rw [← List.append_assoc, decD_app _ _ ps]
        have := t_dec []
        rw [List.append_nil] at this
        rw [this]
        rfl
    | some ql =>
      have hql := (hq ql rfl).1
      refine good_true (fun x hx => ?_) ?_
      · simp only [joinQ, List.mem_append, List.mem_cons] at hx
        rcases hx with z | (z | z) | z | z
        · exact (hp x z).1
        · exact (S1_ok x (hs x z)).1
        · exact t_ok x z
        · subst z; decide
        · exact (S2_ok x (hql x z)).1
      · simp only [joinQ]
        rw [List.append_assoc, ← List.append_assoc, decD_app _ _ ps, t_dec]
        have := decD_app (63 :: ql) [] (fun x hx => by
          rcases List.mem_cons.mp hx with z | z
          · omega
          · exact (S2_ok x (hql x z)).2)
        rw [List.append_nil] at this
        rw [this]
        rfl
  · by_cases h37 : b = 37
    · subst h37
      refine good_dec ?_
      cases q with
      | none =>
        simp only [joinQ]
        rw [show pre ++ (s ++ t ++ [37]) = (pre ++ s) ++ (t ++ [37]) by simp, decD_app _ _ ps, t_dec]
        exact decD_bad1
      | some ql =>
        simp only [joinQ]
        rw [show pre ++ (s ++ t ++ [37] ++ 63 :: ql) = (pre ++ s) ++ (t ++ 37 :: 63 :: ql) by simp, decD_app _ _ ps, t_dec]
        exact decD_bad2 ql
    · refine good_bad (x := b) ?_ ((bads_ok b hb).2 h37)
      cases q <;> simp [joinQ]
  · have hql := (hq ql rfl).1
    by_cases h37 : b = 37
    · subst h37
      refine good_dec ?_
      simp only [joinQ]
      rw [show pre ++ (s ++ t ++ 63 :: (ql ++ [37])) = (pre ++ s) ++ (t ++ ((63 :: ql) ++ [37])) by simp, decD_app _ _ ps, t_dec, decD_app _ _ fun x hx => by
        rcases List.mem_cons.mp hx with z | z
        · omega
        · exact (S2_ok x (hql x z)).2]
      exact decD_bad1
    · refine good_bad (x := b) ?_ ((bads_ok b hb).2 h37)
      simp [joinQ]
/-- a good place without its path -/
theorem good_nil {row : List Int} {q : Option (List Int)} (P : PO row q true) : good (joinQ [] q) = true := by
  obtain ⟨s, t, hs, _, ht, q0, hq, h⟩ := P
  rcases h with ⟨_, rfl, rfl⟩ | ⟨h, _⟩
  · cases q with
    | none => rfl
    | some ql =>
      have hql := (hq ql rfl).1
      refine good_true (fun x hx => ?_) ?_
      · simp only [joinQ, List.nil_append, List.mem_cons] at hx
        rcases hx with z | z
        · subst z; decide
        · exact (S2_ok x (hql x z)).1
      · simp only [joinQ, List.nil_append]
        have := decD_app (63 :: ql) [] (fun x hx => by
          rcases List.mem_cons.mp hx with z | z
          · omega
          · exact (S2_ok x (hql x z)).2)
        rw [List.append_nil] at this
        rw [this]
        rfl
  · cases h
theorem po_no {row : List Int} {q : Option (List Int)} {g : Bool} (P : PO row q g) : ∀ x ∈ row, x ≠ 63 := by
  obtain ⟨s, t, hs, _, ht, q0, hq, h⟩ := P
  have st : ∀ x ∈ s ++ t, x ≠ 63 := fun x hx => by
    rcases List.mem_append.mp hx with z | z
    · exact (S1_ok x (hs x z)).2.2
    · rcases ht with rfl | rfl
      · simp at z
      · simp at z; omega
  rcases h with ⟨_, rfl, _⟩ | ⟨_, b, hb, ⟨rfl, _⟩ | ⟨rfl, _⟩⟩
  · exact st
  · intro x hx
    rcases List.mem_append.mp hx with z | z
    · exact st x z
    · rw [List.mem_singleton.mp z]; exact (bads_ok b hb).1
  · exact st
theorem po_len {row : List Int} {q : Option (List Int)} {g : Bool} (P : PO row q g) : row.length ≤ 9 ∧ ∀ l, q = some l → l.length ≤ 5 := by
  obtain ⟨s, t, hs, ls, ht, q0, hq, h⟩ := P
  have lt : t.length ≤ 3 := by rcases ht with rfl | rfl <;> simp
  rcases h with ⟨_, rfl, rfl⟩ | ⟨_, b, hb, ⟨rfl, rfl⟩ | ⟨rfl, ql, rfl, rfl⟩⟩
  · exact ⟨by simp; omega, fun l hl => by have := (hq l hl).2; omega⟩
  · exact ⟨by simp; omega, fun l hl => by have := (hq l hl).2; omega⟩
  · refine ⟨by simp; omega, fun l hl => ?_⟩
    cases hl
    have := (hq ql rfl).2
    simp
    omega
theorem find_no {p r : List Int} (h : ∀ x ∈ p, x ≠ 63) : (p ++ r).findIdx? (· == 63) = (r.findIdx? (· == 63)).map (· + p.length) := by
  rw [List.findIdx?_append]
  have : p.findIdx? (· == 63) = none := by
    rw [List.findIdx?_eq_none_iff]
    intro x hx
    simpa using h x hx
  rw [this]
  simp
theorem path_join {p : List Int} {q : Option (List Int)} (h : ∀ x ∈ p, x ≠ 63) : pathOf (joinQ p q) = p ∧ queryOf (joinQ p q) = q := by
  cases q with
  | none =>
    have e := find_no (r := []) h
    rw [List.append_nil] at e
    have ha : p.any (· == 63) = false := by
      rw [List.any_eq_false]
      intro x hx
      simpa using h x hx
    simp only [joinQ, pathOf, queryOf, qAt, e, ha]
    simp
  | some q =>
    have e := find_no (r := 63 :: q) h
    have ha : (p ++ 63 :: q).any (· == 63) = true := by simp
    have e2 : (63 :: q).findIdx? (· == 63) = some 0 := by simp [List.findIdx?_cons]
    rw [e2] at e
    simp only [joinQ, pathOf, queryOf, qAt, e, ha]
    simp
theorem place_join {p : List Int} {q : Option (List Int)} {g : Bool} (h : ∀ x ∈ p, x ≠ 63) (hg : good (joinQ p q) = g) (h47 : p = [] ∨ p.head? = some 47) : rPlace (joinQ p q) = if g = true then some (p, q) else none := by
  obtain ⟨h1, h2⟩ := path_join (q := q) h
  unfold rPlace
  rw [h1, h2, hg]
  cases g with
  | true => rw [if_pos ⟨rfl, h47⟩]; rfl
  | false => rw [if_neg (by simp)]; rfl
theorem txt_ords (z : Str) : txt (ords z) = z := by
  have : (ords z).map Int.toNat = z.cps.toList := by
    unfold ords
    rw [List.map_map]
    conv => rhs; rw [← List.map_id z.cps.toList]
    exact List.map_congr_left fun x _ => by simp
  unfold txt
  rw [this]
/-! hosts -/
def authDue (i j : Nat) : Option (List Int × Int) := match portVal j with
  | some p => if i = 4 ∨ i = 5 ∨ i = 6 then none else some (ords (hostN i), p)
  | none => none
theorem hostDue_eq (i j : Nat) : hostDue i j = authV (authDue i j) := by
  unfold hostDue authDue
  cases portVal j with
  | none => rfl
  | some p =>
    by_cases h : i = 4 ∨ i = 5 ∨ i = 6
    · simp [h, authV]
    · simp [h, authV, txt_ords]
theorem auth_host : ∀ i : _root_.Fin 8, ∀ j : _root_.Fin 12, rAuth (ords (hostN i.val ++ portN' j.val)) false = authDue i.val j.val := by decide +kernel
theorem auth_conn : ∀ i : _root_.Fin 8, ∀ j : _root_.Fin 12, rAuth (ords (hostN i.val ++ portN' j.val)) true = if portN' j.val = "" then none else authDue i.val j.val := by decide +kernel
theorem auth_conn2 : ∀ i : _root_.Fin 8, ∀ j : _root_.Fin 12, rAuth (ords (hostN i.val ++ portN' j.val) ++ [47]) true = none := by decide +kernel
theorem host_signs : ∀ i : _root_.Fin 8, ∀ j : _root_.Fin 12, i.val ≠ 6 → ((ords (hostN i.val ++ portN' j.val)).all inHost) = true := by decide +kernel
theorem host_a : ∀ j : _root_.Fin 12, ords (hostN 6 ++ portN' j.val) = 97 :: 47 :: ords (portN' j.val) := by decide +kernel
theorem port_ok : ∀ j : _root_.Fin 12, ∀ x ∈ ords (portN' j.val), isOk x = true ∧ x ≠ 37 ∧ x ≠ 63 := by decide +kernel
theorem auth_a : rAuth [97] false = some ([97], 80) := by decide +kernel
end K57
namespace K57
open PySem L2 Cn
def originV (p : List Int) (q : Option (List Int)) (g : Bool) : PV := if g = true then .tup [.str "origin", tI p, qV q] else .non
theorem f_joined {p : List Int} {q : Option (List Int)} {ch : CH} (hp : p.length ≤ 1000) (hq : ∀ l, q = some l → l.length ≤ 1000) : F_L_joined [tI p, qV q] ch = some (tI (joinQ p q), ch) := by
  cases q with
  | none => simp [F_L_joined, runF, b_L_joined, qV, joinQ]
  | some l =>
    have := hq l rfl
    simp (disch := omega) [F_L_joined, runF, b_L_joined, qV, joinQ, zs]
theorem target_origin {m : Str} {row : List Int} {q : Option (List Int)} {g : Bool} (hm : m ≠ "CONNECT") (P : PO row q g) : rTarget m (joinQ (47 :: row) q) = originV (47 :: row) q g := by
  have hg := good_po P (pre := [47]) (by decide)
  have e : [47] ++ joinQ row q = joinQ (47 :: row) q := by cases q <;> rfl
  rw [e] at hg
  have hp := place_join (p := 47 :: row) (q := q) (fun x hx => by
    rcases List.mem_cons.mp hx with z | z
    · omega
    · exact po_no P x z) hg (Or.inr rfl)
  have hd : ∃ r, joinQ (47 :: row) q = 47 :: r := by cases q <;> exact ⟨_, rfl⟩
  obtain ⟨r, hr⟩ := hd
  have n42 : joinQ (47 :: row) q ≠ [42] := by rw [hr]; simp
  have ns : ((joinQ (47 :: row) q).take 7).map lowO ≠ scheme := by
    rw [hr]
    simp [scheme, lowO]
  unfold rTarget originV
  rw [if_neg hm, if_neg n42, if_neg ns, hp]
  cases g <;> rfl
theorem f_L_origin {c d : Nat} {ch : CH} (D : Drw c d ch) : ∃ l v ch', F_L_origin [.ref d] ch = some (.tup [tI l, v], ch') ∧ l.length ≤ 100 ∧ (∀ m : Str, m ≠ "CONNECT" → rTarget m l = v) ∧ Drw c d ch' ∧ Keep (· = d) ch ch' := by
  obtain ⟨row, q, g, c1, e1, P, D1, k1⟩ := f_L_place D
  obtain ⟨lr, lq⟩ := po_len P
  refine ⟨joinQ (47 :: row) q, originV (47 :: row) q g, c1, ?_, ?_, fun m hm => target_origin hm P, D1, k1⟩
  · have ej := f_joined (p := 47 :: row) (q := q) (ch := c1) (by simp; omega) (fun l hl => by have := lq l hl; omega)
    rw [show tI (47 :: row) = .tup (.int 47 :: row.map PV.int) from rfl] at ej
    cases g with
    | true => simp (disch := omega) [F_L_origin, runF, b_L_origin, e1, zs, ej, originV]
    | false => simp (disch := omega) [F_L_origin, runF, b_L_origin, e1, zs, ej, originV]
  · cases q with
    | none => simp [joinQ]; omega
    | some l => have := lq l rfl; simp [joinQ]; omega
/-! absolute targets -/
def schL : List Str := ["http://", "HTTP://", "hTtP://"]
theorem sch_low : ∀ k : _root_.Fin 3, (ords (schL.getD k.val "")).map lowO = scheme ∧ (ords (schL.getD k.val "")).length = 7 := by decide +kernel
def absV (a : Str) (p : Int) (path : List Int) (q : Option (List Int)) : PV := .tup [.str "absolute", .str a, .int p, tI path, qV q]
def absDue (i j : Nat) (path : List Int) (q : Option (List Int)) (g : Bool) : PV :=
  if i = 6 then (if g = true then absV "a" 80 (47 :: ords (portN' j) ++ path) q else .non)
  else match authDue i j with
    | some (a, p) => if g = true then absV (Txt.lower (txt a)) p (if path = [] then [47] else path) q else .non
    | none => .non
theorem take_all {a r : List Int} {p : Int → Bool} (h : a.all p = true) (hr : r.takeWhile p = []) (hd : r.dropWhile p = r) : (a ++ r).takeWhile p = a ∧ (a ++ r).dropWhile p = r := by
  rw [List.all_eq_true] at h
  constructor
  · rw [List.takeWhile_append_of_pos h, hr, List.append_nil]
  · rw [List.dropWhile_append_of_pos h, hd]
theorem lower_a : Txt.lower (txt [97]) = "a" := by
  unfold txt
  rw [SX.lower_S (by decide)]
  decide +kernel
theorem target_abs {m : Str} {i j k : Nat} (hm : m ≠ "CONNECT") (hi : i < 8) (hj : j < 12) (hk : k < 3) {row path : List Int} {q : Option (List Int)} {g : Bool} (P : PO row q g) (hp : path = 47 :: row ∨ (path = [] ∧ g = true)) :
    rTarget m (ords (schL.getD k "") ++ ords (hostN i ++ portN' j) ++ joinQ path q) = absDue i j path q g := by
  obtain ⟨s1, s2⟩ := sch_low ⟨k, hk⟩
  simp only at s1 s2
  have hgood : ∀ pre : List Int, (∀ x ∈ pre, isOk x = true ∧ x ≠ 37) → path = 47 :: row → good (pre ++ joinQ path q) = g := by
    intro pre h e
    subst e
    have := good_po P (pre := pre ++ [47]) (fun x hx => by
      rcases List.mem_append.mp hx with z | z
      · exact h x z
      · rw [List.mem_singleton.mp z]; decide)
    rw [← this]
    cases q <;> simp [joinQ]
  have hno : ∀ x ∈ path, x ≠ 63 := by
    rcases hp with rfl | ⟨rfl, _⟩
    · intro x hx
      rcases List.mem_cons.mp hx with z | z
      · omega
      · exact po_no P x z
    · simp
  have hpl : rPlace (joinQ path q) = if g = true then some (path, q) else none := by
    rcases hp with rfl | ⟨rfl, rfl⟩
    · exact place_join hno (hgood [] (by simp) rfl) (Or.inr rfl)
    · exact place_join hno (good_nil P) (Or.inl rfl)
  have hw : (joinQ path q).takeWhile inHost = [] ∧ (joinQ path q).dropWhile inHost = joinQ path q := by
    rcases hp with rfl | ⟨rfl, _⟩
    · cases q <;> simp [joinQ, inHost]
    · cases q <;> simp [joinQ, inHost]
  unfold rTarget
  have l7 : ∀ r : List Int, ((ords (schL.getD k "") ++ r).take 7) = ords (schL.getD k "") := fun r => by
    rw [← s2, List.take_left]
  have d7 : ∀ r : List Int, ((ords (schL.getD k "") ++ r).drop 7) = r := fun r => by
    rw [← s2, List.drop_left]
  have n42 : ∀ r : List Int, (ords (schL.getD k "") ++ r) ≠ [42] := fun r e => by
    have := congrArg List.length e
    rw [List.length_append, s2] at this
    simp at this
    omega
  rw [List.append_assoc, if_neg hm, if_neg (n42 _), l7, if_pos s1]
  unfold rAbs absDue
  rw [d7]
  by_cases h6 : i = 6
  · subst h6
    rw [if_pos rfl]
    have ha := host_a ⟨j, hj⟩
    simp only at ha
    rw [ha]
    have t1 : (97 :: 47 :: ords (portN' j) ++ joinQ path q).takeWhile inHost = [97] := by simp [inHost]
    have t2 : (97 :: 47 :: ords (portN' j) ++ joinQ path q).dropWhile inHost = 47 :: ords (portN' j) ++ joinQ path q := by simp [inHost]
    rw [t1, t2, auth_a]
    have hpo := port_ok ⟨j, hj⟩
    simp only at hpo
    have e : 47 :: ords (portN' j) ++ joinQ path q = joinQ (47 :: ords (portN' j) ++ path) q := by cases q <;> simp [joinQ]
    have hpre : ∀ x ∈ 47 :: ords (portN' j), isOk x = true ∧ x ≠ 37 := fun x hx => by
      rcases List.mem_cons.mp hx with z | z
      · subst z; decide
      · exact ⟨(hpo x z).1, (hpo x z).2.1⟩
    have hg : good (joinQ (47 :: ords (portN' j) ++ path) q) = g := by
      rw [← e]
      rcases hp with h | ⟨rfl, rfl⟩
      · exact hgood _ hpre h
      · have e2 : good (joinQ [] q) = true := good_nil P
        -- all signs good, and the codes too
        have a1 : (joinQ [] q).all isOk = true ∧ (decD (joinQ [] q)).isSome = true := by
          unfold good at e2
          rwa [Bool.and_eq_true] at e2
        refine good_true (fun x hx => ?_) ?_
        · rcases List.mem_append.mp hx with z | z
          · exact (hpre x z).1
          · exact List.all_eq_true.mp a1.1 x z
        · rw [decD_app _ _ fun x hx => (hpre x hx).2]
          exact a1.2
    rw [e, place_join (p := 47 :: ords (portN' j) ++ path) (q := q) (g := g) (fun x hx => by
      rcases List.mem_append.mp hx with z | z
      · rcases List.mem_cons.mp z with z | z
        · omega
        · exact (hpo x z).2.2
      · exact hno x z) hg (Or.inr rfl)]
    cases g with
    | true => simp [absV, lower_a]
    | false => simp
  · rw [if_neg h6]
    have hs := host_signs ⟨i, hi⟩ ⟨j, hj⟩ h6
    simp only at hs
    obtain ⟨t1, t2⟩ := take_all hs hw.1 hw.2
    have ah := auth_host ⟨i, hi⟩ ⟨j, hj⟩
    simp only at ah
    rw [t1, t2, ah, hpl]
    cases authDue i j with
    | none => cases g <;> rfl
    | some ap =>
      obtain ⟨a, p⟩ := ap
      cases g <;> rfl
end K57
namespace K57
open PySem L2 Cn
theorem hostV_eq (i j : Nat) : hostV i j = .tup [.str (hostN i ++ portN' j), authV (authDue i j), .bl (!(portN' j == ""))] := by rw [hostV, hostDue_eq]
theorem ht_len {i j : Nat} (hi : i < 8) (hj : j < 12) : (hostN i ++ portN' j).length ≤ 40 := by
  have h1 := host_len ⟨i, hi⟩
  have h2 := port_len ⟨j, hj⟩
  simp only at h1 h2
  have : (hostN i ++ portN' j).length = (hostN i).length + (portN' j).length := by
    simp [Str.length]
    exact Array.size_append ..
  omega
theorem ords_len (z : Str) : (ords z).length = z.length := by simp [ords, Str.length]
theorem ht_two : ∀ i : _root_.Fin 8, ∀ j : _root_.Fin 12, (cutS (hostN i.val ++ portN' j.val) none (some 2) == ("a/" : Str)) = decide (i.val = 6) := by decide +kernel
theorem ht_rest : ∀ j : _root_.Fin 12, ords (cutS (hostN 6 ++ portN' j.val) (some 1) none) = 47 :: ords (portN' j.val) := by decide +kernel
theorem ht_rlen : ∀ j : _root_.Fin 12, (cutS (hostN 6 ++ portN' j.val) (some 1) none).length ≤ 40 := by decide +kernel
theorem authDue6 (j : Nat) : authDue 6 j = none := by
  unfold authDue
  cases portVal j <;> simp
theorem f_L_absolute {c d : Nat} {ch : CH} (D : Drw c d ch) : ∃ l v ch', F_L_absolute [.ref d] ch = some (.tup [tI l, v], ch') ∧ l.length ≤ 100 ∧ (∀ m : Str, m ≠ "CONNECT" → rTarget m l = v) ∧ Drw c d ch' ∧ Keep (· = d) ch ch' := by
  obtain ⟨i, j, c1, hi, hj, e1, D1, k1⟩ := f_L_host D
  obtain ⟨row, q, g, c2, e2, P, D2, k2⟩ := f_L_place D1
  obtain ⟨lr, lq⟩ := po_len P
  obtain ⟨r, c3, e3, hr, D3, k3, l3⟩ := takeN (many := 3) D2 (by decide) (by decide)
  have e3' : F_L_take [.ref d, .int 3] c2 = some (.int (r : Int), c3) := e3
  have s4 : ∃ path, (path = 47 :: row ∨ (path = [] ∧ g = true)) ∧ ∀ (x y z : Option PV), (cIf (cTst (cBin oGt (cCl F_L_take (cCons (cVar 0) (cCons (cC (.int 3)) (cNil)))) (cC (.int 0)))) (cSet 2 (cBin oAdd (cTup (cCons (cC (.int 47)) (cNil))) (cVar 2))) (cIf (cTst (cVar 4)) (cSet 2 (cTup (cNil))) (cSet 2 (cBin oAdd (cTup (cCons (cC (.int 47)) (cNil))) (cVar 2)))))
      [some (.ref d), some (hostV i j), some (tI row), some (qV q), some (.bl g), x, y, z] c2 = some (.nx, [some (.ref d), some (hostV i j), some (tI path), some (qV q), some (.bl g), x, y, z], c3) := by
    by_cases h0 : 0 < r
    · have h0' : (0 : Int) < (r : Int) := by omega
      exact ⟨47 :: row, Or.inl rfl, fun x y z => by simp (disch := omega) [e3', h0', h0, zs]⟩
    · have h0' : ¬ ((0 : Int) < (r : Int)) := by omega
      cases g with
      | true => exact ⟨[], Or.inr ⟨rfl, rfl⟩, fun x y z => by simp (disch := omega) [e3', h0', h0, zs]⟩
      | false => exact ⟨47 :: row, Or.inl rfl, fun x y z => by simp (disch := omega) [e3', h0', h0, zs]⟩
  obtain ⟨path, hp, s4⟩ := s4
  have lp : path.length ≤ 10 := by
    rcases hp with rfl | ⟨rfl, _⟩ <;> simp
    omega
  have D3' : Drw c d (c3 ++ [.lst (schL.map PV.str)]) := D3.keep (p := fun _ => False) .app id id
  obtain ⟨k, c4, e4, hk, D4, k4, l4⟩ := takeN (many := 3) D3' (by decide) (by decide)
  have e4' : F_L_take [.ref d, .int 3] (c3 ++ [.lst [.str "http://", .str "HTTP://", .str "hTtP://"]]) = some (.int (k : Int), c4) := e4
  have g4 : lstAt c4 c3.length = some (schL.map PV.str) := k4.lst (by have := D3.lt; omega) lstAt_new
  have a4 : atI (schL.map PV.str) (k : Int) = some (.str (schL.getD k "")) := atL hk
  obtain ⟨lk1, lk2⟩ := sch_low ⟨k, hk⟩
  have hta := fun (m : Str) (hm : m ≠ "CONNECT") => target_abs hm hi hj hk P hp
  simp only at lk2
  clear lk1
  generalize schL.getD k "" = z0 at lk2 a4 hta
  obtain ⟨c5, e5, k5⟩ := f_L_octets (z := z0) (ch := c4) (by rw [← ords_len, lk2]; decide)
  have s5 : ∀ (x y z : Option PV), (cSet 5 (cCl F_L_octets (cCons (cBin oIx (cLst (cCons (cC (.str "http://")) (cCons (cC (.str "HTTP://")) (cCons (cC (.str "hTtP://")) (cNil))))) (cCl F_L_take (cCons (cVar 0) (cCons (cC (.int 3)) (cNil))))) (cNil)))) [some (.ref d), some (hostV i j), some (tI path), some (qV q), some (.bl g), x, y, z] c3 =
      some (.nx, [some (.ref d), some (hostV i j), some (tI path), some (qV q), some (.bl g), some (tI (ords (z0))), y, z], c5) := by
    intro x y z
    simp only [e_set, e_bin, e_lst, e_cons, e_c, e_nil, e_cl, e_var0, Option.bind_some, List.length_cons, List.length_nil, Nat.reduceAdd, zs (show 3 ≤ 1000000 by decide), if_true, e4', oIx_refI, g4, a4, Option.map_some, List.set_cons_zero, List.set_cons_succ, e5]
  have l1 := ht_len hi hj
  obtain ⟨c6, e6, k6⟩ := f_L_octets (z := hostN i ++ portN' j) (ch := c5) (by omega)
  have ej := f_joined (p := path) (q := q) (ch := c6) (by omega) (fun l hl => by have := lq l hl; omega)
  have q0 := fun ch => tI_nil (p := path) (ch := ch)
  have lj : (joinQ path q).length ≤ 20 := by
    cases q with
    | none => simp [joinQ]; omega
    | some l => have := lq l rfl; simp [joinQ]; omega
  have lo := ords_len (hostN i ++ portN' j)
  have D6 : Drw c d c6 := D4.keep (k5.trans k6) id id
  have K6 : Keep (· = d) ch c6 := ((k1.trans k2).trans k3).trans ((Keep.trans .app k4).trans (Grow.keep (k5.trans k6)))
  refine ⟨ords (z0) ++ ords (hostN i ++ portN' j) ++ joinQ path q, absDue i j path q g, ?_⟩
  have tw := ht_two ⟨i, hi⟩ ⟨j, hj⟩
  simp only at tw
  -- the due value ahead of the last if
  have s6 : ∃ v0, (∀ (z : Option PV), (cSeq (cSet 6 (cC .non)) (cIf (cAnd (cTst (cBin oNotN (cBin oIx (cVar 1) (cC (.int 1))) (cC .non))) (cTst (cVar 4))) (cSet 6 (cTup (cCons (cC (.str "absolute")) (cCons (cBin oIx (cBin oIx (cVar 1) (cC (.int 1))) (cC (.int 0))) (cCons (cBin oIx (cBin oIx (cVar 1) (cC (.int 1))) (cC (.int 1))) (cCons (cIfE (cTst (cBin oNe (cVar 2) (cTup (cNil)))) (cVar 2) (cTup (cCons (cC (.int 47)) (cNil)))) (cCons (cVar 3) (cNil)))))))) (cNext)))
      [some (.ref d), some (hostV i j), some (tI path), some (qV q), some (.bl g), some (tI (ords (z0))), none, z] c5 = some (.nx, [some (.ref d), some (hostV i j), some (tI path), some (qV q), some (.bl g), some (tI (ords (z0))), some v0, z], c5)) ∧
      (i ≠ 6 → v0 = absDue i j path q g) := by
    rw [hostV_eq]
    cases ha : authDue i j with
    | none => exact ⟨.non, fun z => by simp [authV], fun h6 => by unfold absDue; rw [if_neg h6, ha]⟩
    | some ap =>
      obtain ⟨a, p⟩ := ap
      cases g with
      | false => exact ⟨.non, fun z => by simp [authV], fun h6 => by unfold absDue; rw [if_neg h6, ha]; rfl⟩
      | true =>
        refine ⟨absV (Txt.lower (txt a)) p (if path = [] then [47] else path) q, fun z => ?_, fun h6 => by unfold absDue; rw [if_neg h6, ha]; rfl⟩
        by_cases hpn : path = []
        · subst hpn
          have q0' := q0 c5
          simp at q0'
          simp (disch := omega) [authV, oNe, q0', zs, absV]
        · simp (disch := omega) [authV, oNe, q0, zs, absV, hpn]
  obtain ⟨v0, s6, hv0⟩ := s6
  have s7 : ∀ v : PV, (cSet 7 (cBin oAdd (cBin oAdd (cVar 5) (cCl F_L_octets (cCons (cBin oIx (cVar 1) (cC (.int 0))) (cNil)))) (cCl F_L_joined (cCons (cVar 2) (cCons (cVar 3) (cNil)))))) [some (.ref d), some (hostV i j), some (tI path), some (qV q), some (.bl g), some (tI (ords (z0))), some v, none] c5 =
      some (.nx, [some (.ref d), some (hostV i j), some (tI path), some (qV q), some (.bl g), some (tI (ords (z0))), some v, some (tI (ords (z0) ++ ords (hostN i ++ portN' j) ++ joinQ path q))], c6) := by
    intro v
    rw [hostV_eq]
    simp (disch := omega) [e6, ej, zs]
  have s8 : ∃ c7, (cIf (cTst (cBin oEq (cSl oSl (cBin oIx (cVar 1) (cC (.int 0))) (cPoN) (cPo (cC (.int 2)))) (cC (.str "a/")))) (cSet 6 (cIfE (cTst (cVar 4)) (cTup (cCons (cC (.str "absolute")) (cCons (cC (.str "a")) (cCons (cC (.int 80)) (cCons (cBin oAdd (cCl F_L_octets (cCons (cSl oSl (cBin oIx (cVar 1) (cC (.int 0))) (cPo (cC (.int 1))) (cPoN)) (cNil))) (cVar 2)) (cCons (cVar 3) (cNil))))))) (cC .non))) (cNext))
      [some (.ref d), some (hostV i j), some (tI path), some (qV q), some (.bl g), some (tI (ords (z0))), some v0, some (tI (ords (z0) ++ ords (hostN i ++ portN' j) ++ joinQ path q))] c6 =
      some (.nx, [some (.ref d), some (hostV i j), some (tI path), some (qV q), some (.bl g), some (tI (ords (z0))), some (absDue i j path q g), some (tI (ords (z0) ++ ords (hostN i ++ portN' j) ++ joinQ path q))], c7) ∧ Grow c6 c7 := by
    have hz : (hostN i ++ portN' j).length ≤ sizeLine := zs (by omega)
    rw [hostV_eq]
    by_cases h6 : i = 6
    · subst h6
      have rl := ht_rlen ⟨j, hj⟩
      have rr := ht_rest ⟨j, hj⟩
      simp only at rl rr
      obtain ⟨c7, e7, k7⟩ := f_L_octets (z := cutS (hostN 6 ++ portN' j) (some 1) none) (ch := c6) (by omega)
      rw [rr] at e7
      have lpj := port_len ⟨j, hj⟩
      simp only at lpj
      have lpo := ords_len (portN' j)
      cases g with
      | true =>
        refine ⟨c7, ?_, k7⟩
        simp (disch := omega) [oEq, eqB_ss, tw, zs, hz, e7, absDue, absV]
      | false =>
        refine ⟨c6, ?_, .refl⟩
        simp (disch := omega) [oEq, eqB_ss, tw, zs, hz, absDue]
    · refine ⟨c6, ?_, .refl⟩
      simp [h6] at tw
      rw [hv0 h6]
      simp (disch := omega) [oEq, eqB_ss, tw, zs, hz]
  obtain ⟨c7, s8, k7⟩ := s8
  refine ⟨c7, ?_, by simp [lk2, lo]; omega, hta, D6.keep k7 id id, K6.trans k7.keep⟩
  show (b_L_absolute [some (.ref d), none, none, none, none, none, none, none] ch).bind ret1 = _
  have s1 : (cSet 1 (cCl F_L_host (cCons (cVar 0) (cNil)))) [some (.ref d), none, none, none, none, none, none, none] ch = some (.nx, [some (.ref d), some (hostV i j), none, none, none, none, none, none], c1) := by
    simp [e1]
  have s2 : (cAsg (cCl F_L_place (cCons (cVar 0) (cNil))) (gTp 3 (gsCons (gN 2) (gsCons (gN 3) (gsCons (gN 4) (gsNil)))))) [some (.ref d), some (hostV i j), none, none, none, none, none, none] c1 = some (.nx, [some (.ref d), some (hostV i j), some (tI row), some (qV q), some (.bl g), none, none, none], c2) := by
    simp [e2]
  unfold b_L_absolute
  rw [seq_nx s1, seq_nx s2, seq_nx (s4 _ _ _), seq_nx (s5 _ _ _), ← cSeq_assoc, seq_nx (s6 _), seq_nx (s7 _), seq_nx s8]
  simp (disch := omega) [zs]
end K57
namespace K57
open PySem L2 Cn
theorem isN_flat {v : PV} {ch : CH} (h : v.flat = true) : oIsN v .non ch = some (.bl (decide (v = .non)), ch) := by
  cases v <;> first | rfl | (simp [PV.flat] at h)
theorem notN_flat {v : PV} {ch : CH} (h : v.flat = true) : oNotN v .non ch = some (.bl (!decide (v = .non)), ch) := by
  cases v <;> first | rfl | (simp [PV.flat] at h)
def Fl (v : PV) : Prop := v.flat = true ∧ v.dep ≤ 10
theorem eq_self' {v : PV} {ch : CH} (h : Fl v) : eqB v v ch = some true := by
  rw [eqB_flat h.1 h.1 (Or.inl (by have := h.2; omega))]
  simp
theorem qV_fl (q : Option (List Int)) : (qV q).flat = true ∧ (qV q).dep ≤ 1 := by
  cases q with
  | none => exact ⟨rfl, by decide⟩
  | some l => simp [qV, PV.flat, PV.dep, flats_ints, deps_ints]
theorem auth_fl (a : Option (List Int × Int)) : Fl (authV a) := by
  cases a with
  | none => exact ⟨rfl, by decide⟩
  | some p => exact ⟨by simp [authV, PV.flat, PV.flats], by simp [authV, PV.dep, PV.deps]⟩
theorem target_fl (m : Str) (l : List Int) : Fl (rTarget m l) := by
  unfold rTarget
  split
  · cases rAuth l true with
    | none => exact ⟨rfl, by decide⟩
    | some p => exact ⟨by simp [PV.flat, PV.flats], by simp [PV.dep, PV.deps]⟩
  · split
    · split
      · exact ⟨rfl, by decide⟩
      · exact ⟨rfl, by decide⟩
    · split
      · unfold rAbs
        split
        · rename_i a p path q _ _
          have h := qV_fl q
          refine ⟨by simp [PV.flat, PV.flats, flats_ints, h.1], ?_⟩
          simp [PV.dep, PV.deps, deps_ints]
          omega
        · exact ⟨rfl, by decide⟩
      · cases rPlace l with
        | none => exact ⟨rfl, by decide⟩
        | some pq =>
          obtain ⟨p, q⟩ := pq
          simp only
          split
          · exact ⟨rfl, by decide⟩
          · have h := qV_fl q
            refine ⟨by simp [PV.flat, PV.flats, flats_ints, h.1], ?_⟩
            simp [PV.dep, PV.deps, deps_ints]
            omega
def methL : List Str := ["GET", "OPTIONS", "CONNECT", "get"]
def oddL : List Str := ["a", "*a", "http:/h/", "https://h/", "?a", "x/y"]
def plainT (l : List Int) : PV := if (l.take 7).map lowO = scheme then rAbs l
  else match rPlace l with
    | none => .non
    | some (p, q) => if p = [] then .non else .tup [.str "origin", tI p, qV q]
theorem odd_none : ∀ k : _root_.Fin 6, plainT (ords (oddL.getD k.val "")) = .non ∧ ords (oddL.getD k.val "") ≠ [42] ∧ (oddL.getD k.val "").length ≤ 20 := by decide +kernel
theorem s3_ok {c d : Nat} {m : Str} {x0 x2 x5 x6 x7 x8 : Option PV} {r : Nat} {ch : CH} (D : Drw c d ch) (hr : r < 6) :
    ∃ l v ch', (cIf (cTst (cBin oEq (cVar 4) (cC (.int 0)))) (cSeq (cSet 5 (cTup (cCons (cC (.int 42)) (cNil)))) (cSet 6 (cIfE (cTst (cBin oEq (cVar 3) (cC (.str "OPTIONS")))) (cTup (cCons (cC (.str "star")) (cNil))) (cC .non)))) (cIf (cTst (cBin oLt (cVar 4) (cC (.int 3)))) (cAsg (cCl F_L_origin (cCons (cVar 1) (cNil))) (gTp 2 (gsCons (gN 5) (gsCons (gN 6) (gsNil))))) (cIf (cTst (cBin oLt (cVar 4) (cC (.int 5)))) (cAsg (cCl F_L_absolute (cCons (cVar 1) (cNil))) (gTp 2 (gsCons (gN 5) (gsCons (gN 6) (gsNil))))) (cSeq (cSet 5 (cCl F_L_octets (cCons (cBin oIx (cLst (cCons (cC (.str "a")) (cCons (cC (.str "*a")) (cCons (cC (.str "http:/h/")) (cCons (cC (.str "https://h/")) (cCons (cC (.str "?a")) (cCons (cC (.str "x/y")) (cNil)))))))) (cCl F_L_take (cCons (cVar 1) (cCons (cC (.int 6)) (cNil))))) (cNil)))) (cSet 6 (cC .non))))))
      [x0, some (.ref d), x2, some (.str m), some (.int (r : Int)), x5, x6, x7, x8] ch = some (.nx, [x0, some (.ref d), x2, some (.str m), some (.int (r : Int)), some (tI l), some v, x7, x8], ch') ∧
      l.length ≤ 100 ∧ (m ≠ "CONNECT" → rTarget m l = v) ∧ Drw c d ch' ∧ Keep (· = d) ch ch' := by
  by_cases h0 : r = 0
  · subst h0
    by_cases hm : m = "OPTIONS"
    · refine ⟨[42], .tup [.str "star"], ch, ?_, by simp, fun hc => ?_, D, .refl⟩
      · simp (disch := omega) [zs, oEq, eqB_ss, eqB_ii, hm]
      · unfold rTarget
        rw [if_neg hc, if_pos rfl, if_pos hm]
    · refine ⟨[42], .non, ch, ?_, by simp, fun hc => ?_, D, .refl⟩
      · have hb : (m == "OPTIONS") = false := by simpa using hm
        simp (disch := omega) [zs, oEq, eqB_ss, eqB_ii, hb]
      · unfold rTarget
        rw [if_neg hc, if_pos rfl, if_neg hm]
  · have hb : ((r : Int) == 0) = false := by
      simp only [beq_eq_false_iff_ne, ne_eq]
      omega
    by_cases h1 : r < 3
    · obtain ⟨l, v, c1, e1, hl, ht, D1, k1⟩ := f_L_origin D
      have h1' : (r : Int) < 3 := by omega
      exact ⟨l, v, c1, by simp [hb, h1', e1], hl, ht m, D1, k1⟩
    · have h1' : ¬ ((r : Int) < 3) := by omega
      by_cases h2 : r < 5
      · obtain ⟨l, v, c1, e1, hl, ht, D1, k1⟩ := f_L_absolute D
        have h2' : (r : Int) < 5 := by omega
        exact ⟨l, v, c1, by simp [hb, h1', h2', e1], hl, ht m, D1, k1⟩
      · have h2' : ¬ ((r : Int) < 5) := by omega
        have D' : Drw c d (ch ++ [.lst (oddL.map PV.str)]) := D.keep (p := fun _ => False) .app id id
        obtain ⟨k, c1, e1, hk, D1, k1, l1⟩ := takeN (many := 6) D' (by decide) (by decide)
        have e1' : F_L_take [.ref d, .int 6] (ch ++ [.lst [.str "a", .str "*a", .str "http:/h/", .str "https://h/", .str "?a", .str "x/y"]]) = some (.int (k : Int), c1) := e1
        have g1 : lstAt c1 ch.length = some (oddL.map PV.str) := k1.lst (by have := D.lt; omega) lstAt_new
        have a1 : atI (oddL.map PV.str) (k : Int) = some (.str (oddL.getD k "")) := atL hk
        obtain ⟨o1, o2, o3⟩ := odd_none ⟨k, hk⟩
        simp only at o1 o2 o3
        generalize oddL.getD k "" = z at a1 o1 o2 o3
        obtain ⟨c2, e2, k2⟩ := f_L_octets (z := z) (ch := c1) (by omega)
        refine ⟨ords z, .non, c2, ?_, by rw [ords_len]; omega, fun hc => ?_, D1.keep k2 id id, (Keep.trans .app k1).trans k2.keep⟩
        · simp only [e_if, e_tst, e_bin, e_varS, e_var0, e_c, Option.bind_some, o_eqI, hb, e_tru, Bool.false_eq_true, if_false, o_lt, decide_eq_false h1', decide_eq_false h2', e_seq, e_set, e_cl, e_cons, e_nil, e_lst, List.length_cons, List.length_nil, Nat.reduceAdd, zs (show 6 ≤ 1000000 by decide), if_true, e1', oIx_refI, g1, a1, Option.map_some, e2, List.set_cons_zero, List.set_cons_succ, e_kSeq_nx]
        · unfold rTarget
          rw [if_neg hc, if_neg o2]
          exact o1
def last1 (T : List Int) : List Int := T.drop (T.length - 1)
theorem cut_last (T : List Int) : cutP (T.map PV.int) (some (-1)) none = (last1 T).map PV.int := by
  unfold cutP last1
  rw [HT.sIx_none]
  have e : HT.sIx (T.map PV.int).length 0 (some (-1)) = T.length - 1 := by
    unfold HT.sIx
    simp only
    rw [if_pos (by decide), List.length_map]
    omega
  rw [e, List.map_drop]
  refine List.take_of_length_le ?_
  simp
theorem last_ok : ∀ i : _root_.Fin 8, ∀ j : _root_.Fin 12, portN' j.val ≠ "" → authDue i.val j.val ≠ none → last1 (ords (hostN i.val ++ portN' j.val)) ≠ [47] := by decide +kernel
theorem last_slash (T : List Int) : last1 (T ++ [47]) = [47] := by simp [last1]
theorem eqB_47 {T : List Int} {ch : CH} : eqB (tI T) (.tup [.int 47]) ch = some (decide (T = [47])) := by
  have : eqB (tI T) (tI [47]) ch = _ := eqB_tup
  rw [show tI [47] = PV.tup [.int 47] from rfl] at this
  rw [this]
  congr 1
  by_cases h : T = [47] <;> simp [h]
def connV : Option (List Int × Int) → PV
  | none => .non
  | some (a, p) => .tup [.str "authority", .str (Txt.lower (txt a)), .int p]
theorem rT_conn {m : Str} (hm : m = "CONNECT") (l : List Int) : rTarget m l = connV (rAuth l true) := by
  unfold rTarget
  rw [if_pos hm]
  cases rAuth l true <;> rfl
abbrev s4C : CS := cIf (cTst (cBin oEq (cVar 3) (cC (.str "CONNECT")))) (cSeq (cSet 7 (cCl F_L_host (cCons (cVar 1) (cNil)))) (cSeq (cSet 5 (cBin oAdd (cCl F_L_octets (cCons (cBin oIx (cVar 7) (cC (.int 0))) (cNil))) (cIfE (cTst (cBin oGt (cCl F_L_take (cCons (cVar 1) (cCons (cC (.int 6)) (cNil)))) (cC (.int 0)))) (cTup (cNil)) (cTup (cCons (cC (.int 47)) (cNil)))))) (cSeq (cSet 6 (cC .non)) (cIf (cAnd (cTst (cBin oNotN (cBin oIx (cVar 7) (cC (.int 1))) (cC .non))) (cAnd (cTst (cBin oIx (cVar 7) (cC (.int 2)))) (cTst (cBin oNe (cSl oSl (cVar 5) (cPo (cUn oNeg (cC (.int 1)))) (cPoN)) (cTup (cCons (cC (.int 47)) (cNil))))))) (cSet 6 (cTup (cCons (cC (.str "authority")) (cCons (cBin oIx (cBin oIx (cVar 7) (cC (.int 1))) (cC (.int 0))) (cCons (cBin oIx (cBin oIx (cVar 7) (cC (.int 1))) (cC (.int 1))) (cNil)))))) (cNext))))) (cNext)
theorem s4_ok {c d : Nat} {m : Str} {x0 x2 x4 x7 x8 : Option PV} {l : List Int} {v : PV} {ch : CH} (D : Drw c d ch) (hl : l.length ≤ 100) (hv : m ≠ "CONNECT" → rTarget m l = v) :
    ∃ l' v' x7' ch', s4C [x0, some (.ref d), x2, some (.str m), x4, some (tI l), some v, x7, x8] ch = some (.nx, [x0, some (.ref d), x2, some (.str m), x4, some (tI l'), some v', x7', x8], ch') ∧
      l'.length ≤ 100 ∧ rTarget m l' = v' ∧ Drw c d ch' ∧ Keep (· = d) ch ch' := by
  by_cases hm : m = "CONNECT"
  · obtain ⟨i, j, c1, hi, hj, e1, D1, k1⟩ := f_L_host D
    have tl := ht_len hi hj
    obtain ⟨c2, e2, k2⟩ := f_L_octets (z := hostN i ++ portN' j) (ch := c1) (by omega)
    have D2 : Drw c d c2 := D1.keep k2 id id
    obtain ⟨r, c3, e3, hr, D3, k3, l3⟩ := takeN (many := 6) D2 (by decide) (by decide)
    have e3' : F_L_take [.ref d, .int 6] c2 = some (.int (r : Int), c3) := e3
    have lo := ords_len (hostN i ++ portN' j)
    have hT := fun l => rT_conn hm l
    have KK : Keep (· = d) ch c3 := (k1.trans k2.keep).trans k3
    have hmb : (m == "CONNECT") = true := by simpa using hm
    by_cases h0 : 0 < r
    · have h0' : (0 : Int) < (r : Int) := by omega
      have ac := auth_conn ⟨i, hi⟩ ⟨j, hj⟩
      have lk := last_ok ⟨i, hi⟩ ⟨j, hj⟩
      simp only at ac lk
      have cl := cut_last (ords (hostN i ++ portN' j))
      generalize hz : hostN i ++ portN' j = z at *
      have s1 : ∀ (w : Option PV), (cSeq (cSet 7 (cCl F_L_host (cCons (cVar 1) (cNil)))) (cSet 5 (cBin oAdd (cCl F_L_octets (cCons (cBin oIx (cVar 7) (cC (.int 0))) (cNil))) (cIfE (cTst (cBin oGt (cCl F_L_take (cCons (cVar 1) (cCons (cC (.int 6)) (cNil)))) (cC (.int 0)))) (cTup (cNil)) (cTup (cCons (cC (.int 47)) (cNil))))))) [x0, some (.ref d), x2, some (.str m), x4, some (tI l), some v, x7, x8] ch =
          some (.nx, [x0, some (.ref d), x2, some (.str m), x4, some (tI (ords z)), some v, some (hostV i j), x8], c3) := by
        intro _
        have e1' := e1
        rw [hostV_eq, hz] at e1'
        simp (disch := omega) [e1', e2, e3', h0', h0, zs, hostV_eq, hz]
      refine ⟨ords z, rTarget m (ords z), some (hostV i j), c3, ?_, by omega, rfl, D3, KK⟩
      simp only [s4C, e_if, e_tst, e_bin, e_varS, e_var0, e_c, Option.bind_some, o_eqS, hmb, e_tru, if_true]
      rw [← cSeq_assoc, seq_nx (s1 none), hT, ac]
      have h47 := eqB_47 (T := last1 (ords z)) (ch := c3)
      rw [hostV_eq, hz]
      by_cases hp : portN' j = ""
      · cases authDue i j with
        | none => simp [authV, connV, hp]
        | some ap =>
          obtain ⟨a, p⟩ := ap
          simp [authV, connV, hp]
      · have hpb : (portN' j == "") = false := by simpa using hp
        cases ha : authDue i j with
        | none => simp [authV, connV, hp]
        | some ap =>
          obtain ⟨a, p⟩ := ap
          have nl := lk hp (by rw [ha]; simp)
          simp (disch := omega) [authV, connV, hp, hpb, cl, oNe, h47, nl, zs]
    · have h0' : ¬ ((0 : Int) < (r : Int)) := by omega
      have ac := auth_conn2 ⟨i, hi⟩ ⟨j, hj⟩
      simp only at ac
      have cl := cut_last (ords (hostN i ++ portN' j) ++ [47])
      rw [last_slash] at cl
      generalize hz : hostN i ++ portN' j = z at *
      have s1 : ∀ (w : Option PV), (cSeq (cSet 7 (cCl F_L_host (cCons (cVar 1) (cNil)))) (cSet 5 (cBin oAdd (cCl F_L_octets (cCons (cBin oIx (cVar 7) (cC (.int 0))) (cNil))) (cIfE (cTst (cBin oGt (cCl F_L_take (cCons (cVar 1) (cCons (cC (.int 6)) (cNil)))) (cC (.int 0)))) (cTup (cNil)) (cTup (cCons (cC (.int 47)) (cNil))))))) [x0, some (.ref d), x2, some (.str m), x4, some (tI l), some v, x7, x8] ch =
          some (.nx, [x0, some (.ref d), x2, some (.str m), x4, some (tI (ords z ++ [47])), some v, some (hostV i j), x8], c3) := by
        intro _
        have e1' := e1
        rw [hostV_eq, hz] at e1'
        simp (disch := omega) [e1', e2, e3', h0', h0, zs, hostV_eq, hz]
      refine ⟨ords z ++ [47], rTarget m (ords z ++ [47]), some (hostV i j), c3, ?_, by simp; omega, rfl, D3, KK⟩
      simp only [s4C, e_if, e_tst, e_bin, e_varS, e_var0, e_c, Option.bind_some, o_eqS, hmb, e_tru, if_true]
      rw [← cSeq_assoc, seq_nx (s1 none), hT, ac]
      have h47 : eqB (.tup [.int 47]) (.tup [.int 47]) c3 = some true := eqB_47 (T := [47])
      simp at cl
      rw [hostV_eq, hz]
      cases ha : authDue i j with
      | none => simp [authV, connV]
      | some ap =>
        obtain ⟨a, p⟩ := ap
        by_cases hp : portN' j = ""
        · simp [authV, connV, hp]
        · have hpb : (portN' j == "") = false := by simpa using hp
          simp (disch := omega) [authV, connV, hpb, cl, oNe, h47, zs]
  · have hmb : (m == "CONNECT") = false := by simpa using hm
    exact ⟨l, v, x7, ch, by simp [s4C, hmb], hl, hv hm, D, .refl⟩
theorem turn_ok {c d : Nat} {x0 x2 x3 x4 x5 x6 x7 x8 : Option PV} {ch : CH} (D : Drw c d ch) : ∃ y3 y4 y5 y6 y7 y8 ch', y_law_1 [x0, some (.ref d), x2, x3, x4, x5, x6, x7, x8] ch = some (.nx, [x0, some (.ref d), x2, y3, y4, y5, y6, y7, y8], ch') ∧ Drw c d ch' := by
  have D' : Drw c d (ch ++ [.lst (methL.map PV.str)]) := D.keep (p := fun _ => False) .app id id
  obtain ⟨k, c1, e1, hk, D1, k1, l1⟩ := takeN (many := 4) D' (by decide) (by decide)
  have e1' : F_L_take [.ref d, .int 4] (ch ++ [.lst [.str "GET", .str "OPTIONS", .str "CONNECT", .str "get"]]) = some (.int (k : Int), c1) := e1
  have g1 : lstAt c1 ch.length = some (methL.map PV.str) := k1.lst (by have := D.lt; omega) lstAt_new
  have a1 : atI (methL.map PV.str) (k : Int) = some (.str (methL.getD k "")) := atL hk
  generalize methL.getD k "" = m at a1
  obtain ⟨r, c2, e2, hr, D2, k2, l2⟩ := takeN (many := 6) D1 (by decide) (by decide)
  have e2' : F_L_take [.ref d, .int 6] c1 = some (.int (r : Int), c2) := e2
  obtain ⟨l, v, c3, e3, hl, hv, D3, k3⟩ := s3_ok (m := m) (x0 := x0) (x2 := x2) (x5 := x5) (x6 := x6) (x7 := x7) (x8 := x8) D2 hr
  obtain ⟨l', v', x7', c4, e4, hl', hv', D4, k4⟩ := s4_ok (m := m) (x0 := x0) (x2 := x2) (x4 := some (.int (r : Int))) (x7 := x7) (x8 := x8) D3 hl hv
  obtain ⟨c5, e5, k5⟩ := f_read_target (m := m) (l := l') (ch := c4) (by omega)
  have D5 : Drw c d c5 := D4.keep k5 id id
  have s1 : (cSet 3 (cBin oIx (cLst (cCons (cC (.str "GET")) (cCons (cC (.str "OPTIONS")) (cCons (cC (.str "CONNECT")) (cCons (cC (.str "get")) (cNil)))))) (cCl F_L_take (cCons (cVar 1) (cCons (cC (.int 4)) (cNil)))))) [x0, some (.ref d), x2, x3, x4, x5, x6, x7, x8] ch = some (.nx, [x0, some (.ref d), x2, some (.str m), x4, x5, x6, x7, x8], c1) := by
    simp only [e_set, e_bin, e_lst, e_cons, e_c, e_nil, e_cl, e_varS, e_var0, Option.bind_some, List.length_cons, List.length_nil, Nat.reduceAdd, zs (show 4 ≤ 1000000 by decide), if_true, e1', oIx_refI, g1, a1, Option.map_some, List.set_cons_zero, List.set_cons_succ]
  have s2 : (cSet 4 (cCl F_L_take (cCons (cVar 1) (cCons (cC (.int 6)) (cNil))))) [x0, some (.ref d), x2, some (.str m), x4, x5, x6, x7, x8] c1 = some (.nx, [x0, some (.ref d), x2, some (.str m), some (.int (r : Int)), x5, x6, x7, x8], c2) := by
    simp [e2']
  have fv : Fl v' := by rw [← hv']; exact target_fl m l'
  have s5 : ∃ y8 c6, (cIf (cTst (cBin oNe (cVar 5) (cTup (cNil)))) (cSeq (cSet 8 (cCl F_read_target (cCons (cVar 3) (cCons (cVar 5) (cNil))))) (cIf (cOr (cAnd (cTst (cBin oIsN (cVar 6) (cC .non))) (cTst (cBin oNotN (cVar 8) (cC .non)))) (cAnd (cTst (cBin oNotN (cVar 6) (cC .non))) (cTst (cBin oNe (cVar 8) (cVar 6))))) (cRet (cC (.bl false))) (cNext))) (cNext))
      [x0, some (.ref d), x2, some (.str m), some (.int (r : Int)), some (tI l'), some v', x7', x8] c4 = some (.nx, [x0, some (.ref d), x2, some (.str m), some (.int (r : Int)), some (tI l'), some v', x7', y8], c6) ∧ Drw c d c6 := by
    have q0 := tI_nil (p := l') (ch := c4)
    by_cases hn : l' = []
    · subst hn
      simp at q0
      exact ⟨x8, c4, by simp (disch := omega) [oNe, q0, zs], D4⟩
    · refine ⟨some v', c5, ?_, D5⟩
      rw [hv'] at e5
      have n1 := isN_flat (ch := c5) fv.1
      have n2 := notN_flat (ch := c5) fv.1
      have n3 := eq_self' (ch := c5) fv
      by_cases hvn : v' = .non
      · subst hvn
        simp (disch := omega) [oNe, q0, hn, zs, e5]
      · simp (disch := omega) [oNe, q0, hn, zs, e5, n1, n2, n3, hvn]
  obtain ⟨y8, c6, s5, D6⟩ := s5
  obtain ⟨i, j, c7, hi, hj, e7, D7, k7⟩ := f_L_host D6
  have tl := ht_len hi hj
  obtain ⟨c8, e8, k8⟩ := f_read_host (z := hostN i ++ portN' j) (ch := c7) (by omega)
  have ah := auth_host ⟨i, hi⟩ ⟨j, hj⟩
  simp only at ah
  rw [ah] at e8
  have fa := auth_fl (authDue i j)
  have n1 := fun ch => isN_flat (ch := ch) fa.1
  have n2 := fun ch => notN_flat (ch := ch) fa.1
  have n3 := fun ch => eq_self' (ch := ch) fa
  rw [hostV_eq] at e7
  refine ⟨some (.str m), some (.int (r : Int)), some (tI l'), some v', some (.tup [.str (hostN i ++ portN' j), authV (authDue i j), .bl (!(portN' j == ""))]), some (authV (authDue i j)), c8, ?_, D7.keep k8 id id⟩
  · unfold y_law_1
    rw [seq_nx s1, seq_nx s2, seq_nx e3, seq_nx e4, seq_nx s5]
    generalize authV (authDue i j) = a at *
    by_cases hvn : a = .non
    · subst hvn
      simp [e7, e8]
    · simp [e7, e8, n1, n2, oNe, n3, hvn]
theorem turns {c d : Nat} {x0 : Option PV} : ∀ (ks : List PV) (x2 x3 x4 x5 x6 x7 x8 : Option PV) (ch : CH), Drw c d ch → ∃ σ' ch', forL okT (gN 2) y_law_1 ks [x0, some (.ref d), x2, x3, x4, x5, x6, x7, x8] ch = some (.nx, σ', ch')
  | [], x2, x3, x4, x5, x6, x7, x8, ch, D => ⟨_, ch, for_end rfl⟩
  | k :: ks, x2, x3, x4, x5, x6, x7, x8, ch, D => by
    obtain ⟨y3, y4, y5, y6, y7, y8, c1, e1, D1⟩ := turn_ok (x0 := x0) (x2 := some k) (x3 := x3) (x4 := x4) (x5 := x5) (x6 := x6) (x7 := x7) (x8 := x8) D
    obtain ⟨σ', c2, e2⟩ := turns (x0 := x0) ks (some k) y3 y4 y5 y6 y7 y8 c1 D1
    exact ⟨σ', c2, by rw [for_nx rfl (by rfl) e1, e2]⟩
theorem law_true (ns : List Int) (hn : ns.length ≤ 63) : ∃ ch', F_law [.con (ns.map PV.int)] [] = some (.bl true, ch') := by
  obtain ⟨c0, e0, D0, n0⟩ := draw_ok hn
  replace e0 : F_L_draw [.con (ns.map PV.int)] [] = some (.ref 1, c0) := e0
  obtain ⟨σ', c1, e1⟩ := turns (x0 := some (.con (ns.map PV.int))) (rng 0 3) none none none none none none none c0 D0
  refine ⟨c1, ?_⟩
  have s1 : (cSet 1 (cCl F_L_draw (cCons (cVar 0) (cNil)))) [some (.con (ns.map PV.int)), none, none, none, none, none, none, none, none] [] = some (.nx, [some (.con (ns.map PV.int)), some (.ref 1), none, none, none, none, none, none, none], c0) := by
    simp only [e_set, e_cl, e_cons, e_var0, e_nil, Option.bind_some, e0, List.set_cons_zero, List.set_cons_succ]
  have s2 : (cFor (ciR1 (cCons (cC (.int 3)) (cNil))) (gN 2) (y_law_1)) [some (.con (ns.map PV.int)), some (.ref 1), none, none, none, none, none, none, none] c0 = some (.nx, σ', c1) := by
    rw [for_range (n := 3) (ch1 := c0) rfl (by omega)]
    exact e1
  show (b_law [some (.con (ns.map PV.int)), none, none, none, none, none, none, none, none] []).bind ret1 = _
  unfold b_law
  rw [seq_nx s1, seq_nx s2]
  rfl
end K57
namespace K57
open PySem L2 Cn
structure Tx (K : PySem.W.Frag) (mg : Str → Option Value) where
  f_L_take : Addr
  d_L_take : FuncData
  u_L_take : Fun K "_law_take" "_law_take" s_L_take f_L_take d_L_take
  k_L_take : PySem.W.keepIn K (.ref f_L_take) = true
  b_L_take : Binds K d_L_take ["_law_draw_here", "_law_many"] []
  m_L_take : mg "_law_take" = some (.ref f_L_take)
  f_L_host : Addr
  d_L_host : FuncData
  u_L_host : Fun K "_law_host" "_law_host" s_L_host f_L_host d_L_host
  k_L_host : PySem.W.keepIn K (.ref f_L_host) = true
  b_L_host : Binds K d_L_host ["_law_draw_here"] []
  m_L_host : mg "_law_host" = some (.ref f_L_host)
  f_L_joined : Addr
  d_L_joined : FuncData
  u_L_joined : Fun K "_law_joined" "_law_joined" s_L_joined f_L_joined d_L_joined
  k_L_joined : PySem.W.keepIn K (.ref f_L_joined) = true
  b_L_joined : Binds K d_L_joined ["_law_path", "_law_query"] []
  m_L_joined : mg "_law_joined" = some (.ref f_L_joined)
  f_L_octets : Addr
  d_L_octets : FuncData
  u_L_octets : Fun K "_law_octets" "_law_octets" s_L_octets f_L_octets d_L_octets
  k_L_octets : PySem.W.keepIn K (.ref f_L_octets) = true
  b_L_octets : Binds K d_L_octets ["_law_text"] []
  m_L_octets : mg "_law_octets" = some (.ref f_L_octets)
  f_L_place : Addr
  d_L_place : FuncData
  u_L_place : Fun K "_law_place" "_law_place" s_L_place f_L_place d_L_place
  k_L_place : PySem.W.keepIn K (.ref f_L_place) = true
  b_L_place : Binds K d_L_place ["_law_draw_here"] []
  m_L_place : mg "_law_place" = some (.ref f_L_place)
  f_L_absolute : Addr
  d_L_absolute : FuncData
  u_L_absolute : Fun K "_law_absolute" "_law_absolute" s_L_absolute f_L_absolute d_L_absolute
  k_L_absolute : PySem.W.keepIn K (.ref f_L_absolute) = true
  b_L_absolute : Binds K d_L_absolute ["_law_draw_here"] []
  m_L_absolute : mg "_law_absolute" = some (.ref f_L_absolute)
  f_L_draw : Addr
  d_L_draw : FuncData
  u_L_draw : Fun K "_law_draw" "_law_draw" s_L_draw f_L_draw d_L_draw
  k_L_draw : PySem.W.keepIn K (.ref f_L_draw) = true
  b_L_draw : Binds K d_L_draw ["_law_script"] []
  m_L_draw : mg "_law_draw" = some (.ref f_L_draw)
  f_L_origin : Addr
  d_L_origin : FuncData
  u_L_origin : Fun K "_law_origin" "_law_origin" s_L_origin f_L_origin d_L_origin
  k_L_origin : PySem.W.keepIn K (.ref f_L_origin) = true
  b_L_origin : Binds K d_L_origin ["_law_draw_here"] []
  m_L_origin : mg "_law_origin" = some (.ref f_L_origin)
  f_cut_at : Addr
  d_cut_at : FuncData
  u_cut_at : Fun K "cut_at" "cut_at" s_cut_at f_cut_at d_cut_at
  k_cut_at : PySem.W.keepIn K (.ref f_cut_at) = true
  b_cut_at : Binds K d_cut_at ["octets", "mark"] []
  m_cut_at : mg "cut_at" = some (.ref f_cut_at)
  f_is_digit : Addr
  d_is_digit : FuncData
  u_is_digit : Fun K "is_digit" "is_digit" s_is_digit f_is_digit d_is_digit
  k_is_digit : PySem.W.keepIn K (.ref f_is_digit) = true
  b_is_digit : Binds K d_is_digit ["octet"] []
  m_is_digit : mg "is_digit" = some (.ref f_is_digit)
  f_is_letter : Addr
  d_is_letter : FuncData
  u_is_letter : Fun K "is_letter" "is_letter" s_is_letter f_is_letter d_is_letter
  k_is_letter : PySem.W.keepIn K (.ref f_is_letter) = true
  b_is_letter : Binds K d_is_letter ["octet"] []
  m_is_letter : mg "is_letter" = some (.ref f_is_letter)
  f_lower : Addr
  d_lower : FuncData
  u_lower : Fun K "lower" "lower" s_lower f_lower d_lower
  k_lower : PySem.W.keepIn K (.ref f_lower) = true
  b_lower : Binds K d_lower ["text"] []
  m_lower : mg "lower" = some (.ref f_lower)
  f_read_port : Addr
  d_read_port : FuncData
  u_read_port : Fun K "read_port" "read_port" s_read_port f_read_port d_read_port
  k_read_port : PySem.W.keepIn K (.ref f_read_port) = true
  b_read_port : Binds K d_read_port ["octets"] []
  m_read_port : mg "read_port" = some (.ref f_read_port)
  f_is_value_sign : Addr
  d_is_value_sign : FuncData
  u_is_value_sign : Fun K "is_value_sign" "is_value_sign" s_is_value_sign f_is_value_sign d_is_value_sign
  k_is_value_sign : PySem.W.keepIn K (.ref f_is_value_sign) = true
  b_is_value_sign : Binds K d_is_value_sign ["octet"] []
  m_is_value_sign : mg "is_value_sign" = some (.ref f_is_value_sign)
  f_sign_of : Addr
  d_sign_of : FuncData
  u_sign_of : Fun K "sign_of" "sign_of" s_sign_of f_sign_of d_sign_of
  k_sign_of : PySem.W.keepIn K (.ref f_sign_of) = true
  b_sign_of : Binds K d_sign_of ["octet"] []
  m_sign_of : mg "sign_of" = some (.ref f_sign_of)
  f_to_text : Addr
  d_to_text : FuncData
  u_to_text : Fun K "to_text" "to_text" s_to_text f_to_text d_to_text
  k_to_text : PySem.W.keepIn K (.ref f_to_text) = true
  b_to_text : Binds K d_to_text ["octets"] []
  m_to_text : mg "to_text" = some (.ref f_to_text)
  f_read_authority : Addr
  d_read_authority : FuncData
  u_read_authority : Fun K "read_authority" "read_authority" s_read_authority f_read_authority d_read_authority
  k_read_authority : PySem.W.keepIn K (.ref f_read_authority) = true
  b_read_authority : Binds K d_read_authority ["octets", "needs_port"] []
  m_read_authority : mg "read_authority" = some (.ref f_read_authority)
  f_to_octets : Addr
  d_to_octets : FuncData
  u_to_octets : Fun K "to_octets" "to_octets" s_to_octets f_to_octets d_to_octets
  k_to_octets : PySem.W.keepIn K (.ref f_to_octets) = true
  b_to_octets : Binds K d_to_octets ["text"] []
  m_to_octets : mg "to_octets" = some (.ref f_to_octets)
  f_read_host : Addr
  d_read_host : FuncData
  u_read_host : Fun K "read_host" "read_host" s_read_host f_read_host d_read_host
  k_read_host : PySem.W.keepIn K (.ref f_read_host) = true
  b_read_host : Binds K d_read_host ["value"] []
  m_read_host : mg "read_host" = some (.ref f_read_host)
  f_lower_octet : Addr
  d_lower_octet : FuncData
  u_lower_octet : Fun K "lower_octet" "lower_octet" s_lower_octet f_lower_octet d_lower_octet
  k_lower_octet : PySem.W.keepIn K (.ref f_lower_octet) = true
  b_lower_octet : Binds K d_lower_octet ["octet"] []
  m_lower_octet : mg "lower_octet" = some (.ref f_lower_octet)
  f_hex_digit : Addr
  d_hex_digit : FuncData
  u_hex_digit : Fun K "hex_digit" "hex_digit" s_hex_digit f_hex_digit d_hex_digit
  k_hex_digit : PySem.W.keepIn K (.ref f_hex_digit) = true
  b_hex_digit : Binds K d_hex_digit ["octet"] []
  m_hex_digit : mg "hex_digit" = some (.ref f_hex_digit)
  f_code_at : Addr
  d_code_at : FuncData
  u_code_at : Fun K "code_at" "code_at" s_code_at f_code_at d_code_at
  k_code_at : PySem.W.keepIn K (.ref f_code_at) = true
  b_code_at : Binds K d_code_at ["octets", "at"] []
  m_code_at : mg "code_at" = some (.ref f_code_at)
  f_decode : Addr
  d_decode : FuncData
  u_decode : Fun K "decode" "decode" s_decode f_decode d_decode
  k_decode : PySem.W.keepIn K (.ref f_decode) = true
  b_decode : Binds K d_decode ["octets"] []
  m_decode : mg "decode" = some (.ref f_decode)
  f_is_good : Addr
  d_is_good : FuncData
  u_is_good : Fun K "is_good" "is_good" s_is_good f_is_good d_is_good
  k_is_good : PySem.W.keepIn K (.ref f_is_good) = true
  b_is_good : Binds K d_is_good ["octets"] []
  m_is_good : mg "is_good" = some (.ref f_is_good)
  f_read_place : Addr
  d_read_place : FuncData
  u_read_place : Fun K "read_place" "read_place" s_read_place f_read_place d_read_place
  k_read_place : PySem.W.keepIn K (.ref f_read_place) = true
  b_read_place : Binds K d_read_place ["octets"] []
  m_read_place : mg "read_place" = some (.ref f_read_place)
  f_read_absolute : Addr
  d_read_absolute : FuncData
  u_read_absolute : Fun K "read_absolute" "read_absolute" s_read_absolute f_read_absolute d_read_absolute
  k_read_absolute : PySem.W.keepIn K (.ref f_read_absolute) = true
  b_read_absolute : Binds K d_read_absolute ["target"] []
  m_read_absolute : mg "read_absolute" = some (.ref f_read_absolute)
  f_read_target : Addr
  d_read_target : FuncData
  u_read_target : Fun K "read_target" "read_target" s_read_target f_read_target d_read_target
  k_read_target : PySem.W.keepIn K (.ref f_read_target) = true
  b_read_target : Binds K d_read_target ["method", "target"] []
  m_read_target : mg "read_target" = some (.ref f_read_target)
  f_law : Addr
  d_law : FuncData
  u_law : Fun K "law" "law" s_law f_law d_law
  k_law : PySem.W.keepIn K (.ref f_law) = true
  b_law : Binds K d_law ["_law_script"] []
  m_law : mg "law" = some (.ref f_law)
  n_abs : mg "abs" = none
  n_enumerate : mg "enumerate" = none
  n_int : mg "int" = none
  n_len : mg "len" = none
  n_ord : mg "ord" = none
  n_range : mg "range" = none
  n_tuple : mg "tuple" = none
  g_COLON : ∃ (w : V) (u : Value), mg "COLON" = some u ∧ RelV w u ∧ ∀ m H, RV K m H v_COLON w
  g_PERCENT_octets : ∃ (w : V) (u : Value), mg "PERCENT_octets" = some u ∧ RelV w u ∧ ∀ m H, RV K m H v_PERCENT_octets w
  g_PERCENT_targets : ∃ (w : V) (u : Value), mg "PERCENT_targets" = some u ∧ RelV w u ∧ ∀ m H, RV K m H v_PERCENT_targets w
  g_QUESTION : ∃ (w : V) (u : Value), mg "QUESTION" = some u ∧ RelV w u ∧ ∀ m H, RV K m H v_QUESTION w
  g_SCHEME : ∃ (w : V) (u : Value), mg "SCHEME" = some u ∧ RelV w u ∧ ∀ m H, RV K m H v_SCHEME w
  g_SIGNS : ∃ (w : V) (u : Value), mg "SIGNS" = some u ∧ RelV w u ∧ ∀ m H, RV K m H v_SIGNS w
  g_SLASH : ∃ (w : V) (u : Value), mg "SLASH" = some u ∧ RelV w u ∧ ∀ m H, RV K m H v_SLASH w
  g_TAB : ∃ (w : V) (u : Value), mg "TAB" = some u ∧ RelV w u ∧ ∀ m H, RV K m H v_TAB w
abbrev Tx.cl {K : PySem.W.Frag} {mg : Str → Option Value} (T : Tx K mg) : List CT := []
section
variable {P : Program} {w : World} {K : PySem.W.Frag} {mg : Str → Option Value} {base : Heap} (T : Tx K mg)
theorem sc_L_take : FnScope ["_law_draw_here", "_law_many", "_law_found"] ["_law_draw_here", "_law_many"] (defScope s_L_take) := ⟨rfl, rfl, rfl, by decide +kernel, rfl, by decide +kernel, by decide +kernel⟩
theorem ok_L_take : FnOk P w K mg base CX0 1 T.f_L_take T.d_L_take ["_law_draw_here", "_law_many"] (spC K T.cl 2 F_L_take) := by
  refine fn_body T.u_L_take sc_L_take (fun cdv A outer s H E hr => ?_)
  have hu := room_hu hr
  exact (ss_cons (ss_if (st_cmp (op_eqP hu) s_eq (se_ix (ix_any hu) s_ix (se_var 0) se_int) se_int (nomark _)) (ss_cons (ss_asg (se_bin op_addA s_add (se_ix (ix_any hu) s_ix (se_var 0) se_int) se_int) (sg_sub (set_any hu) s_set (se_var 0) se_int)) (ss_cons (ss_if (st_cmp op_lt s_lt (se_ix (ix_any hu) s_ix (se_var 0) se_int) (se_cl call_lenA s_len T.n_len (by decide +kernel) (sa_cons (se_ix (ix_any hu) s_ix (se_var 0) se_int) sa_nil)) (nomark _)) (ss_one (ss_asg (se_ix (ix_any hu) s_ix (se_ix (ix_any hu) s_ix (se_var 0) se_int) (se_ix (ix_any hu) s_ix (se_var 0) se_int)) (sg_sub (set_any hu) s_set (se_var 0) se_int))) ss_nil) (ss_one (ss_if (st_cmp (op_eqP hu) s_eq (se_ix (ix_any hu) s_ix (se_var 0) se_int) se_int (nomark _)) (ss_cons (ss_asg (se_bin op_mod s_mod (se_clT call_intA s_int T.n_int (by decide +kernel) (sa_cons (se_bin op_addA s_add (se_bin op_mulA s_mul (se_ix (ix_any hu) s_ix (se_var 0) se_int) se_int) se_int) sa_nil)) se_int) (sg_sub (set_any hu) s_set (se_var 0) se_int)) (ss_one (ss_asg (se_ix (ix_any hu) s_ix (se_var 0) se_int) (sg_sub (set_any hu) s_set (se_var 0) se_int)))) ss_nil)))) ss_nil) (ss_cons (ss_set 2 sc_L_take.nd (se_bin op_mod s_mod (se_clT call_intA s_int T.n_int (by decide +kernel) (sa_cons (se_ix (ix_any hu) s_ix (se_var 0) se_int) sa_nil)) (se_var 1))) (ss_cons (ss_asg (se_bin op_fdiv s_div (se_ix (ix_any hu) s_ix (se_var 0) se_int) (se_var 1)) (sg_sub (set_any hu) s_set (se_var 0) se_int)) (ss_one (ss_ret (se_var 2))))))
theorem sc_L_host : FnScope ["_law_draw_here", "_law_host_here", "_law_port", "_law_good"] ["_law_draw_here"] (defScope s_L_host) := ⟨rfl, rfl, rfl, by decide +kernel, rfl, by decide +kernel, by decide +kernel⟩
theorem ok_L_host : FnOk P w K mg base CX0 2 T.f_L_host T.d_L_host ["_law_draw_here"] (spC K T.cl 1 F_L_host) := by
  refine fn_body T.u_L_host sc_L_host (fun cdv A outer s H E hr => ?_)
  have hu := room_hu hr
  exact (ss_cons (ss_set 1 sc_L_host.nd (se_ix (ix_any hu) s_ix (se_lst (sa_cons se_str (sa_cons se_str (sa_cons se_str (sa_cons (se_bin op_mulA s_mul se_str se_int) (sa_cons se_str (sa_cons se_str (sa_cons se_str (sa_cons se_str sa_nil))))))))) (se_call (ok_L_take T) runF_len (hr.mono (by decide)) T.m_L_take T.k_L_take T.b_L_take (sa_cons (se_var 0) (sa_cons se_int sa_nil))))) (ss_cons (ss_set 2 sc_L_host.nd (se_ix (ix_any hu) s_ix (se_lst (sa_cons se_str (sa_cons se_str (sa_cons se_str (sa_cons se_str (sa_cons se_str (sa_cons se_str (sa_cons se_str (sa_cons se_str (sa_cons se_str (sa_cons se_str (sa_cons se_str (sa_cons se_str sa_nil))))))))))))) (se_call (ok_L_take T) runF_len (hr.mono (by decide)) T.m_L_take T.k_L_take T.b_L_take (sa_cons (se_var 0) (sa_cons se_int sa_nil))))) (ss_cons (ss_set 3 sc_L_host.nd (se_disp (sps_cons se_str se_int (sps_cons se_str se_int (sps_cons se_str se_int (sps_cons se_str se_int (sps_cons se_str se_int sps_nil))))))) (ss_cons (ss_if (SW.st (sw_or (st_cmp (op_inP hu) s_in (se_var 1) (se_lst (sa_cons se_str (sa_cons se_str (sa_cons se_str sa_nil)))) (by rfl)) (sw_or1 (st_cmp (op_notInP hu) s_notIn (se_var 2) (se_var 3) (by rfl))))) (ss_one (ss_ret (se_tup (sa_cons (se_bin op_addA s_add (se_var 1) (se_var 2)) (sa_cons se_non (sa_cons (se_cmp (op_neP hu) s_ne (se_var 2) se_str (nomark _)) sa_nil)))))) ss_nil) (ss_one (ss_ret (se_tup (sa_cons (se_bin op_addA s_add (se_var 1) (se_var 2)) (sa_cons (se_tup (sa_cons (se_bm0 PySem.F.plainAttrs_str PySem.F.slot_str_lower PySem.F.type_str_lower mt_lower s_str0 (se_var 1)) (sa_cons (se_ix (ix_any hu) s_ix (se_var 3) (se_var 2)) sa_nil))) (sa_cons (se_cmp (op_neP hu) s_ne (se_var 2) se_str (nomark _)) sa_nil))))))))))
theorem sc_L_joined : FnScope ["_law_path", "_law_query"] ["_law_path", "_law_query"] (defScope s_L_joined) := ⟨rfl, rfl, rfl, by decide +kernel, rfl, by decide +kernel, by decide +kernel⟩
theorem ok_L_joined : FnOk P w K mg base CX0 1 T.f_L_joined T.d_L_joined ["_law_path", "_law_query"] (spC K T.cl 2 F_L_joined) := by
  refine fn_body T.u_L_joined sc_L_joined (fun cdv A outer s H E hr => ?_)
  have hu := room_hu hr
  exact (ss_one (ss_ret (se_ifE (st_cmp op_isN s_isN (se_var 1) se_non (nomark _)) (se_var 0) (se_bin op_addA s_add (se_bin op_addA s_add (se_var 0) (se_tup (sa_cons se_int sa_nil))) (se_var 1)))))
theorem sc_L_octets : FnScope ["_law_text", "_law_sign"] ["_law_text"] (defScope s_L_octets) := ⟨rfl, rfl, rfl, by decide +kernel, rfl, by decide +kernel, by decide +kernel⟩
theorem ok_L_octets : FnOk P w K mg base CX0 1 T.f_L_octets T.d_L_octets ["_law_text"] (spC K T.cl 1 F_L_octets) := by
  refine fn_body T.u_L_octets sc_L_octets (fun cdv A outer s H E hr => ?_)
  have hu := room_hu hr
  exact (ss_one (ss_ret (se_clT call_tuple_F s_tupC T.n_tuple (by decide +kernel) (sa_cons (se_lc (own := [("_law_sign", 1)]) 1 rfl sc_L_octets.nd (si_seq (se_var 0)) (blkOk_by (own := [("_law_sign", 1)]) (N := ["_law_text", "_law_sign"]) (sc := defScope s_L_octets) (by decide +kernel)) (fun _ _ _ _ _ => pg_name (i := 1) sc_L_octets.nd rfl (Or.inl rfl)) (fun _ _ _ _ _ => sts_nil) (fun _ _ _ _ _ => (se_cl call_ord s_ord T.n_ord (by decide +kernel) (sa_cons (se_var 1) sa_nil)))) sa_nil))))
theorem sc_L_place : FnScope ["_law_draw_here", "_law_good", "_law_row", "_law_query", "_law_bad", "_law_k"] ["_law_draw_here"] (defScope s_L_place) := ⟨rfl, rfl, rfl, by decide +kernel, rfl, by decide +kernel, by decide +kernel⟩
theorem ok_L_place : FnOk P w K mg base CX0 2 T.f_L_place T.d_L_place ["_law_draw_here"] (spC K T.cl 1 F_L_place) := by
  refine fn_body T.u_L_place sc_L_place (fun cdv A outer s H E hr => ?_)
  have hu := room_hu hr
  exact (ss_cons (ss_set 1 sc_L_place.nd se_bl) (ss_cons (ss_setLc (own := [("_law_k", 5)]) 2 5 rfl sc_L_place.nd (sw_true rfl rfl rfl (by decide +kernel)) (si_range1 T.n_range (sa_cons (se_call (ok_L_take T) runF_len (hr.mono (by decide)) T.m_L_take T.k_L_take T.b_L_take (sa_cons (se_var 0) (sa_cons se_int sa_nil))) sa_nil)) (blkOk_by (own := [("_law_k", 5)]) (N := ["_law_draw_here", "_law_good", "_law_row", "_law_query", "_law_bad", "_law_k"]) (sc := defScope s_L_place) (by decide +kernel)) (fun _ _ _ _ _ => pg_name (i := 5) sc_L_place.nd rfl (Or.inl rfl)) (fun _ _ _ _ _ => sts_nil) (fun _ _ _ _ _ => (se_cl call_ord s_ord T.n_ord (by decide +kernel) (sa_cons (se_ix (ix_any hu) s_ix se_str (se_call (ok_L_take T) runF_len (hr.mono (by decide)) T.m_L_take T.k_L_take T.b_L_take (sa_cons (se_var 0) (sa_cons se_int sa_nil)))) sa_nil)))) (ss_cons (ss_if (st_cmp (op_eqP hu) s_eq (se_call (ok_L_take T) runF_len (hr.mono (by decide)) T.m_L_take T.k_L_take T.b_L_take (sa_cons (se_var 0) (sa_cons se_int sa_nil))) se_int (nomark _)) (ss_one (ss_set 2 sc_L_place.nd (se_bin op_addA s_add (se_var 2) (se_lst (sa_cons se_int (sa_cons se_int (sa_cons se_int sa_nil))))))) ss_nil) (ss_cons (ss_set 3 sc_L_place.nd se_non) (ss_cons (ss_if (st_cmp (op_eqP hu) s_eq (se_call (ok_L_take T) runF_len (hr.mono (by decide)) T.m_L_take T.k_L_take T.b_L_take (sa_cons (se_var 0) (sa_cons se_int sa_nil))) se_int (nomark _)) (ss_one (ss_setLc (own := [("_law_k", 5)]) 3 5 rfl sc_L_place.nd (sw_true rfl rfl rfl (by decide +kernel)) (si_range1 T.n_range (sa_cons (se_call (ok_L_take T) runF_len (hr.mono (by decide)) T.m_L_take T.k_L_take T.b_L_take (sa_cons (se_var 0) (sa_cons se_int sa_nil))) sa_nil)) (blkOk_by (own := [("_law_k", 5)]) (N := ["_law_draw_here", "_law_good", "_law_row", "_law_query", "_law_bad", "_law_k"]) (sc := defScope s_L_place) (by decide +kernel)) (fun _ _ _ _ _ => pg_name (i := 5) sc_L_place.nd rfl (Or.inl rfl)) (fun _ _ _ _ _ => sts_nil) (fun _ _ _ _ _ => (se_cl call_ord s_ord T.n_ord (by decide +kernel) (sa_cons (se_ix (ix_any hu) s_ix se_str (se_call (ok_L_take T) runF_len (hr.mono (by decide)) T.m_L_take T.k_L_take T.b_L_take (sa_cons (se_var 0) (sa_cons se_int sa_nil)))) sa_nil))))) ss_nil) (ss_cons (ss_if (st_cmp (op_eqP hu) s_eq (se_call (ok_L_take T) runF_len (hr.mono (by decide)) T.m_L_take T.k_L_take T.b_L_take (sa_cons (se_var 0) (sa_cons se_int sa_nil))) se_int (nomark _)) (ss_cons (ss_set 1 sc_L_place.nd se_bl) (ss_cons (ss_set 4 sc_L_place.nd (se_ix (ix_any hu) s_ix (se_lst (sa_cons se_int (sa_cons se_int (sa_cons se_int (sa_cons se_int (sa_cons se_int (sa_cons se_int sa_nil))))))) (se_call (ok_L_take T) runF_len (hr.mono (by decide)) T.m_L_take T.k_L_take T.b_L_take (sa_cons (se_var 0) (sa_cons se_int sa_nil))))) (ss_one (ss_if (SW.st (sw_and (st_cmp op_notN s_notN (se_var 3) se_non (nomark _)) (sw_and1 (st_cmp (op_eqP hu) s_eq (se_call (ok_L_take T) runF_len (hr.mono (by decide)) T.m_L_take T.k_L_take T.b_L_take (sa_cons (se_var 0) (sa_cons se_int sa_nil))) se_int (nomark _))))) (ss_one (ss_set 3 sc_L_place.nd (se_bin op_addA s_add (se_var 3) (se_lst (sa_cons (se_var 4) sa_nil))))) (ss_one (ss_set 2 sc_L_place.nd (se_bin op_addA s_add (se_var 2) (se_lst (sa_cons (se_var 4) sa_nil))))))))) ss_nil) (ss_one (ss_ret (se_tup (sa_cons (se_clT call_tuple_F s_tupC T.n_tuple (by decide +kernel) (sa_cons (se_var 2) sa_nil)) (sa_cons (se_ifE (st_cmp op_isN s_isN (se_var 3) se_non (nomark _)) se_non (se_clT call_tuple_F s_tupC T.n_tuple (by decide +kernel) (sa_cons (se_var 3) sa_nil))) (sa_cons (se_var 1) sa_nil))))))))))))
theorem sc_L_absolute : FnScope ["_law_draw_here", "_law_host_here", "_law_path", "_law_query", "_law_good", "_law_scheme", "_law_due", "_law_target"] ["_law_draw_here"] (defScope s_L_absolute) := ⟨rfl, rfl, rfl, by decide +kernel, rfl, by decide +kernel, by decide +kernel⟩
theorem ok_L_absolute : FnOk P w K mg base CX0 3 T.f_L_absolute T.d_L_absolute ["_law_draw_here"] (spC K T.cl 1 F_L_absolute) := by
  refine fn_body T.u_L_absolute sc_L_absolute (fun cdv A outer s H E hr => ?_)
  have hu := room_hu hr
  exact (ss_cons (ss_set 1 sc_L_absolute.nd (se_call (ok_L_host T) runF_len (hr.mono (by decide)) T.m_L_host T.k_L_host T.b_L_host (sa_cons (se_var 0) sa_nil))) (ss_cons (ss_asg (se_call (ok_L_place T) runF_len (hr.mono (by decide)) T.m_L_place T.k_L_place T.b_L_place (sa_cons (se_var 0) sa_nil)) (sg_tup rfl (sgs_cons (sg_name 2 sc_L_absolute.nd) (sgs_cons (sg_name 3 sc_L_absolute.nd) (sgs_cons (sg_name 4 sc_L_absolute.nd) sgs_nil))))) (ss_cons (ss_if (st_cmp op_gt s_gt (se_call (ok_L_take T) runF_len (hr.mono (by decide)) T.m_L_take T.k_L_take T.b_L_take (sa_cons (se_var 0) (sa_cons se_int sa_nil))) se_int (nomark _)) (ss_one (ss_set 2 sc_L_absolute.nd (se_bin op_addA s_add (se_tup (sa_cons se_int sa_nil)) (se_var 2)))) (ss_one (ss_if (st_val (se_var 4)) (ss_one (ss_set 2 sc_L_absolute.nd (se_tup sa_nil))) (ss_one (ss_set 2 sc_L_absolute.nd (se_bin op_addA s_add (se_tup (sa_cons se_int sa_nil)) (se_var 2))))))) (ss_cons (ss_set 5 sc_L_absolute.nd (se_call (ok_L_octets T) runF_len (hr.mono (by decide)) T.m_L_octets T.k_L_octets T.b_L_octets (sa_cons (se_ix (ix_any hu) s_ix (se_lst (sa_cons se_str (sa_cons se_str (sa_cons se_str sa_nil)))) (se_call (ok_L_take T) runF_len (hr.mono (by decide)) T.m_L_take T.k_L_take T.b_L_take (sa_cons (se_var 0) (sa_cons se_int sa_nil)))) sa_nil))) (ss_cons (ss_set 6 sc_L_absolute.nd se_non) (ss_cons (ss_if (SW.st (sw_and (st_cmp op_notN s_notN (se_ix (ix_any hu) s_ix (se_var 1) se_int) se_non (nomark _)) (sw_and1 (st_val (se_var 4))))) (ss_one (ss_set 6 sc_L_absolute.nd (se_tup (sa_cons se_str (sa_cons (se_ix (ix_any hu) s_ix (se_ix (ix_any hu) s_ix (se_var 1) se_int) se_int) (sa_cons (se_ix (ix_any hu) s_ix (se_ix (ix_any hu) s_ix (se_var 1) se_int) se_int) (sa_cons (se_ifE (st_cmp (op_neP hu) s_ne (se_var 2) (se_tup sa_nil) (nomark _)) (se_var 2) (se_tup (sa_cons se_int sa_nil))) (sa_cons (se_var 3) sa_nil)))))))) ss_nil) (ss_cons (ss_set 7 sc_L_absolute.nd (se_bin op_addA s_add (se_bin op_addA s_add (se_var 5) (se_call (ok_L_octets T) runF_len (hr.mono (by decide)) T.m_L_octets T.k_L_octets T.b_L_octets (sa_cons (se_ix (ix_any hu) s_ix (se_var 1) se_int) sa_nil))) (se_call (ok_L_joined T) runF_len (hr.mono (by decide)) T.m_L_joined T.k_L_joined T.b_L_joined (sa_cons (se_var 2) (sa_cons (se_var 3) sa_nil))))) (ss_cons (ss_if (st_cmp (op_eqP hu) s_eq (se_sl sl_any s_sl (se_ix (ix_any hu) s_ix (se_var 1) se_int) spo_none (spo_some se_int)) se_str (nomark _)) (ss_one (ss_set 6 sc_L_absolute.nd (se_ifE (st_val (se_var 4)) (se_tup (sa_cons se_str (sa_cons se_str (sa_cons se_int (sa_cons (se_bin op_addA s_add (se_call (ok_L_octets T) runF_len (hr.mono (by decide)) T.m_L_octets T.k_L_octets T.b_L_octets (sa_cons (se_sl sl_any s_sl (se_ix (ix_any hu) s_ix (se_var 1) se_int) (spo_some se_int) spo_none) sa_nil)) (se_var 2)) (sa_cons (se_var 3) sa_nil)))))) se_non))) ss_nil) (ss_one (ss_ret (se_tup (sa_cons (se_var 7) (sa_cons (se_var 6) sa_nil)))))))))))))
theorem sc_L_draw : FnScope ["_law_script", "_law_seed", "_law_cell"] ["_law_script"] (defScope s_L_draw) := ⟨rfl, rfl, rfl, by decide +kernel, rfl, by decide +kernel, by decide +kernel⟩
theorem ok_L_draw : FnOk P w K mg base CX0 1 T.f_L_draw T.d_L_draw ["_law_script"] (spC K T.cl 1 F_L_draw) := by
  refine fn_body T.u_L_draw sc_L_draw (fun cdv A outer s H E hr => ?_)
  have hu := room_hu hr
  exact (ss_cons (ss_set 1 sc_L_draw.nd se_int) (ss_cons (ss_for PassesOwn.never rfl (si_seq (se_var 0)) (sg_name 2 sc_L_draw.nd) (ss_one (ss_set 1 sc_L_draw.nd (se_bin op_mod s_mod (se_clT call_intA s_int T.n_int (by decide +kernel) (sa_cons (se_bin op_addA s_add (se_bin op_addA s_add (se_bin op_mulA s_mul (se_var 1) se_int) (se_bin op_mod s_mod (se_cl call_abs s_abs T.n_abs (by decide +kernel) (sa_cons (se_clT call_intA s_int T.n_int (by decide +kernel) (sa_cons (se_var 2) sa_nil)) sa_nil)) se_int)) se_int) sa_nil)) se_int)))) (ss_one (ss_ret (se_lst (sa_cons (se_lc (own := [("_law_cell", 2)]) 2 rfl sc_L_draw.nd (si_seq (se_var 0)) (blkOk_by (own := [("_law_cell", 2)]) (N := ["_law_script", "_law_seed", "_law_cell"]) (sc := defScope s_L_draw) (by decide +kernel)) (fun _ _ _ _ _ => pg_name (i := 2) sc_L_draw.nd rfl (Or.inl rfl)) (fun _ _ _ _ _ => sts_nil) (fun _ _ _ _ _ => (se_cl call_abs s_abs T.n_abs (by decide +kernel) (sa_cons (se_clT call_intA s_int T.n_int (by decide +kernel) (sa_cons (se_var 2) sa_nil)) sa_nil)))) (sa_cons (se_un un_neg s_neg se_int) (sa_cons se_int (sa_cons (se_var 1) sa_nil)))))))))
theorem sc_L_origin : FnScope ["_law_draw_here", "_law_path", "_law_query", "_law_good"] ["_law_draw_here"] (defScope s_L_origin) := ⟨rfl, rfl, rfl, by decide +kernel, rfl, by decide +kernel, by decide +kernel⟩
theorem ok_L_origin : FnOk P w K mg base CX0 3 T.f_L_origin T.d_L_origin ["_law_draw_here"] (spC K T.cl 1 F_L_origin) := by
  refine fn_body T.u_L_origin sc_L_origin (fun cdv A outer s H E hr => ?_)
  have hu := room_hu hr
  exact (ss_cons (ss_asg (se_call (ok_L_place T) runF_len (hr.mono (by decide)) T.m_L_place T.k_L_place T.b_L_place (sa_cons (se_var 0) sa_nil)) (sg_tup rfl (sgs_cons (sg_name 1 sc_L_origin.nd) (sgs_cons (sg_name 2 sc_L_origin.nd) (sgs_cons (sg_name 3 sc_L_origin.nd) sgs_nil))))) (ss_cons (ss_set 1 sc_L_origin.nd (se_bin op_addA s_add (se_tup (sa_cons se_int sa_nil)) (se_var 1))) (ss_one (ss_ret (se_tup (sa_cons (se_call (ok_L_joined T) runF_len (hr.mono (by decide)) T.m_L_joined T.k_L_joined T.b_L_joined (sa_cons (se_var 1) (sa_cons (se_var 2) sa_nil))) (sa_cons (se_ifE (st_val (se_var 3)) (se_tup (sa_cons se_str (sa_cons (se_var 1) (sa_cons (se_var 2) sa_nil)))) se_non) sa_nil)))))))
theorem sc_cut_at : FnScope ["octets", "mark", "parts", "first", "at", "octet"] ["octets", "mark"] (defScope s_cut_at) := ⟨rfl, rfl, rfl, by decide +kernel, rfl, by decide +kernel, by decide +kernel⟩
theorem ok_cut_at : FnOk P w K mg base CX0 1 T.f_cut_at T.d_cut_at ["octets", "mark"] (spC K T.cl 2 F_cut_at) := by
  refine fn_body T.u_cut_at sc_cut_at (fun cdv A outer s H E hr => ?_)
  have hu := room_hu hr
  exact (ss_cons (ss_set 2 sc_cut_at.nd (se_lst sa_nil)) (ss_cons (ss_set 3 sc_cut_at.nd se_int) (ss_cons (ss_forP PassesOwn.never rfl (sip_enum T.n_enumerate (sa_cons (se_var 0) sa_nil)) (sgs_cons (sg_name 4 sc_cut_at.nd) (sgs_cons (sg_name 5 sc_cut_at.nd) sgs_nil)) (ss_one (ss_if (st_cmp (op_eqP hu) s_eq (se_var 5) (se_var 1) (nomark _)) (ss_cons (ss_expr (se_bm PySem.F.plainAttrs_list PySem.F.slot_list_append PySem.F.type_list_append mt_append s_append (se_var 2) (sa_cons (se_clT call_tuple_F s_tupC T.n_tuple (by decide +kernel) (sa_cons (se_sl sl_any s_sl (se_var 0) (spo_some (se_var 3)) (spo_some (se_var 4))) sa_nil)) sa_nil))) (ss_one (ss_set 3 sc_cut_at.nd (se_bin op_addA s_add (se_var 4) se_int)))) ss_nil))) (ss_cons (ss_expr (se_bm PySem.F.plainAttrs_list PySem.F.slot_list_append PySem.F.type_list_append mt_append s_append (se_var 2) (sa_cons (se_clT call_tuple_F s_tupC T.n_tuple (by decide +kernel) (sa_cons (se_sl sl_any s_sl (se_var 0) (spo_some (se_var 3)) spo_none) sa_nil)) sa_nil))) (ss_one (ss_ret (se_var 2)))))))
theorem sc_is_digit : FnScope ["octet"] ["octet"] (defScope s_is_digit) := ⟨rfl, rfl, rfl, by decide +kernel, rfl, by decide +kernel, by decide +kernel⟩
theorem ok_is_digit : FnOk P w K mg base CX0 1 T.f_is_digit T.d_is_digit ["octet"] (spC K T.cl 1 F_is_digit) := by
  refine fn_body T.u_is_digit sc_is_digit (fun cdv A outer s H E hr => ?_)
  have hu := room_hu hr
  exact (ss_one (ss_ret (se_chain op_le op_le s_le s_le se_int (se_var 0) se_int)))
theorem sc_is_letter : FnScope ["octet"] ["octet"] (defScope s_is_letter) := ⟨rfl, rfl, rfl, by decide +kernel, rfl, by decide +kernel, by decide +kernel⟩
theorem ok_is_letter : FnOk P w K mg base CX0 1 T.f_is_letter T.d_is_letter ["octet"] (spC K T.cl 1 F_is_letter) := by
  refine fn_body T.u_is_letter sc_is_letter (fun cdv A outer s H E hr => ?_)
  have hu := room_hu hr
  exact (ss_one (ss_ret (se_or (se_chain op_le op_le s_le s_le se_int (se_var 0) se_int) (se_one (se_chain op_le op_le s_le s_le se_int (se_var 0) se_int)))))
theorem sc_lower : FnScope ["text"] ["text"] (defScope s_lower) := ⟨rfl, rfl, rfl, by decide +kernel, rfl, by decide +kernel, by decide +kernel⟩
theorem ok_lower : FnOk P w K mg base CX0 1 T.f_lower T.d_lower ["text"] (spC K T.cl 1 F_lower) := by
  refine fn_body T.u_lower sc_lower (fun cdv A outer s H E hr => ?_)
  have hu := room_hu hr
  exact (ss_one (ss_ret (se_bm0 PySem.F.plainAttrs_str PySem.F.slot_str_lower PySem.F.type_str_lower mt_lower s_str0 (se_var 0))))
theorem sc_read_port : FnScope ["octets", "number", "octet"] ["octets"] (defScope s_read_port) := ⟨rfl, rfl, rfl, by decide +kernel, rfl, by decide +kernel, by decide +kernel⟩
theorem ok_read_port : FnOk P w K mg base CX0 2 T.f_read_port T.d_read_port ["octets"] (spC K T.cl 1 F_read_port) := by
  refine fn_body T.u_read_port sc_read_port (fun cdv A outer s H E hr => ?_)
  have hu := room_hu hr
  exact (ss_cons (ss_set 1 sc_read_port.nd se_int) (ss_cons (ss_for PassesOwn.never rfl (si_seq (se_var 0)) (sg_name 2 sc_read_port.nd) (ss_cons (ss_if (st_not (st_val (se_call (ok_is_digit T) runF_len (hr.mono (by decide)) T.m_is_digit T.k_is_digit T.b_is_digit (sa_cons (se_var 2) sa_nil)))) (ss_one (ss_ret (se_un un_neg s_neg se_int))) ss_nil) (ss_one (ss_set 1 sc_read_port.nd (se_bin op_sub s_sub (se_bin op_addA s_add (se_bin op_mulA s_mul (se_var 1) se_int) (se_var 2)) se_int))))) (ss_cons (ss_if (SW.st (sw_or (st_not (st_chain op_le op_le s_le s_le se_int (se_cl call_lenA s_len T.n_len (by decide +kernel) (sa_cons (se_var 0) sa_nil)) se_int)) (sw_or1 (st_not (st_chain op_le op_le s_le s_le se_int (se_var 1) se_int))))) (ss_one (ss_ret (se_un un_neg s_neg se_int))) ss_nil) (ss_one (ss_ret (se_var 1))))))
theorem sc_is_value_sign : FnScope ["octet"] ["octet"] (defScope s_is_value_sign) := ⟨rfl, rfl, rfl, by decide +kernel, rfl, by decide +kernel, by decide +kernel⟩
theorem ok_is_value_sign : FnOk P w K mg base CX0 1 T.f_is_value_sign T.d_is_value_sign ["octet"] (spC K T.cl 1 F_is_value_sign) := by
  refine fn_body T.u_is_value_sign sc_is_value_sign (fun cdv A outer s H E hr => ?_)
  have hu := room_hu hr
  exact (ss_one (ss_ret (se_or (se_cmp (op_eqP hu) s_eq (se_var 0) (se_glob ⟨T.g_TAB⟩) (nomark _)) (se_one (se_and (se_chain op_le op_le s_le s_le se_int (se_var 0) se_int) (se_one (se_cmp (op_neP hu) s_ne (se_var 0) (se_glob ⟨T.g_PERCENT_octets⟩) (nomark _))))))))
theorem sc_sign_of : FnScope ["octet"] ["octet"] (defScope s_sign_of) := ⟨rfl, rfl, rfl, by decide +kernel, rfl, by decide +kernel, by decide +kernel⟩
theorem ok_sign_of : FnOk P w K mg base CX0 1 T.f_sign_of T.d_sign_of ["octet"] (spC K T.cl 1 F_sign_of) := by
  refine fn_body T.u_sign_of sc_sign_of (fun cdv A outer s H E hr => ?_)
  have hu := room_hu hr
  exact (ss_cons (ss_if (st_cmp (op_eqP hu) s_eq (se_var 0) (se_glob ⟨T.g_TAB⟩) (nomark _)) (ss_one (ss_ret se_str)) ss_nil) (ss_cons (ss_if (st_cmp op_lt s_lt (se_var 0) (se_glob ⟨T.g_PERCENT_octets⟩) (nomark _)) (ss_one (ss_ret (se_ix (ix_any hu) s_ix (se_glob ⟨T.g_SIGNS⟩) (se_bin op_sub s_sub (se_var 0) se_int)))) ss_nil) (ss_one (ss_ret (se_ix (ix_any hu) s_ix (se_glob ⟨T.g_SIGNS⟩) (se_bin op_sub s_sub (se_var 0) se_int))))))
theorem sc_to_text : FnScope ["octets", "octet"] ["octets"] (defScope s_to_text) := ⟨rfl, rfl, rfl, by decide +kernel, rfl, by decide +kernel, by decide +kernel⟩
theorem ok_to_text : FnOk P w K mg base CX0 2 T.f_to_text T.d_to_text ["octets"] (spC K T.cl 1 F_to_text) := by
  refine fn_body T.u_to_text sc_to_text (fun cdv A outer s H E hr => ?_)
  have hu := room_hu hr
  exact (ss_cons (ss_for PassesOwn.never rfl (si_seq (se_var 0)) (sg_name 1 sc_to_text.nd) (ss_one (ss_if (st_not (st_val (se_call (ok_is_value_sign T) runF_len (hr.mono (by decide)) T.m_is_value_sign T.k_is_value_sign T.b_is_value_sign (sa_cons (se_var 1) sa_nil)))) (ss_one (ss_ret se_non)) ss_nil))) (ss_one (ss_ret (se_bm PySem.F.plainAttrs_str PySem.F.slot_str_join PySem.F.type_str_join mt_join s_join se_str (sa_cons (se_lc (own := [("octet", 1)]) 1 rfl sc_to_text.nd (si_seq (se_var 0)) (blkOk_by (own := [("octet", 1)]) (N := ["octets", "octet"]) (sc := defScope s_to_text) (by decide +kernel)) (fun _ _ _ _ _ => pg_name (i := 1) sc_to_text.nd rfl (Or.inl rfl)) (fun _ _ _ _ _ => sts_nil) (fun _ _ _ _ _ => (se_call (ok_sign_of T) runF_len (hr.mono (by decide)) T.m_sign_of T.k_sign_of T.b_sign_of (sa_cons (se_var 1) sa_nil)))) sa_nil)))))
theorem sc_read_authority : FnScope ["octets", "needs_port", "parts", "octet", "port"] ["octets", "needs_port"] (defScope s_read_authority) := ⟨rfl, rfl, rfl, by decide +kernel, rfl, by decide +kernel, by decide +kernel⟩
theorem ok_read_authority : FnOk P w K mg base CX0 3 T.f_read_authority T.d_read_authority ["octets", "needs_port"] (spC K T.cl 2 F_read_authority) := by
  refine fn_body T.u_read_authority sc_read_authority (fun cdv A outer s H E hr => ?_)
  have hu := room_hu hr
  exact (ss_cons (ss_set 2 sc_read_authority.nd (se_call (ok_cut_at T) runF_len (hr.mono (by decide)) T.m_cut_at T.k_cut_at T.b_cut_at (sa_cons (se_var 0) (sa_cons (se_glob ⟨T.g_COLON⟩) sa_nil)))) (ss_cons (ss_if (SW.st (sw_or (st_cmp op_gt s_gt (se_cl call_lenA s_len T.n_len (by decide +kernel) (sa_cons (se_var 2) sa_nil)) se_int (nomark _)) (sw_or (st_cmp (op_eqP hu) s_eq (se_ix (ix_any hu) s_ix (se_var 2) se_int) (se_tup sa_nil) (nomark _)) (sw_or1 (SW.st (sw_and (st_val (se_var 1)) (sw_and1 (st_cmp (op_eqP hu) s_eq (se_cl call_lenA s_len T.n_len (by decide +kernel) (sa_cons (se_var 2) sa_nil)) se_int (nomark _))))))))) (ss_one (ss_ret se_non)) ss_nil) (ss_cons (ss_for PassesOwn.never rfl (si_seq (se_ix (ix_any hu) s_ix (se_var 2) se_int)) (sg_name 3 sc_read_authority.nd) (ss_one (ss_if (SW.st (sw_and (st_not (st_val (se_call (ok_is_letter T) runF_len (hr.mono (by decide)) T.m_is_letter T.k_is_letter T.b_is_letter (sa_cons (se_var 3) sa_nil)))) (sw_and (st_not (st_val (se_call (ok_is_digit T) runF_len (hr.mono (by decide)) T.m_is_digit T.k_is_digit T.b_is_digit (sa_cons (se_var 3) sa_nil)))) (sw_and1 (st_cmp (op_notInP hu) s_notIn (se_var 3) (se_tup (sa_cons se_int (sa_cons se_int sa_nil))) (by rfl)))))) (ss_one (ss_ret se_non)) ss_nil))) (ss_cons (ss_set 4 sc_read_authority.nd se_int) (ss_cons (ss_if (st_cmp (op_eqP hu) s_eq (se_cl call_lenA s_len T.n_len (by decide +kernel) (sa_cons (se_var 2) sa_nil)) se_int (nomark _)) (ss_one (ss_set 4 sc_read_authority.nd (se_call (ok_read_port T) runF_len (hr.mono (by decide)) T.m_read_port T.k_read_port T.b_read_port (sa_cons (se_ix (ix_any hu) s_ix (se_var 2) se_int) sa_nil)))) ss_nil) (ss_cons (ss_if (st_cmp op_lt s_lt (se_var 4) se_int (nomark _)) (ss_one (ss_ret se_non)) ss_nil) (ss_one (ss_ret (se_tup (sa_cons (se_call (ok_lower T) runF_len (hr.mono (by decide)) T.m_lower T.k_lower T.b_lower (sa_cons (se_call (ok_to_text T) runF_len (hr.mono (by decide)) T.m_to_text T.k_to_text T.b_to_text (sa_cons (se_ix (ix_any hu) s_ix (se_var 2) se_int) sa_nil)) sa_nil)) (sa_cons (se_var 4) sa_nil)))))))))))
theorem sc_to_octets : FnScope ["text", "sign"] ["text"] (defScope s_to_octets) := ⟨rfl, rfl, rfl, by decide +kernel, rfl, by decide +kernel, by decide +kernel⟩
theorem ok_to_octets : FnOk P w K mg base CX0 1 T.f_to_octets T.d_to_octets ["text"] (spC K T.cl 1 F_to_octets) := by
  refine fn_body T.u_to_octets sc_to_octets (fun cdv A outer s H E hr => ?_)
  have hu := room_hu hr
  exact (ss_one (ss_ret (se_clT call_tuple_F s_tupC T.n_tuple (by decide +kernel) (sa_cons (se_lc (own := [("sign", 1)]) 1 rfl sc_to_octets.nd (si_seq (se_var 0)) (blkOk_by (own := [("sign", 1)]) (N := ["text", "sign"]) (sc := defScope s_to_octets) (by decide +kernel)) (fun _ _ _ _ _ => pg_name (i := 1) sc_to_octets.nd rfl (Or.inl rfl)) (fun _ _ _ _ _ => sts_nil) (fun _ _ _ _ _ => (se_cl call_ord s_ord T.n_ord (by decide +kernel) (sa_cons (se_var 1) sa_nil)))) sa_nil))))
theorem sc_read_host : FnScope ["value"] ["value"] (defScope s_read_host) := ⟨rfl, rfl, rfl, by decide +kernel, rfl, by decide +kernel, by decide +kernel⟩
theorem ok_read_host : FnOk P w K mg base CX0 4 T.f_read_host T.d_read_host ["value"] (spC K T.cl 1 F_read_host) := by
  refine fn_body T.u_read_host sc_read_host (fun cdv A outer s H E hr => ?_)
  have hu := room_hu hr
  exact (ss_one (ss_ret (se_call (ok_read_authority T) runF_len (hr.mono (by decide)) T.m_read_authority T.k_read_authority T.b_read_authority (sa_cons (se_call (ok_to_octets T) runF_len (hr.mono (by decide)) T.m_to_octets T.k_to_octets T.b_to_octets (sa_cons (se_var 0) sa_nil)) (sa_cons se_bl sa_nil)))))
theorem sc_lower_octet : FnScope ["octet"] ["octet"] (defScope s_lower_octet) := ⟨rfl, rfl, rfl, by decide +kernel, rfl, by decide +kernel, by decide +kernel⟩
theorem ok_lower_octet : FnOk P w K mg base CX0 1 T.f_lower_octet T.d_lower_octet ["octet"] (spC K T.cl 1 F_lower_octet) := by
  refine fn_body T.u_lower_octet sc_lower_octet (fun cdv A outer s H E hr => ?_)
  have hu := room_hu hr
  exact (ss_cons (ss_if (st_chain op_le op_le s_le s_le se_int (se_var 0) se_int) (ss_one (ss_ret (se_bin op_addA s_add (se_var 0) se_int))) ss_nil) (ss_one (ss_ret (se_var 0))))
theorem sc_hex_digit : FnScope ["octet", "small"] ["octet"] (defScope s_hex_digit) := ⟨rfl, rfl, rfl, by decide +kernel, rfl, by decide +kernel, by decide +kernel⟩
theorem ok_hex_digit : FnOk P w K mg base CX0 2 T.f_hex_digit T.d_hex_digit ["octet"] (spC K T.cl 1 F_hex_digit) := by
  refine fn_body T.u_hex_digit sc_hex_digit (fun cdv A outer s H E hr => ?_)
  have hu := room_hu hr
  exact (ss_cons (ss_if (st_val (se_call (ok_is_digit T) runF_len (hr.mono (by decide)) T.m_is_digit T.k_is_digit T.b_is_digit (sa_cons (se_var 0) sa_nil))) (ss_one (ss_ret (se_bin op_sub s_sub (se_var 0) se_int))) ss_nil) (ss_cons (ss_set 1 sc_hex_digit.nd (se_call (ok_lower_octet T) runF_len (hr.mono (by decide)) T.m_lower_octet T.k_lower_octet T.b_lower_octet (sa_cons (se_var 0) sa_nil))) (ss_cons (ss_if (st_chain op_le op_le s_le s_le se_int (se_var 1) se_int) (ss_one (ss_ret (se_bin op_sub s_sub (se_var 1) se_int))) ss_nil) (ss_one (ss_ret (se_un un_neg s_neg se_int))))))
theorem sc_code_at : FnScope ["octets", "at"] ["octets", "at"] (defScope s_code_at) := ⟨rfl, rfl, rfl, by decide +kernel, rfl, by decide +kernel, by decide +kernel⟩
theorem ok_code_at : FnOk P w K mg base CX0 3 T.f_code_at T.d_code_at ["octets", "at"] (spC K T.cl 2 F_code_at) := by
  refine fn_body T.u_code_at sc_code_at (fun cdv A outer s H E hr => ?_)
  have hu := room_hu hr
  exact (ss_cons (ss_if (SW.st (sw_or (st_cmp op_ge s_ge (se_bin op_addA s_add (se_var 1) se_int) (se_cl call_lenA s_len T.n_len (by decide +kernel) (sa_cons (se_var 0) sa_nil)) (nomark _)) (sw_or (st_cmp op_lt s_lt (se_call (ok_hex_digit T) runF_len (hr.mono (by decide)) T.m_hex_digit T.k_hex_digit T.b_hex_digit (sa_cons (se_ix (ix_any hu) s_ix (se_var 0) (se_bin op_addA s_add (se_var 1) se_int)) sa_nil)) se_int (nomark _)) (sw_or1 (st_cmp op_lt s_lt (se_call (ok_hex_digit T) runF_len (hr.mono (by decide)) T.m_hex_digit T.k_hex_digit T.b_hex_digit (sa_cons (se_ix (ix_any hu) s_ix (se_var 0) (se_bin op_addA s_add (se_var 1) se_int)) sa_nil)) se_int (nomark _)))))) (ss_one (ss_ret (se_un un_neg s_neg se_int))) ss_nil) (ss_one (ss_ret (se_bin op_addA s_add (se_bin op_mulA s_mul (se_call (ok_hex_digit T) runF_len (hr.mono (by decide)) T.m_hex_digit T.k_hex_digit T.b_hex_digit (sa_cons (se_ix (ix_any hu) s_ix (se_var 0) (se_bin op_addA s_add (se_var 1) se_int)) sa_nil)) se_int) (se_call (ok_hex_digit T) runF_len (hr.mono (by decide)) T.m_hex_digit T.k_hex_digit T.b_hex_digit (sa_cons (se_ix (ix_any hu) s_ix (se_var 0) (se_bin op_addA s_add (se_var 1) se_int)) sa_nil))))))
theorem sc_decode : FnScope ["octets", "found", "at", "octet"] ["octets"] (defScope s_decode) := ⟨rfl, rfl, rfl, by decide +kernel, rfl, by decide +kernel, by decide +kernel⟩
theorem ok_decode : FnOk P w K mg base CX0 4 T.f_decode T.d_decode ["octets"] (spC K T.cl 1 F_decode) := by
  refine fn_body T.u_decode sc_decode (fun cdv A outer s H E hr => ?_)
  have hu := room_hu hr
  exact (ss_cons (ss_set 1 sc_decode.nd (se_lst sa_nil)) (ss_cons (ss_set 2 sc_decode.nd se_int) (ss_cons (ss_while whileMax PassesOwn.never (st_cmp op_lt s_lt (se_var 2) (se_cl call_lenA s_len T.n_len (by decide +kernel) (sa_cons (se_var 0) sa_nil)) (nomark _)) (ss_cons (ss_set 3 sc_decode.nd (se_ix (ix_any hu) s_ix (se_var 0) (se_var 2))) (ss_cons (ss_if (st_cmp (op_eqP hu) s_eq (se_var 3) (se_glob ⟨T.g_PERCENT_targets⟩) (nomark _)) (ss_cons (ss_set 3 sc_decode.nd (se_call (ok_code_at T) runF_len (hr.mono (by decide)) T.m_code_at T.k_code_at T.b_code_at (sa_cons (se_var 0) (sa_cons (se_var 2) sa_nil)))) (ss_cons (ss_if (st_cmp op_lt s_lt (se_var 3) se_int (nomark _)) (ss_one (ss_ret se_non)) ss_nil) (ss_one (ss_aug 2 sc_decode.nd iop_add s_addI se_int)))) ss_nil) (ss_cons (ss_expr (se_bm PySem.F.plainAttrs_list PySem.F.slot_list_append PySem.F.type_list_append mt_append s_append (se_var 1) (sa_cons (se_var 3) sa_nil))) (ss_one (ss_aug 2 sc_decode.nd iop_add s_addI se_int)))))) (ss_one (ss_ret (se_clT call_tuple_F s_tupC T.n_tuple (by decide +kernel) (sa_cons (se_var 1) sa_nil)))))))
theorem sc_is_good : FnScope ["octets", "octet"] ["octets"] (defScope s_is_good) := ⟨rfl, rfl, rfl, by decide +kernel, rfl, by decide +kernel, by decide +kernel⟩
theorem ok_is_good : FnOk P w K mg base CX0 5 T.f_is_good T.d_is_good ["octets"] (spC K T.cl 1 F_is_good) := by
  refine fn_body T.u_is_good sc_is_good (fun cdv A outer s H E hr => ?_)
  have hu := room_hu hr
  exact (ss_cons (ss_for PassesOwn.never rfl (si_seq (se_var 0)) (sg_name 1 sc_is_good.nd) (ss_one (ss_if (SW.st (sw_or (st_not (st_chain op_le op_le s_le s_le se_int (se_var 1) se_int)) (sw_or1 (st_cmp (op_eqP hu) s_eq (se_var 1) se_int (nomark _))))) (ss_one (ss_ret se_bl)) ss_nil))) (ss_one (ss_ret (se_cmp op_notN s_notN (se_call (ok_decode T) runF_len (hr.mono (by decide)) T.m_decode T.k_decode T.b_decode (sa_cons (se_var 0) sa_nil)) se_non (nomark _)))))
theorem sc_read_place : FnScope ["octets", "at", "query", "path"] ["octets"] (defScope s_read_place) := ⟨rfl, rfl, rfl, by decide +kernel, rfl, by decide +kernel, by decide +kernel⟩
theorem ok_read_place : FnOk P w K mg base CX0 6 T.f_read_place T.d_read_place ["octets"] (spC K T.cl 1 F_read_place) := by
  refine fn_body T.u_read_place sc_read_place (fun cdv A outer s H E hr => ?_)
  have hu := room_hu hr
  exact (ss_cons (ss_set 1 sc_read_place.nd (se_cl call_lenA s_len T.n_len (by decide +kernel) (sa_cons (se_var 0) sa_nil))) (ss_cons (ss_set 2 sc_read_place.nd se_non) (ss_cons (ss_if (st_cmp (op_inP hu) s_in (se_glob ⟨T.g_QUESTION⟩) (se_var 0) (by rfl)) (ss_cons (ss_set 1 sc_read_place.nd (se_bm PySem.F.plainAttrs_tuple PySem.F.slot_tuple_index PySem.F.type_tuple_index mt_indexT s_indexT (se_var 0) (sa_cons (se_glob ⟨T.g_QUESTION⟩) sa_nil))) (ss_one (ss_set 2 sc_read_place.nd (se_sl sl_any s_sl (se_var 0) (spo_some (se_bin op_addA s_add (se_var 1) se_int)) spo_none)))) ss_nil) (ss_cons (ss_set 3 sc_read_place.nd (se_sl sl_any s_sl (se_var 0) spo_none (spo_some (se_var 1)))) (ss_cons (ss_if (SW.st (sw_or (st_not (st_val (se_call (ok_is_good T) runF_len (hr.mono (by decide)) T.m_is_good T.k_is_good T.b_is_good (sa_cons (se_var 0) sa_nil)))) (sw_or1 (SW.st (sw_and (st_cmp (op_neP hu) s_ne (se_var 3) (se_tup sa_nil) (nomark _)) (sw_and1 (st_cmp (op_neP hu) s_ne (se_ix (ix_any hu) s_ix (se_var 3) se_int) (se_glob ⟨T.g_SLASH⟩) (nomark _)))))))) (ss_one (ss_ret se_non)) ss_nil) (ss_one (ss_ret (se_tup (sa_cons (se_var 3) (sa_cons (se_var 2) sa_nil))))))))))
theorem sc_read_absolute : FnScope ["target", "at", "authority", "place", "path"] ["target"] (defScope s_read_absolute) := ⟨rfl, rfl, rfl, by decide +kernel, rfl, by decide +kernel, by decide +kernel⟩
theorem ok_read_absolute : FnOk P w K mg base CX0 7 T.f_read_absolute T.d_read_absolute ["target"] (spC K T.cl 1 F_read_absolute) := by
  refine fn_body T.u_read_absolute sc_read_absolute (fun cdv A outer s H E hr => ?_)
  have hu := room_hu hr
  exact (ss_cons (ss_set 1 sc_read_absolute.nd (se_cl call_lenA s_len T.n_len (by decide +kernel) (sa_cons (se_glob ⟨T.g_SCHEME⟩) sa_nil))) (ss_cons (ss_while whileMax PassesOwn.never (SW.st (sw_and (st_cmp op_lt s_lt (se_var 1) (se_cl call_lenA s_len T.n_len (by decide +kernel) (sa_cons (se_var 0) sa_nil)) (nomark _)) (sw_and (st_cmp (op_neP hu) s_ne (se_ix (ix_any hu) s_ix (se_var 0) (se_var 1)) (se_glob ⟨T.g_SLASH⟩) (nomark _)) (sw_and1 (st_cmp (op_neP hu) s_ne (se_ix (ix_any hu) s_ix (se_var 0) (se_var 1)) (se_glob ⟨T.g_QUESTION⟩) (nomark _)))))) (ss_one (ss_aug 1 sc_read_absolute.nd iop_add s_addI se_int))) (ss_cons (ss_set 2 sc_read_absolute.nd (se_call (ok_read_authority T) runF_len (hr.mono (by decide)) T.m_read_authority T.k_read_authority T.b_read_authority (sa_cons (se_sl sl_any s_sl (se_var 0) (spo_some (se_cl call_lenA s_len T.n_len (by decide +kernel) (sa_cons (se_glob ⟨T.g_SCHEME⟩) sa_nil))) (spo_some (se_var 1))) (sa_cons se_bl sa_nil)))) (ss_cons (ss_set 3 sc_read_absolute.nd (se_call (ok_read_place T) runF_len (hr.mono (by decide)) T.m_read_place T.k_read_place T.b_read_place (sa_cons (se_sl sl_any s_sl (se_var 0) (spo_some (se_var 1)) spo_none) sa_nil))) (ss_cons (ss_if (SW.st (sw_or (st_cmp op_isN s_isN (se_var 2) se_non (nomark _)) (sw_or1 (st_cmp op_isN s_isN (se_var 3) se_non (nomark _))))) (ss_one (ss_ret se_non)) ss_nil) (ss_cons (ss_set 4 sc_read_absolute.nd (se_ifE (st_cmp (op_neP hu) s_ne (se_ix (ix_any hu) s_ix (se_var 3) se_int) (se_tup sa_nil) (nomark _)) (se_ix (ix_any hu) s_ix (se_var 3) se_int) (se_tup (sa_cons (se_glob ⟨T.g_SLASH⟩) sa_nil)))) (ss_one (ss_ret (se_tup (sa_cons se_str (sa_cons (se_ix (ix_any hu) s_ix (se_var 2) se_int) (sa_cons (se_ix (ix_any hu) s_ix (se_var 2) se_int) (sa_cons (se_var 4) (sa_cons (se_ix (ix_any hu) s_ix (se_var 3) se_int) sa_nil))))))))))))))
theorem sc_read_target : FnScope ["method", "target", "authority", "place", "octet"] ["method", "target"] (defScope s_read_target) := ⟨rfl, rfl, rfl, by decide +kernel, rfl, by decide +kernel, by decide +kernel⟩
theorem ok_read_target : FnOk P w K mg base CX0 8 T.f_read_target T.d_read_target ["method", "target"] (spC K T.cl 2 F_read_target) := by
  refine fn_body T.u_read_target sc_read_target (fun cdv A outer s H E hr => ?_)
  have hu := room_hu hr
  exact (ss_cons (ss_if (st_cmp (op_eqP hu) s_eq (se_var 0) se_str (nomark _)) (ss_cons (ss_set 2 sc_read_target.nd (se_call (ok_read_authority T) runF_len (hr.mono (by decide)) T.m_read_authority T.k_read_authority T.b_read_authority (sa_cons (se_var 1) (sa_cons se_bl sa_nil)))) (ss_one (ss_ret (se_ifE (st_cmp op_isN s_isN (se_var 2) se_non (nomark _)) se_non (se_tup (sa_cons se_str (sa_cons (se_ix (ix_any hu) s_ix (se_var 2) se_int) (sa_cons (se_ix (ix_any hu) s_ix (se_var 2) se_int) sa_nil)))))))) ss_nil) (ss_cons (ss_if (st_cmp (op_eqP hu) s_eq (se_var 1) (se_tup (sa_cons se_int sa_nil)) (nomark _)) (ss_one (ss_ret (se_ifE (st_cmp (op_eqP hu) s_eq (se_var 0) se_str (nomark _)) (se_tup (sa_cons se_str sa_nil)) se_non))) ss_nil) (ss_cons (ss_if (st_cmp (op_eqP hu) s_eq (se_clT call_tuple_F s_tupC T.n_tuple (by decide +kernel) (sa_cons (se_lc (own := [("octet", 4)]) 4 rfl sc_read_target.nd (si_seq (se_sl sl_any s_sl (se_var 1) spo_none (spo_some (se_cl call_lenA s_len T.n_len (by decide +kernel) (sa_cons (se_glob ⟨T.g_SCHEME⟩) sa_nil))))) (blkOk_by (own := [("octet", 4)]) (N := ["method", "target", "authority", "place", "octet"]) (sc := defScope s_read_target) (by decide +kernel)) (fun _ _ _ _ _ => pg_name (i := 4) sc_read_target.nd rfl (Or.inl rfl)) (fun _ _ _ _ _ => sts_nil) (fun _ _ _ _ _ => (se_call (ok_lower_octet T) runF_len (hr.mono (by decide)) T.m_lower_octet T.k_lower_octet T.b_lower_octet (sa_cons (se_var 4) sa_nil)))) sa_nil)) (se_glob ⟨T.g_SCHEME⟩) (nomark _)) (ss_one (ss_ret (se_call (ok_read_absolute T) runF_len (hr.mono (by decide)) T.m_read_absolute T.k_read_absolute T.b_read_absolute (sa_cons (se_var 1) sa_nil)))) ss_nil) (ss_cons (ss_set 3 sc_read_target.nd (se_call (ok_read_place T) runF_len (hr.mono (by decide)) T.m_read_place T.k_read_place T.b_read_place (sa_cons (se_var 1) sa_nil))) (ss_cons (ss_if (SW.st (sw_or (st_cmp op_isN s_isN (se_var 3) se_non (nomark _)) (sw_or1 (st_cmp (op_eqP hu) s_eq (se_ix (ix_any hu) s_ix (se_var 3) se_int) (se_tup sa_nil) (nomark _))))) (ss_one (ss_ret se_non)) ss_nil) (ss_one (ss_ret (se_tup (sa_cons se_str (sa_cons (se_ix (ix_any hu) s_ix (se_var 3) se_int) (sa_cons (se_ix (ix_any hu) s_ix (se_var 3) se_int) sa_nil)))))))))))
theorem sc_law : FnScope ["_law_script", "_law_draw_here", "_law_k", "_law_method", "_law_choice", "_law_target", "_law_due", "_law_host_here", "_law_actual"] ["_law_script"] (defScope s_law) := ⟨rfl, rfl, rfl, by decide +kernel, rfl, by decide +kernel, by decide +kernel⟩
theorem ok_law : FnOk P w K mg base CX0 9 T.f_law T.d_law ["_law_script"] (spC K T.cl 1 F_law) := by
  refine fn_body T.u_law sc_law (fun cdv A outer s H E hr => ?_)
  have hu := room_hu hr
  exact (ss_cons (ss_set 1 sc_law.nd (se_call (ok_L_draw T) runF_len (hr.mono (by decide)) T.m_L_draw T.k_L_draw T.b_L_draw (sa_cons (se_var 0) sa_nil))) (ss_cons (ss_for PassesOwn.never rfl (si_range1 T.n_range (sa_cons se_int sa_nil)) (sg_name 2 sc_law.nd) (ss_cons (ss_set 3 sc_law.nd (se_ix (ix_any hu) s_ix (se_lst (sa_cons se_str (sa_cons se_str (sa_cons se_str (sa_cons se_str sa_nil))))) (se_call (ok_L_take T) runF_len (hr.mono (by decide)) T.m_L_take T.k_L_take T.b_L_take (sa_cons (se_var 1) (sa_cons se_int sa_nil))))) (ss_cons (ss_set 4 sc_law.nd (se_call (ok_L_take T) runF_len (hr.mono (by decide)) T.m_L_take T.k_L_take T.b_L_take (sa_cons (se_var 1) (sa_cons se_int sa_nil)))) (ss_cons (ss_if (st_cmp (op_eqP hu) s_eq (se_var 4) se_int (nomark _)) (ss_cons (ss_set 5 sc_law.nd (se_tup (sa_cons se_int sa_nil))) (ss_one (ss_set 6 sc_law.nd (se_ifE (st_cmp (op_eqP hu) s_eq (se_var 3) se_str (nomark _)) (se_tup (sa_cons se_str sa_nil)) se_non)))) (ss_one (ss_if (st_cmp op_lt s_lt (se_var 4) se_int (nomark _)) (ss_one (ss_asg (se_call (ok_L_origin T) runF_len (hr.mono (by decide)) T.m_L_origin T.k_L_origin T.b_L_origin (sa_cons (se_var 1) sa_nil)) (sg_tup rfl (sgs_cons (sg_name 5 sc_law.nd) (sgs_cons (sg_name 6 sc_law.nd) sgs_nil))))) (ss_one (ss_if (st_cmp op_lt s_lt (se_var 4) se_int (nomark _)) (ss_one (ss_asg (se_call (ok_L_absolute T) runF_len (hr.mono (by decide)) T.m_L_absolute T.k_L_absolute T.b_L_absolute (sa_cons (se_var 1) sa_nil)) (sg_tup rfl (sgs_cons (sg_name 5 sc_law.nd) (sgs_cons (sg_name 6 sc_law.nd) sgs_nil))))) (ss_cons (ss_set 5 sc_law.nd (se_call (ok_L_octets T) runF_len (hr.mono (by decide)) T.m_L_octets T.k_L_octets T.b_L_octets (sa_cons (se_ix (ix_any hu) s_ix (se_lst (sa_cons se_str (sa_cons se_str (sa_cons se_str (sa_cons se_str (sa_cons se_str (sa_cons se_str sa_nil))))))) (se_call (ok_L_take T) runF_len (hr.mono (by decide)) T.m_L_take T.k_L_take T.b_L_take (sa_cons (se_var 1) (sa_cons se_int sa_nil)))) sa_nil))) (ss_one (ss_set 6 sc_law.nd se_non)))))))) (ss_cons (ss_if (st_cmp (op_eqP hu) s_eq (se_var 3) se_str (nomark _)) (ss_cons (ss_set 7 sc_law.nd (se_call (ok_L_host T) runF_len (hr.mono (by decide)) T.m_L_host T.k_L_host T.b_L_host (sa_cons (se_var 1) sa_nil))) (ss_cons (ss_set 5 sc_law.nd (se_bin op_addA s_add (se_call (ok_L_octets T) runF_len (hr.mono (by decide)) T.m_L_octets T.k_L_octets T.b_L_octets (sa_cons (se_ix (ix_any hu) s_ix (se_var 7) se_int) sa_nil)) (se_ifE (st_cmp op_gt s_gt (se_call (ok_L_take T) runF_len (hr.mono (by decide)) T.m_L_take T.k_L_take T.b_L_take (sa_cons (se_var 1) (sa_cons se_int sa_nil))) se_int (nomark _)) (se_tup sa_nil) (se_tup (sa_cons se_int sa_nil))))) (ss_cons (ss_set 6 sc_law.nd se_non) (ss_one (ss_if (SW.st (sw_and (st_cmp op_notN s_notN (se_ix (ix_any hu) s_ix (se_var 7) se_int) se_non (nomark _)) (sw_and (st_val (se_ix (ix_any hu) s_ix (se_var 7) se_int)) (sw_and1 (st_cmp (op_neP hu) s_ne (se_sl sl_any s_sl (se_var 5) (spo_some (se_un un_neg s_neg se_int)) spo_none) (se_tup (sa_cons se_int sa_nil)) (nomark _)))))) (ss_one (ss_set 6 sc_law.nd (se_tup (sa_cons se_str (sa_cons (se_ix (ix_any hu) s_ix (se_ix (ix_any hu) s_ix (se_var 7) se_int) se_int) (sa_cons (se_ix (ix_any hu) s_ix (se_ix (ix_any hu) s_ix (se_var 7) se_int) se_int) sa_nil)))))) ss_nil))))) ss_nil) (ss_cons (ss_if (st_cmp (op_neP hu) s_ne (se_var 5) (se_tup sa_nil) (nomark _)) (ss_cons (ss_set 8 sc_law.nd (se_call (ok_read_target T) runF_len (hr.mono (by decide)) T.m_read_target T.k_read_target T.b_read_target (sa_cons (se_var 3) (sa_cons (se_var 5) sa_nil)))) (ss_one (ss_if (SW.st (sw_or (SW.st (sw_and (st_cmp op_isN s_isN (se_var 6) se_non (nomark _)) (sw_and1 (st_cmp op_notN s_notN (se_var 8) se_non (nomark _))))) (sw_or1 (SW.st (sw_and (st_cmp op_notN s_notN (se_var 6) se_non (nomark _)) (sw_and1 (st_cmp (op_neP hu) s_ne (se_var 8) (se_var 6) (nomark _)))))))) (ss_one (ss_ret se_bl)) ss_nil))) ss_nil) (ss_cons (ss_set 7 sc_law.nd (se_call (ok_L_host T) runF_len (hr.mono (by decide)) T.m_L_host T.k_L_host T.b_L_host (sa_cons (se_var 1) sa_nil))) (ss_cons (ss_set 8 sc_law.nd (se_call (ok_read_host T) runF_len (hr.mono (by decide)) T.m_read_host T.k_read_host T.b_read_host (sa_cons (se_ix (ix_any hu) s_ix (se_var 7) se_int) sa_nil))) (ss_one (ss_if (SW.st (sw_or (SW.st (sw_and (st_cmp op_isN s_isN (se_ix (ix_any hu) s_ix (se_var 7) se_int) se_non (nomark _)) (sw_and1 (st_cmp op_notN s_notN (se_var 8) se_non (nomark _))))) (sw_or1 (SW.st (sw_and (st_cmp op_notN s_notN (se_ix (ix_any hu) s_ix (se_var 7) se_int) se_non (nomark _)) (sw_and1 (st_cmp (op_neP hu) s_ne (se_var 8) (se_ix (ix_any hu) s_ix (se_var 7) se_int) (nomark _)))))))) (ss_one (ss_ret se_bl)) ss_nil)))))))))) (ss_one (ss_ret se_bl))))
end
end K57
namespace K57
open PySem L2 Cn
theorem tx_mk {K : PySem.W.Frag} {h : Heap} {mg : Str → Option Value} {fa : Addr} (X : K.In h) (G : h.Ns mainGlobals mg) (hfa : mg "law" = some (.ref fa))
    {AL_take : Addr} {ocL_take kVL_take dcL_take pmL_take cdL_take ctL_take : Value} {odL_take anL_take : Option Addr} {slL_take : Array (Option Value)} {AL_host : Addr} {ocL_host kVL_host dcL_host pmL_host cdL_host ctL_host : Value} {odL_host anL_host : Option Addr} {slL_host : Array (Option Value)} {AL_joined : Addr} {ocL_joined kVL_joined dcL_joined pmL_joined cdL_joined ctL_joined : Value} {odL_joined anL_joined : Option Addr} {slL_joined : Array (Option Value)} {AL_octets : Addr} {ocL_octets kVL_octets dcL_octets pmL_octets cdL_octets ctL_octets : Value} {odL_octets anL_octets : Option Addr} {slL_octets : Array (Option Value)} {AL_place : Addr} {ocL_place kVL_place dcL_place pmL_place cdL_place ctL_place : Value} {odL_place anL_place : Option Addr} {slL_place : Array (Option Value)} {AL_absolute : Addr} {ocL_absolute kVL_absolute dcL_absolute pmL_absolute cdL_absolute ctL_absolute : Value} {odL_absolute anL_absolute : Option Addr} {slL_absolute : Array (Option Value)} {AL_draw : Addr} {ocL_draw kVL_draw dcL_draw pmL_draw cdL_draw ctL_draw : Value} {odL_draw anL_draw : Option Addr} {slL_draw : Array (Option Value)} {AL_origin : Addr} {ocL_origin kVL_origin dcL_origin pmL_origin cdL_origin ctL_origin : Value} {odL_origin anL_origin : Option Addr} {slL_origin : Array (Option Value)} {Acut_at : Addr} {occut_at kVcut_at dccut_at pmcut_at cdcut_at ctcut_at : Value} {odcut_at ancut_at : Option Addr} {slcut_at : Array (Option Value)} {Ais_digit : Addr} {ocis_digit kVis_digit dcis_digit pmis_digit cdis_digit ctis_digit : Value} {odis_digit anis_digit : Option Addr} {slis_digit : Array (Option Value)} {Ais_letter : Addr} {ocis_letter kVis_letter dcis_letter pmis_letter cdis_letter ctis_letter : Value} {odis_letter anis_letter : Option Addr} {slis_letter : Array (Option Value)} {Alower : Addr} {oclower kVlower dclower pmlower cdlower ctlower : Value} {odlower anlower : Option Addr} {sllower : Array (Option Value)} {Aread_port : Addr} {ocread_port kVread_port dcread_port pmread_port cdread_port ctread_port : Value} {odread_port anread_port : Option Addr} {slread_port : Array (Option Value)} {Ais_value_sign : Addr} {ocis_value_sign kVis_value_sign dcis_value_sign pmis_value_sign cdis_value_sign ctis_value_sign : Value} {odis_value_sign anis_value_sign : Option Addr} {slis_value_sign : Array (Option Value)} {Asign_of : Addr} {ocsign_of kVsign_of dcsign_of pmsign_of cdsign_of ctsign_of : Value} {odsign_of ansign_of : Option Addr} {slsign_of : Array (Option Value)} {Ato_text : Addr} {octo_text kVto_text dcto_text pmto_text cdto_text ctto_text : Value} {odto_text anto_text : Option Addr} {slto_text : Array (Option Value)} {Aread_authority : Addr} {ocread_authority kVread_authority dcread_authority pmread_authority cdread_authority ctread_authority : Value} {odread_authority anread_authority : Option Addr} {slread_authority : Array (Option Value)} {Ato_octets : Addr} {octo_octets kVto_octets dcto_octets pmto_octets cdto_octets ctto_octets : Value} {odto_octets anto_octets : Option Addr} {slto_octets : Array (Option Value)} {Aread_host : Addr} {ocread_host kVread_host dcread_host pmread_host cdread_host ctread_host : Value} {odread_host anread_host : Option Addr} {slread_host : Array (Option Value)} {Alower_octet : Addr} {oclower_octet kVlower_octet dclower_octet pmlower_octet cdlower_octet ctlower_octet : Value} {odlower_octet anlower_octet : Option Addr} {sllower_octet : Array (Option Value)} {Ahex_digit : Addr} {ochex_digit kVhex_digit dchex_digit pmhex_digit cdhex_digit cthex_digit : Value} {odhex_digit anhex_digit : Option Addr} {slhex_digit : Array (Option Value)} {Acode_at : Addr} {occode_at kVcode_at dccode_at pmcode_at cdcode_at ctcode_at : Value} {odcode_at ancode_at : Option Addr} {slcode_at : Array (Option Value)} {Adecode : Addr} {ocdecode kVdecode dcdecode pmdecode cddecode ctdecode : Value} {oddecode andecode : Option Addr} {sldecode : Array (Option Value)} {Ais_good : Addr} {ocis_good kVis_good dcis_good pmis_good cdis_good ctis_good : Value} {odis_good anis_good : Option Addr} {slis_good : Array (Option Value)} {Aread_place : Addr} {ocread_place kVread_place dcread_place pmread_place cdread_place ctread_place : Value} {odread_place anread_place : Option Addr} {slread_place : Array (Option Value)} {Aread_absolute : Addr} {ocread_absolute kVread_absolute dcread_absolute pmread_absolute cdread_absolute ctread_absolute : Value} {odread_absolute anread_absolute : Option Addr} {slread_absolute : Array (Option Value)} {Aread_target : Addr} {ocread_target kVread_target dcread_target pmread_target cdread_target ctread_target : Value} {odread_target anread_target : Option Addr} {slread_target : Array (Option Value)} {Alaw : Addr} {oclaw kVlaw dclaw pmlaw cdlaw ctlaw : Value} {odlaw anlaw : Option Addr} {sllaw : Array (Option Value)} {t_COLON : Tok} {t_PERCENT_octets : Tok} {t_PERCENT_targets : Tok} {t_QUESTION : Tok} {RSCHEME : Addr} {ISCHEME : Array Value} {NSCHEME : Nat} {SLSCHEME : Array (Option Value)} {t_SIGNS : Tok} {t_SLASH : Tok} {t_TAB : Tok}
    (a_L_take : PySem.W.nsIn K mainGlobals "_law_take" = some (some (.ref AL_take)))
    (l_L_take : K.lookup AL_take = some ⟨ocL_take, odL_take, .func (PySem.W.fnOf "_law_take" "_law_take" (defArgs s_L_take) (defBody s_L_take) (defScope s_L_take) .none kVL_take dcL_take pmL_take anL_take cdL_take ctL_take), slL_take⟩)
    (c_L_take : PySem.W.codeIn K cdL_take "_law_take" = true)
    (k_L_take : PySem.W.keepIn K (.ref AL_take) = true)
    (a_L_host : PySem.W.nsIn K mainGlobals "_law_host" = some (some (.ref AL_host)))
    (l_L_host : K.lookup AL_host = some ⟨ocL_host, odL_host, .func (PySem.W.fnOf "_law_host" "_law_host" (defArgs s_L_host) (defBody s_L_host) (defScope s_L_host) .none kVL_host dcL_host pmL_host anL_host cdL_host ctL_host), slL_host⟩)
    (c_L_host : PySem.W.codeIn K cdL_host "_law_host" = true)
    (k_L_host : PySem.W.keepIn K (.ref AL_host) = true)
    (a_L_joined : PySem.W.nsIn K mainGlobals "_law_joined" = some (some (.ref AL_joined)))
    (l_L_joined : K.lookup AL_joined = some ⟨ocL_joined, odL_joined, .func (PySem.W.fnOf "_law_joined" "_law_joined" (defArgs s_L_joined) (defBody s_L_joined) (defScope s_L_joined) .none kVL_joined dcL_joined pmL_joined anL_joined cdL_joined ctL_joined), slL_joined⟩)
    (c_L_joined : PySem.W.codeIn K cdL_joined "_law_joined" = true)
    (k_L_joined : PySem.W.keepIn K (.ref AL_joined) = true)
    (a_L_octets : PySem.W.nsIn K mainGlobals "_law_octets" = some (some (.ref AL_octets)))
    (l_L_octets : K.lookup AL_octets = some ⟨ocL_octets, odL_octets, .func (PySem.W.fnOf "_law_octets" "_law_octets" (defArgs s_L_octets) (defBody s_L_octets) (defScope s_L_octets) .none kVL_octets dcL_octets pmL_octets anL_octets cdL_octets ctL_octets), slL_octets⟩)
    (c_L_octets : PySem.W.codeIn K cdL_octets "_law_octets" = true)
    (k_L_octets : PySem.W.keepIn K (.ref AL_octets) = true)
    (a_L_place : PySem.W.nsIn K mainGlobals "_law_place" = some (some (.ref AL_place)))
    (l_L_place : K.lookup AL_place = some ⟨ocL_place, odL_place, .func (PySem.W.fnOf "_law_place" "_law_place" (defArgs s_L_place) (defBody s_L_place) (defScope s_L_place) .none kVL_place dcL_place pmL_place anL_place cdL_place ctL_place), slL_place⟩)
    (c_L_place : PySem.W.codeIn K cdL_place "_law_place" = true)
    (k_L_place : PySem.W.keepIn K (.ref AL_place) = true)
    (a_L_absolute : PySem.W.nsIn K mainGlobals "_law_absolute" = some (some (.ref AL_absolute)))
    (l_L_absolute : K.lookup AL_absolute = some ⟨ocL_absolute, odL_absolute, .func (PySem.W.fnOf "_law_absolute" "_law_absolute" (defArgs s_L_absolute) (defBody s_L_absolute) (defScope s_L_absolute) .none kVL_absolute dcL_absolute pmL_absolute anL_absolute cdL_absolute ctL_absolute), slL_absolute⟩)
    (c_L_absolute : PySem.W.codeIn K cdL_absolute "_law_absolute" = true)
    (k_L_absolute : PySem.W.keepIn K (.ref AL_absolute) = true)
    (a_L_draw : PySem.W.nsIn K mainGlobals "_law_draw" = some (some (.ref AL_draw)))
    (l_L_draw : K.lookup AL_draw = some ⟨ocL_draw, odL_draw, .func (PySem.W.fnOf "_law_draw" "_law_draw" (defArgs s_L_draw) (defBody s_L_draw) (defScope s_L_draw) .none kVL_draw dcL_draw pmL_draw anL_draw cdL_draw ctL_draw), slL_draw⟩)
    (c_L_draw : PySem.W.codeIn K cdL_draw "_law_draw" = true)
    (k_L_draw : PySem.W.keepIn K (.ref AL_draw) = true)
    (a_L_origin : PySem.W.nsIn K mainGlobals "_law_origin" = some (some (.ref AL_origin)))
    (l_L_origin : K.lookup AL_origin = some ⟨ocL_origin, odL_origin, .func (PySem.W.fnOf "_law_origin" "_law_origin" (defArgs s_L_origin) (defBody s_L_origin) (defScope s_L_origin) .none kVL_origin dcL_origin pmL_origin anL_origin cdL_origin ctL_origin), slL_origin⟩)
    (c_L_origin : PySem.W.codeIn K cdL_origin "_law_origin" = true)
    (k_L_origin : PySem.W.keepIn K (.ref AL_origin) = true)
    (a_cut_at : PySem.W.nsIn K mainGlobals "cut_at" = some (some (.ref Acut_at)))
    (l_cut_at : K.lookup Acut_at = some ⟨occut_at, odcut_at, .func (PySem.W.fnOf "cut_at" "cut_at" (defArgs s_cut_at) (defBody s_cut_at) (defScope s_cut_at) .none kVcut_at dccut_at pmcut_at ancut_at cdcut_at ctcut_at), slcut_at⟩)
    (c_cut_at : PySem.W.codeIn K cdcut_at "cut_at" = true)
    (k_cut_at : PySem.W.keepIn K (.ref Acut_at) = true)
    (a_is_digit : PySem.W.nsIn K mainGlobals "is_digit" = some (some (.ref Ais_digit)))
    (l_is_digit : K.lookup Ais_digit = some ⟨ocis_digit, odis_digit, .func (PySem.W.fnOf "is_digit" "is_digit" (defArgs s_is_digit) (defBody s_is_digit) (defScope s_is_digit) .none kVis_digit dcis_digit pmis_digit anis_digit cdis_digit ctis_digit), slis_digit⟩)
    (c_is_digit : PySem.W.codeIn K cdis_digit "is_digit" = true)
    (k_is_digit : PySem.W.keepIn K (.ref Ais_digit) = true)
    (a_is_letter : PySem.W.nsIn K mainGlobals "is_letter" = some (some (.ref Ais_letter)))
    (l_is_letter : K.lookup Ais_letter = some ⟨ocis_letter, odis_letter, .func (PySem.W.fnOf "is_letter" "is_letter" (defArgs s_is_letter) (defBody s_is_letter) (defScope s_is_letter) .none kVis_letter dcis_letter pmis_letter anis_letter cdis_letter ctis_letter), slis_letter⟩)
    (c_is_letter : PySem.W.codeIn K cdis_letter "is_letter" = true)
    (k_is_letter : PySem.W.keepIn K (.ref Ais_letter) = true)
    (a_lower : PySem.W.nsIn K mainGlobals "lower" = some (some (.ref Alower)))
    (l_lower : K.lookup Alower = some ⟨oclower, odlower, .func (PySem.W.fnOf "lower" "lower" (defArgs s_lower) (defBody s_lower) (defScope s_lower) .none kVlower dclower pmlower anlower cdlower ctlower), sllower⟩)
    (c_lower : PySem.W.codeIn K cdlower "lower" = true)
    (k_lower : PySem.W.keepIn K (.ref Alower) = true)
    (a_read_port : PySem.W.nsIn K mainGlobals "read_port" = some (some (.ref Aread_port)))
    (l_read_port : K.lookup Aread_port = some ⟨ocread_port, odread_port, .func (PySem.W.fnOf "read_port" "read_port" (defArgs s_read_port) (defBody s_read_port) (defScope s_read_port) .none kVread_port dcread_port pmread_port anread_port cdread_port ctread_port), slread_port⟩)
    (c_read_port : PySem.W.codeIn K cdread_port "read_port" = true)
    (k_read_port : PySem.W.keepIn K (.ref Aread_port) = true)
    (a_is_value_sign : PySem.W.nsIn K mainGlobals "is_value_sign" = some (some (.ref Ais_value_sign)))
    (l_is_value_sign : K.lookup Ais_value_sign = some ⟨ocis_value_sign, odis_value_sign, .func (PySem.W.fnOf "is_value_sign" "is_value_sign" (defArgs s_is_value_sign) (defBody s_is_value_sign) (defScope s_is_value_sign) .none kVis_value_sign dcis_value_sign pmis_value_sign anis_value_sign cdis_value_sign ctis_value_sign), slis_value_sign⟩)
    (c_is_value_sign : PySem.W.codeIn K cdis_value_sign "is_value_sign" = true)
    (k_is_value_sign : PySem.W.keepIn K (.ref Ais_value_sign) = true)
    (a_sign_of : PySem.W.nsIn K mainGlobals "sign_of" = some (some (.ref Asign_of)))
    (l_sign_of : K.lookup Asign_of = some ⟨ocsign_of, odsign_of, .func (PySem.W.fnOf "sign_of" "sign_of" (defArgs s_sign_of) (defBody s_sign_of) (defScope s_sign_of) .none kVsign_of dcsign_of pmsign_of ansign_of cdsign_of ctsign_of), slsign_of⟩)
    (c_sign_of : PySem.W.codeIn K cdsign_of "sign_of" = true)
    (k_sign_of : PySem.W.keepIn K (.ref Asign_of) = true)
    (a_to_text : PySem.W.nsIn K mainGlobals "to_text" = some (some (.ref Ato_text)))
    (l_to_text : K.lookup Ato_text = some ⟨octo_text, odto_text, .func (PySem.W.fnOf "to_text" "to_text" (defArgs s_to_text) (defBody s_to_text) (defScope s_to_text) .none kVto_text dcto_text pmto_text anto_text cdto_text ctto_text), slto_text⟩)
    (c_to_text : PySem.W.codeIn K cdto_text "to_text" = true)
    (k_to_text : PySem.W.keepIn K (.ref Ato_text) = true)
    (a_read_authority : PySem.W.nsIn K mainGlobals "read_authority" = some (some (.ref Aread_authority)))
    (l_read_authority : K.lookup Aread_authority = some ⟨ocread_authority, odread_authority, .func (PySem.W.fnOf "read_authority" "read_authority" (defArgs s_read_authority) (defBody s_read_authority) (defScope s_read_authority) .none kVread_authority dcread_authority pmread_authority anread_authority cdread_authority ctread_authority), slread_authority⟩)
    (c_read_authority : PySem.W.codeIn K cdread_authority "read_authority" = true)
    (k_read_authority : PySem.W.keepIn K (.ref Aread_authority) = true)
    (a_to_octets : PySem.W.nsIn K mainGlobals "to_octets" = some (some (.ref Ato_octets)))
    (l_to_octets : K.lookup Ato_octets = some ⟨octo_octets, odto_octets, .func (PySem.W.fnOf "to_octets" "to_octets" (defArgs s_to_octets) (defBody s_to_octets) (defScope s_to_octets) .none kVto_octets dcto_octets pmto_octets anto_octets cdto_octets ctto_octets), slto_octets⟩)
    (c_to_octets : PySem.W.codeIn K cdto_octets "to_octets" = true)
    (k_to_octets : PySem.W.keepIn K (.ref Ato_octets) = true)
    (a_read_host : PySem.W.nsIn K mainGlobals "read_host" = some (some (.ref Aread_host)))
    (l_read_host : K.lookup Aread_host = some ⟨ocread_host, odread_host, .func (PySem.W.fnOf "read_host" "read_host" (defArgs s_read_host) (defBody s_read_host) (defScope s_read_host) .none kVread_host dcread_host pmread_host anread_host cdread_host ctread_host), slread_host⟩)
    (c_read_host : PySem.W.codeIn K cdread_host "read_host" = true)
    (k_read_host : PySem.W.keepIn K (.ref Aread_host) = true)
    (a_lower_octet : PySem.W.nsIn K mainGlobals "lower_octet" = some (some (.ref Alower_octet)))
    (l_lower_octet : K.lookup Alower_octet = some ⟨oclower_octet, odlower_octet, .func (PySem.W.fnOf "lower_octet" "lower_octet" (defArgs s_lower_octet) (defBody s_lower_octet) (defScope s_lower_octet) .none kVlower_octet dclower_octet pmlower_octet anlower_octet cdlower_octet ctlower_octet), sllower_octet⟩)
    (c_lower_octet : PySem.W.codeIn K cdlower_octet "lower_octet" = true)
    (k_lower_octet : PySem.W.keepIn K (.ref Alower_octet) = true)
    (a_hex_digit : PySem.W.nsIn K mainGlobals "hex_digit" = some (some (.ref Ahex_digit)))
    (l_hex_digit : K.lookup Ahex_digit = some ⟨ochex_digit, odhex_digit, .func (PySem.W.fnOf "hex_digit" "hex_digit" (defArgs s_hex_digit) (defBody s_hex_digit) (defScope s_hex_digit) .none kVhex_digit dchex_digit pmhex_digit anhex_digit cdhex_digit cthex_digit), slhex_digit⟩)
    (c_hex_digit : PySem.W.codeIn K cdhex_digit "hex_digit" = true)
    (k_hex_digit : PySem.W.keepIn K (.ref Ahex_digit) = true)
    (a_code_at : PySem.W.nsIn K mainGlobals "code_at" = some (some (.ref Acode_at)))
    (l_code_at : K.lookup Acode_at = some ⟨occode_at, odcode_at, .func (PySem.W.fnOf "code_at" "code_at" (defArgs s_code_at) (defBody s_code_at) (defScope s_code_at) .none kVcode_at dccode_at pmcode_at ancode_at cdcode_at ctcode_at), slcode_at⟩)
    (c_code_at : PySem.W.codeIn K cdcode_at "code_at" = true)
    (k_code_at : PySem.W.keepIn K (.ref Acode_at) = true)
    (a_decode : PySem.W.nsIn K mainGlobals "decode" = some (some (.ref Adecode)))
    (l_decode : K.lookup Adecode = some ⟨ocdecode, oddecode, .func (PySem.W.fnOf "decode" "decode" (defArgs s_decode) (defBody s_decode) (defScope s_decode) .none kVdecode dcdecode pmdecode andecode cddecode ctdecode), sldecode⟩)
    (c_decode : PySem.W.codeIn K cddecode "decode" = true)
    (k_decode : PySem.W.keepIn K (.ref Adecode) = true)
    (a_is_good : PySem.W.nsIn K mainGlobals "is_good" = some (some (.ref Ais_good)))
    (l_is_good : K.lookup Ais_good = some ⟨ocis_good, odis_good, .func (PySem.W.fnOf "is_good" "is_good" (defArgs s_is_good) (defBody s_is_good) (defScope s_is_good) .none kVis_good dcis_good pmis_good anis_good cdis_good ctis_good), slis_good⟩)
    (c_is_good : PySem.W.codeIn K cdis_good "is_good" = true)
    (k_is_good : PySem.W.keepIn K (.ref Ais_good) = true)
    (a_read_place : PySem.W.nsIn K mainGlobals "read_place" = some (some (.ref Aread_place)))
    (l_read_place : K.lookup Aread_place = some ⟨ocread_place, odread_place, .func (PySem.W.fnOf "read_place" "read_place" (defArgs s_read_place) (defBody s_read_place) (defScope s_read_place) .none kVread_place dcread_place pmread_place anread_place cdread_place ctread_place), slread_place⟩)
    (c_read_place : PySem.W.codeIn K cdread_place "read_place" = true)
    (k_read_place : PySem.W.keepIn K (.ref Aread_place) = true)
    (a_read_absolute : PySem.W.nsIn K mainGlobals "read_absolute" = some (some (.ref Aread_absolute)))
    (l_read_absolute : K.lookup Aread_absolute = some ⟨ocread_absolute, odread_absolute, .func (PySem.W.fnOf "read_absolute" "read_absolute" (defArgs s_read_absolute) (defBody s_read_absolute) (defScope s_read_absolute) .none kVread_absolute dcread_absolute pmread_absolute anread_absolute cdread_absolute ctread_absolute), slread_absolute⟩)
    (c_read_absolute : PySem.W.codeIn K cdread_absolute "read_absolute" = true)
    (k_read_absolute : PySem.W.keepIn K (.ref Aread_absolute) = true)
    (a_read_target : PySem.W.nsIn K mainGlobals "read_target" = some (some (.ref Aread_target)))
    (l_read_target : K.lookup Aread_target = some ⟨ocread_target, odread_target, .func (PySem.W.fnOf "read_target" "read_target" (defArgs s_read_target) (defBody s_read_target) (defScope s_read_target) .none kVread_target dcread_target pmread_target anread_target cdread_target ctread_target), slread_target⟩)
    (c_read_target : PySem.W.codeIn K cdread_target "read_target" = true)
    (k_read_target : PySem.W.keepIn K (.ref Aread_target) = true)
    (a_law : PySem.W.nsIn K mainGlobals "law" = some (some (.ref Alaw)))
    (l_law : K.lookup Alaw = some ⟨oclaw, odlaw, .func (PySem.W.fnOf "law" "law" (defArgs s_law) (defBody s_law) (defScope s_law) .none kVlaw dclaw pmlaw anlaw cdlaw ctlaw), sllaw⟩)
    (c_law : PySem.W.codeIn K cdlaw "law" = true)
    (k_law : PySem.W.keepIn K (.ref Alaw) = true)
    (z_abs : PySem.W.nsIn K mainGlobals "abs" = some none)
    (z_enumerate : PySem.W.nsIn K mainGlobals "enumerate" = some none)
    (z_int : PySem.W.nsIn K mainGlobals "int" = some none)
    (z_len : PySem.W.nsIn K mainGlobals "len" = some none)
    (z_ord : PySem.W.nsIn K mainGlobals "ord" = some none)
    (z_range : PySem.W.nsIn K mainGlobals "range" = some none)
    (z_tuple : PySem.W.nsIn K mainGlobals "tuple" = some none)
    (g_COLON : PySem.W.nsIn K mainGlobals "COLON" = some (some (.int 58 t_COLON)))
    (g_PERCENT_octets : PySem.W.nsIn K mainGlobals "PERCENT_octets" = some (some (.int 37 t_PERCENT_octets)))
    (g_PERCENT_targets : PySem.W.nsIn K mainGlobals "PERCENT_targets" = some (some (.int 37 t_PERCENT_targets)))
    (g_QUESTION : PySem.W.nsIn K mainGlobals "QUESTION" = some (some (.int 63 t_QUESTION)))
    (g_SCHEME : PySem.W.nsIn K mainGlobals "SCHEME" = some (some (.ref RSCHEME)))
    (gl_SCHEME : K.lookup RSCHEME = some { cls := .type "tuple", dict := none, data := .seq ISCHEME NSCHEME, slots := SLSCHEME })
    (gv_SCHEME : Vals [(V.int 104), (V.int 116), (V.int 116), (V.int 112), (V.int 58), (V.int 47), (V.int 47)] ISCHEME.toList ∧ ISCHEME.size ≤ sizeLine)
    (g_SIGNS : PySem.W.nsIn K mainGlobals "SIGNS" = some (some (.str " !\"#$&'()*+,-./0123456789:;<=>?@ABCDEFGHIJKLMNOPQRSTUVWXYZ[\\]^_`abcdefghijklmnopqrstuvwxyz{|}~" t_SIGNS)))
    (g_SLASH : PySem.W.nsIn K mainGlobals "SLASH" = some (some (.int 47 t_SLASH)))
    (g_TAB : PySem.W.nsIn K mainGlobals "TAB" = some (some (.int 9 t_TAB))) :
    ∃ T : Tx K mg, T.f_law = fa ∧ ∀ (s : Shared) (v : Value), BindsTo s T.d_law ⟨[v], []⟩ [("_law_script", v)] := by
  have e := hfa.symm.trans (PySem.W.mg_of X G a_law)
  cases e
  have U_L_take := fun_mk (st := s_L_take) l_L_take c_L_take k_L_take
  have B_L_take := U_L_take.binds (ps := ["_law_draw_here", "_law_many"]) fun _ _ _ _ _ _ us hl => match us, hl with | [_, _], _ => rfl
  have U_L_host := fun_mk (st := s_L_host) l_L_host c_L_host k_L_host
  have B_L_host := U_L_host.binds (ps := ["_law_draw_here"]) fun _ _ _ _ _ _ us hl => match us, hl with | [_], _ => rfl
  have U_L_joined := fun_mk (st := s_L_joined) l_L_joined c_L_joined k_L_joined
  have B_L_joined := U_L_joined.binds (ps := ["_law_path", "_law_query"]) fun _ _ _ _ _ _ us hl => match us, hl with | [_, _], _ => rfl
  have U_L_octets := fun_mk (st := s_L_octets) l_L_octets c_L_octets k_L_octets
  have B_L_octets := U_L_octets.binds (ps := ["_law_text"]) fun _ _ _ _ _ _ us hl => match us, hl with | [_], _ => rfl
  have U_L_place := fun_mk (st := s_L_place) l_L_place c_L_place k_L_place
  have B_L_place := U_L_place.binds (ps := ["_law_draw_here"]) fun _ _ _ _ _ _ us hl => match us, hl with | [_], _ => rfl
  have U_L_absolute := fun_mk (st := s_L_absolute) l_L_absolute c_L_absolute k_L_absolute
  have B_L_absolute := U_L_absolute.binds (ps := ["_law_draw_here"]) fun _ _ _ _ _ _ us hl => match us, hl with | [_], _ => rfl
  have U_L_draw := fun_mk (st := s_L_draw) l_L_draw c_L_draw k_L_draw
  have B_L_draw := U_L_draw.binds (ps := ["_law_script"]) fun _ _ _ _ _ _ us hl => match us, hl with | [_], _ => rfl
  have U_L_origin := fun_mk (st := s_L_origin) l_L_origin c_L_origin k_L_origin
  have B_L_origin := U_L_origin.binds (ps := ["_law_draw_here"]) fun _ _ _ _ _ _ us hl => match us, hl with | [_], _ => rfl
  have U_cut_at := fun_mk (st := s_cut_at) l_cut_at c_cut_at k_cut_at
  have B_cut_at := U_cut_at.binds (ps := ["octets", "mark"]) fun _ _ _ _ _ _ us hl => match us, hl with | [_, _], _ => rfl
  have U_is_digit := fun_mk (st := s_is_digit) l_is_digit c_is_digit k_is_digit
  have B_is_digit := U_is_digit.binds (ps := ["octet"]) fun _ _ _ _ _ _ us hl => match us, hl with | [_], _ => rfl
  have U_is_letter := fun_mk (st := s_is_letter) l_is_letter c_is_letter k_is_letter
  have B_is_letter := U_is_letter.binds (ps := ["octet"]) fun _ _ _ _ _ _ us hl => match us, hl with | [_], _ => rfl
  have U_lower := fun_mk (st := s_lower) l_lower c_lower k_lower
  have B_lower := U_lower.binds (ps := ["text"]) fun _ _ _ _ _ _ us hl => match us, hl with | [_], _ => rfl
  have U_read_port := fun_mk (st := s_read_port) l_read_port c_read_port k_read_port
  have B_read_port := U_read_port.binds (ps := ["octets"]) fun _ _ _ _ _ _ us hl => match us, hl with | [_], _ => rfl
  have U_is_value_sign := fun_mk (st := s_is_value_sign) l_is_value_sign c_is_value_sign k_is_value_sign
  have B_is_value_sign := U_is_value_sign.binds (ps := ["octet"]) fun _ _ _ _ _ _ us hl => match us, hl with | [_], _ => rfl
  have U_sign_of := fun_mk (st := s_sign_of) l_sign_of c_sign_of k_sign_of
  have B_sign_of := U_sign_of.binds (ps := ["octet"]) fun _ _ _ _ _ _ us hl => match us, hl with | [_], _ => rfl
  have U_to_text := fun_mk (st := s_to_text) l_to_text c_to_text k_to_text
  have B_to_text := U_to_text.binds (ps := ["octets"]) fun _ _ _ _ _ _ us hl => match us, hl with | [_], _ => rfl
  have U_read_authority := fun_mk (st := s_read_authority) l_read_authority c_read_authority k_read_authority
  have B_read_authority := U_read_authority.binds (ps := ["octets", "needs_port"]) fun _ _ _ _ _ _ us hl => match us, hl with | [_, _], _ => rfl
  have U_to_octets := fun_mk (st := s_to_octets) l_to_octets c_to_octets k_to_octets
  have B_to_octets := U_to_octets.binds (ps := ["text"]) fun _ _ _ _ _ _ us hl => match us, hl with | [_], _ => rfl
  have U_read_host := fun_mk (st := s_read_host) l_read_host c_read_host k_read_host
  have B_read_host := U_read_host.binds (ps := ["value"]) fun _ _ _ _ _ _ us hl => match us, hl with | [_], _ => rfl
  have U_lower_octet := fun_mk (st := s_lower_octet) l_lower_octet c_lower_octet k_lower_octet
  have B_lower_octet := U_lower_octet.binds (ps := ["octet"]) fun _ _ _ _ _ _ us hl => match us, hl with | [_], _ => rfl
  have U_hex_digit := fun_mk (st := s_hex_digit) l_hex_digit c_hex_digit k_hex_digit
  have B_hex_digit := U_hex_digit.binds (ps := ["octet"]) fun _ _ _ _ _ _ us hl => match us, hl with | [_], _ => rfl
  have U_code_at := fun_mk (st := s_code_at) l_code_at c_code_at k_code_at
  have B_code_at := U_code_at.binds (ps := ["octets", "at"]) fun _ _ _ _ _ _ us hl => match us, hl with | [_, _], _ => rfl
  have U_decode := fun_mk (st := s_decode) l_decode c_decode k_decode
  have B_decode := U_decode.binds (ps := ["octets"]) fun _ _ _ _ _ _ us hl => match us, hl with | [_], _ => rfl
  have U_is_good := fun_mk (st := s_is_good) l_is_good c_is_good k_is_good
  have B_is_good := U_is_good.binds (ps := ["octets"]) fun _ _ _ _ _ _ us hl => match us, hl with | [_], _ => rfl
  have U_read_place := fun_mk (st := s_read_place) l_read_place c_read_place k_read_place
  have B_read_place := U_read_place.binds (ps := ["octets"]) fun _ _ _ _ _ _ us hl => match us, hl with | [_], _ => rfl
  have U_read_absolute := fun_mk (st := s_read_absolute) l_read_absolute c_read_absolute k_read_absolute
  have B_read_absolute := U_read_absolute.binds (ps := ["target"]) fun _ _ _ _ _ _ us hl => match us, hl with | [_], _ => rfl
  have U_read_target := fun_mk (st := s_read_target) l_read_target c_read_target k_read_target
  have B_read_target := U_read_target.binds (ps := ["method", "target"]) fun _ _ _ _ _ _ us hl => match us, hl with | [_, _], _ => rfl
  have U_law := fun_mk (st := s_law) l_law c_law k_law
  have B_law := U_law.binds (ps := ["_law_script"]) fun _ _ _ _ _ _ us hl => match us, hl with | [_], _ => rfl
  exact ⟨{
    f_L_take := AL_take
    d_L_take := _
    u_L_take := U_L_take
    k_L_take := k_L_take
    b_L_take := B_L_take
    m_L_take := PySem.W.mg_of X G a_L_take
    f_L_host := AL_host
    d_L_host := _
    u_L_host := U_L_host
    k_L_host := k_L_host
    b_L_host := B_L_host
    m_L_host := PySem.W.mg_of X G a_L_host
    f_L_joined := AL_joined
    d_L_joined := _
    u_L_joined := U_L_joined
    k_L_joined := k_L_joined
    b_L_joined := B_L_joined
    m_L_joined := PySem.W.mg_of X G a_L_joined
    f_L_octets := AL_octets
    d_L_octets := _
    u_L_octets := U_L_octets
    k_L_octets := k_L_octets
    b_L_octets := B_L_octets
    m_L_octets := PySem.W.mg_of X G a_L_octets
    f_L_place := AL_place
    d_L_place := _
    u_L_place := U_L_place
    k_L_place := k_L_place
    b_L_place := B_L_place
    m_L_place := PySem.W.mg_of X G a_L_place
    f_L_absolute := AL_absolute
    d_L_absolute := _
    u_L_absolute := U_L_absolute
    k_L_absolute := k_L_absolute
    b_L_absolute := B_L_absolute
    m_L_absolute := PySem.W.mg_of X G a_L_absolute
    f_L_draw := AL_draw
    d_L_draw := _
    u_L_draw := U_L_draw
    k_L_draw := k_L_draw
    b_L_draw := B_L_draw
    m_L_draw := PySem.W.mg_of X G a_L_draw
    f_L_origin := AL_origin
    d_L_origin := _
    u_L_origin := U_L_origin
    k_L_origin := k_L_origin
    b_L_origin := B_L_origin
    m_L_origin := PySem.W.mg_of X G a_L_origin
    f_cut_at := Acut_at
    d_cut_at := _
    u_cut_at := U_cut_at
    k_cut_at := k_cut_at
    b_cut_at := B_cut_at
    m_cut_at := PySem.W.mg_of X G a_cut_at
    f_is_digit := Ais_digit
    d_is_digit := _
    u_is_digit := U_is_digit
    k_is_digit := k_is_digit
    b_is_digit := B_is_digit
    m_is_digit := PySem.W.mg_of X G a_is_digit
    f_is_letter := Ais_letter
    d_is_letter := _
    u_is_letter := U_is_letter
    k_is_letter := k_is_letter
    b_is_letter := B_is_letter
    m_is_letter := PySem.W.mg_of X G a_is_letter
    f_lower := Alower
    d_lower := _
    u_lower := U_lower
    k_lower := k_lower
    b_lower := B_lower
    m_lower := PySem.W.mg_of X G a_lower
    f_read_port := Aread_port
    d_read_port := _
    u_read_port := U_read_port
    k_read_port := k_read_port
    b_read_port := B_read_port
    m_read_port := PySem.W.mg_of X G a_read_port
    f_is_value_sign := Ais_value_sign
    d_is_value_sign := _
    u_is_value_sign := U_is_value_sign
    k_is_value_sign := k_is_value_sign
    b_is_value_sign := B_is_value_sign
    m_is_value_sign := PySem.W.mg_of X G a_is_value_sign
    f_sign_of := Asign_of
    d_sign_of := _
    u_sign_of := U_sign_of
    k_sign_of := k_sign_of
    b_sign_of := B_sign_of
    m_sign_of := PySem.W.mg_of X G a_sign_of
    f_to_text := Ato_text
    d_to_text := _
    u_to_text := U_to_text
    k_to_text := k_to_text
    b_to_text := B_to_text
    m_to_text := PySem.W.mg_of X G a_to_text
    f_read_authority := Aread_authority
    d_read_authority := _
    u_read_authority := U_read_authority
    k_read_authority := k_read_authority
    b_read_authority := B_read_authority
    m_read_authority := PySem.W.mg_of X G a_read_authority
    f_to_octets := Ato_octets
    d_to_octets := _
    u_to_octets := U_to_octets
    k_to_octets := k_to_octets
    b_to_octets := B_to_octets
    m_to_octets := PySem.W.mg_of X G a_to_octets
    f_read_host := Aread_host
    d_read_host := _
    u_read_host := U_read_host
    k_read_host := k_read_host
    b_read_host := B_read_host
    m_read_host := PySem.W.mg_of X G a_read_host
    f_lower_octet := Alower_octet
    d_lower_octet := _
    u_lower_octet := U_lower_octet
    k_lower_octet := k_lower_octet
    b_lower_octet := B_lower_octet
    m_lower_octet := PySem.W.mg_of X G a_lower_octet
    f_hex_digit := Ahex_digit
    d_hex_digit := _
    u_hex_digit := U_hex_digit
    k_hex_digit := k_hex_digit
    b_hex_digit := B_hex_digit
    m_hex_digit := PySem.W.mg_of X G a_hex_digit
    f_code_at := Acode_at
    d_code_at := _
    u_code_at := U_code_at
    k_code_at := k_code_at
    b_code_at := B_code_at
    m_code_at := PySem.W.mg_of X G a_code_at
    f_decode := Adecode
    d_decode := _
    u_decode := U_decode
    k_decode := k_decode
    b_decode := B_decode
    m_decode := PySem.W.mg_of X G a_decode
    f_is_good := Ais_good
    d_is_good := _
    u_is_good := U_is_good
    k_is_good := k_is_good
    b_is_good := B_is_good
    m_is_good := PySem.W.mg_of X G a_is_good
    f_read_place := Aread_place
    d_read_place := _
    u_read_place := U_read_place
    k_read_place := k_read_place
    b_read_place := B_read_place
    m_read_place := PySem.W.mg_of X G a_read_place
    f_read_absolute := Aread_absolute
    d_read_absolute := _
    u_read_absolute := U_read_absolute
    k_read_absolute := k_read_absolute
    b_read_absolute := B_read_absolute
    m_read_absolute := PySem.W.mg_of X G a_read_absolute
    f_read_target := Aread_target
    d_read_target := _
    u_read_target := U_read_target
    k_read_target := k_read_target
    b_read_target := B_read_target
    m_read_target := PySem.W.mg_of X G a_read_target
    f_law := fa
    d_law := _
    u_law := U_law
    k_law := k_law
    b_law := B_law
    m_law := PySem.W.mg_of X G a_law
    n_abs := PySem.W.mg_none_of X G z_abs
    n_enumerate := PySem.W.mg_none_of X G z_enumerate
    n_int := PySem.W.mg_none_of X G z_int
    n_len := PySem.W.mg_none_of X G z_len
    n_ord := PySem.W.mg_none_of X G z_ord
    n_range := PySem.W.mg_none_of X G z_range
    n_tuple := PySem.W.mg_none_of X G z_tuple
    g_COLON := ⟨.int 58, _, PySem.W.mg_of X G g_COLON, ⟨_, rfl⟩, fun m H => .int _⟩
    g_PERCENT_octets := ⟨.int 37, _, PySem.W.mg_of X G g_PERCENT_octets, ⟨_, rfl⟩, fun m H => .int _⟩
    g_PERCENT_targets := ⟨.int 37, _, PySem.W.mg_of X G g_PERCENT_targets, ⟨_, rfl⟩, fun m H => .int _⟩
    g_QUESTION := ⟨.int 63, _, PySem.W.mg_of X G g_QUESTION, ⟨_, rfl⟩, fun m H => .int _⟩
    g_SCHEME := ⟨.ref RSCHEME, _, PySem.W.mg_of X G g_SCHEME, rfl, fun m H => .tup (.inr ⟨_, ISCHEME, NSCHEME, gl_SCHEME, rfl, rfl, rfl, gv_SCHEME.2, gv_SCHEME.1⟩) (.cons (.int _) (.cons (.int _) (.cons (.int _) (.cons (.int _) (.cons (.int _) (.cons (.int _) (.cons (.int _) .nil)))))))⟩
    g_SIGNS := ⟨.str " !\"#$&'()*+,-./0123456789:;<=>?@ABCDEFGHIJKLMNOPQRSTUVWXYZ[\\]^_`abcdefghijklmnopqrstuvwxyz{|}~", _, PySem.W.mg_of X G g_SIGNS, ⟨_, rfl⟩, fun m H => .str _⟩
    g_SLASH := ⟨.int 47, _, PySem.W.mg_of X G g_SLASH, ⟨_, rfl⟩, fun m H => .int _⟩
    g_TAB := ⟨.int 9, _, PySem.W.mg_of X G g_TAB, ⟨_, rfl⟩, fun m H => .int _⟩ }, rfl, fun s v => .of_eq rfl⟩
def spLaw (K : PySem.W.Frag) : Sp := fun vs H Q _ => ∃ (a : Addr) (ns : List Int), vs = [.ref a] ∧ Only H ∧ SqL K H a (ns.map V.int) ∧ ns.length ≤ 63 ∧ ∀ H', Q (.bl true) H'
theorem law_sp {P : Program} {w : World} {K : PySem.W.Frag} {mg : Str → Option Value} {base : Heap} (T : Tx K mg) : FnOk P w K mg base CX0 9 T.f_law T.d_law ["_law_script"] (spLaw K) :=
  (ok_law T).imp fun vs H Q E h => law_to law_true h
theorem walk {l : PySem.W.OpenLaw} {q : Program} {loose : List Str} {XP : (Str → Option Value) → Heap → Prop} {YP : World → Heap → Prop} {d : DefRec} {K : Params → PySem.W.Frag} (hn : l.most = some 63) (hdf : d.params.defaults = [])
    (hY : ∀ (w : World) (h : Heap), YP w h → (K w.params).In h)
    (F : ∀ (w : World) (mg : Str → Option Value) (fa : Addr) (h : Heap), (K w.params).In h → h.Ns mainGlobals mg → mg d.name = some (.ref fa) →
      ∃ T : Tx (K w.params) mg, T.f_law = fa ∧ ∀ (s : Shared) (v : Value), BindsTo s T.d_law ⟨[v], []⟩ [("_law_script", v)]) :
    PySem.W.WalkO q loose XP YP l.row.toRowW d [] (fun f vs => PySem.call f vs) :=
  L2.walk_of (n := 63) (k := 9) (x := "_law_script") (CX := fun _ => CX0) (sp := fun w => spLaw (K w.params)) hn (by decide) hdf ⟨rfl, by decide, by decide⟩ hY
    (fun w mg fa h KX G hm => by
      obtain ⟨T, e, b⟩ := F w mg fa h KX G hm
      subst e
      exact ⟨T.d_law, b, fun base _ _ => law_sp T⟩)
    (fun _ _ a ns hl hO hS => ⟨a, ns, rfl, hO, hS, hl, fun _ => rfl⟩) fun _ _ _ _ _ z => z
end K57
open PySem PySem.W PyProof.Rows in
set_option maxRecDepth 100000 in
set_option maxHeartbeats 0 in
theorem PySem.Challenge.cw_ownanswer_k57_targets_and_hosts_holds : PySem.Challenge.rw_ownanswer_k57_targets_and_hosts.Holds := by
  w_on; o_law; k_head; (case hw => w_witness2)
  k_fill
  refine K57.walk (l := PySem.Challenge.rw_ownanswer_k57_targets_and_hosts) rfl rfl (fun w h Y => PySem.W.kIn_of Y) ?F
  case F =>
    intro w mg fa h KX G hmg
    refine' K57.tx_mk KX G hmg ?a_L_take ?l_L_take ?c_L_take ?k_L_take ?a_L_host ?l_L_host ?c_L_host ?k_L_host ?a_L_joined ?l_L_joined ?c_L_joined ?k_L_joined ?a_L_octets ?l_L_octets ?c_L_octets ?k_L_octets ?a_L_place ?l_L_place ?c_L_place ?k_L_place ?a_L_absolute ?l_L_absolute ?c_L_absolute ?k_L_absolute ?a_L_draw ?l_L_draw ?c_L_draw ?k_L_draw ?a_L_origin ?l_L_origin ?c_L_origin ?k_L_origin ?a_cut_at ?l_cut_at ?c_cut_at ?k_cut_at ?a_is_digit ?l_is_digit ?c_is_digit ?k_is_digit ?a_is_letter ?l_is_letter ?c_is_letter ?k_is_letter ?a_lower ?l_lower ?c_lower ?k_lower ?a_read_port ?l_read_port ?c_read_port ?k_read_port ?a_is_value_sign ?l_is_value_sign ?c_is_value_sign ?k_is_value_sign ?a_sign_of ?l_sign_of ?c_sign_of ?k_sign_of ?a_to_text ?l_to_text ?c_to_text ?k_to_text ?a_read_authority ?l_read_authority ?c_read_authority ?k_read_authority ?a_to_octets ?l_to_octets ?c_to_octets ?k_to_octets ?a_read_host ?l_read_host ?c_read_host ?k_read_host ?a_lower_octet ?l_lower_octet ?c_lower_octet ?k_lower_octet ?a_hex_digit ?l_hex_digit ?c_hex_digit ?k_hex_digit ?a_code_at ?l_code_at ?c_code_at ?k_code_at ?a_decode ?l_decode ?c_decode ?k_decode ?a_is_good ?l_is_good ?c_is_good ?k_is_good ?a_read_place ?l_read_place ?c_read_place ?k_read_place ?a_read_absolute ?l_read_absolute ?c_read_absolute ?k_read_absolute ?a_read_target ?l_read_target ?c_read_target ?k_read_target ?a_law ?l_law ?c_law ?k_law ?z_abs ?z_enumerate ?z_int ?z_len ?z_ord ?z_range ?z_tuple ?g_COLON ?g_PERCENT_octets ?g_PERCENT_targets ?g_QUESTION ?g_SCHEME ?gl_SCHEME ?gv_SCHEME ?g_SIGNS ?g_SLASH ?g_TAB
    (case a_L_take => k_is)
    (case l_L_take => k_is)
    (case c_L_take => k_is)
    (case k_L_take => k_is)
    (case a_L_host => k_is)
    (case l_L_host => k_is)
    (case c_L_host => k_is)
    (case k_L_host => k_is)
    (case a_L_joined => k_is)
    (case l_L_joined => k_is)
    (case c_L_joined => k_is)
    (case k_L_joined => k_is)
    (case a_L_octets => k_is)
    (case l_L_octets => k_is)
    (case c_L_octets => k_is)
    (case k_L_octets => k_is)
    (case a_L_place => k_is)
    (case l_L_place => k_is)
    (case c_L_place => k_is)
    (case k_L_place => k_is)
    (case a_L_absolute => k_is)
    (case l_L_absolute => k_is)
    (case c_L_absolute => k_is)
    (case k_L_absolute => k_is)
    (case a_L_draw => k_is)
    (case l_L_draw => k_is)
    (case c_L_draw => k_is)
    (case k_L_draw => k_is)
    (case a_L_origin => k_is)
    (case l_L_origin => k_is)
    (case c_L_origin => k_is)
    (case k_L_origin => k_is)
    (case a_cut_at => k_is)
    (case l_cut_at => k_is)
    (case c_cut_at => k_is)
    (case k_cut_at => k_is)
    (case a_is_digit => k_is)
    (case l_is_digit => k_is)
    (case c_is_digit => k_is)
    (case k_is_digit => k_is)
    (case a_is_letter => k_is)
    (case l_is_letter => k_is)
    (case c_is_letter => k_is)
    (case k_is_letter => k_is)
    (case a_lower => k_is)
    (case l_lower => k_is)
    (case c_lower => k_is)
    (case k_lower => k_is)
    (case a_read_port => k_is)
    (case l_read_port => k_is)
    (case c_read_port => k_is)
    (case k_read_port => k_is)
    (case a_is_value_sign => k_is)
    (case l_is_value_sign => k_is)
    (case c_is_value_sign => k_is)
    (case k_is_value_sign => k_is)
    (case a_sign_of => k_is)
    (case l_sign_of => k_is)
    (case c_sign_of => k_is)
    (case k_sign_of => k_is)
    (case a_to_text => k_is)
    (case l_to_text => k_is)
    (case c_to_text => k_is)
    (case k_to_text => k_is)
    (case a_read_authority => k_is)
    (case l_read_authority => k_is)
    (case c_read_authority => k_is)
    (case k_read_authority => k_is)
    (case a_to_octets => k_is)
    (case l_to_octets => k_is)
    (case c_to_octets => k_is)
    (case k_to_octets => k_is)
    (case a_read_host => k_is)
    (case l_read_host => k_is)
    (case c_read_host => k_is)
    (case k_read_host => k_is)
    (case a_lower_octet => k_is)
    (case l_lower_octet => k_is)
    (case c_lower_octet => k_is)
    (case k_lower_octet => k_is)
    (case a_hex_digit => k_is)
    (case l_hex_digit => k_is)
    (case c_hex_digit => k_is)
    (case k_hex_digit => k_is)
    (case a_code_at => k_is)
    (case l_code_at => k_is)
    (case c_code_at => k_is)
    (case k_code_at => k_is)
    (case a_decode => k_is)
    (case l_decode => k_is)
    (case c_decode => k_is)
    (case k_decode => k_is)
    (case a_is_good => k_is)
    (case l_is_good => k_is)
    (case c_is_good => k_is)
    (case k_is_good => k_is)
    (case a_read_place => k_is)
    (case l_read_place => k_is)
    (case c_read_place => k_is)
    (case k_read_place => k_is)
    (case a_read_absolute => k_is)
    (case l_read_absolute => k_is)
    (case c_read_absolute => k_is)
    (case k_read_absolute => k_is)
    (case a_read_target => k_is)
    (case l_read_target => k_is)
    (case c_read_target => k_is)
    (case k_read_target => k_is)
    (case a_law => k_is)
    (case l_law => k_is)
    (case c_law => k_is)
    (case k_law => k_is)
    (case z_abs => k_is)
    (case z_enumerate => k_is)
    (case z_int => k_is)
    (case z_len => k_is)
    (case z_ord => k_is)
    (case z_range => k_is)
    (case z_tuple => k_is)
    (case g_COLON => k_is)
    (case g_PERCENT_octets => k_is)
    (case g_PERCENT_targets => k_is)
    (case g_QUESTION => k_is)
    (case g_SCHEME => k_is)
    (case gl_SCHEME => k_is)
    (case gv_SCHEME => exact ⟨by repeat (first | exact .nil | refine .cons ⟨_, rfl⟩ ?_), by decide⟩)
    (case g_SIGNS => k_is)
    (case g_SLASH => k_is)
    (case g_TAB => k_is)
